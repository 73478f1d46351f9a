import PyProof.Rows.All
import Wide.All
import OpenK.AllK
import Wide.FinOn
import HandS.ForMost
import HandS.Flow
import HandS.Wide
import HandS.Zip
import HandS.TupAny
import HandS.Deep
import HandS.Style
import HandS.IsInst
import HandS.NoneIn
import HandS.Codes
import HandS.Defaults
import HandS.Head0
import HandS.Head1
import HandS.Head2
import HandS.HeadEnd
import HandS.HeadHook1
import HandS.HeadHook2
import HandS.HeadHook3
import HandS.HeadHook4
import KE.KRevSl
import HandS.ForExc
import HandS.ExcInit
import HandS.HotCalls
import HandS.ExcField
import HandS.CallLocal
import KE.KExcIs
import HandS.ExcIs
import HandS.Dict
import HandS.TupMul
import PyProof.StrOps2
import HandS.TupLe
import KE.DataMinMax
import KE.SortData
import KE.KDictDisplayH
import HandS.Iter
import PyProof.ListStr
import HandS.StrMore
import KE.GoesMore
import PyProof.EnumMake
import HandS.Conv
import HandS.ReCall
import HandS.Strs
import PyProof.StrWalks
import PyProof.Ascii
import HandS.More
import HandS.Text
import HandS.FStr
import KE.KDictZip
import HandS.ExcValue
import PyProof.TableCode
import PySem.Challenge.RW_pricebend_k17_refusals_made
set_option linter.all false
set_option maxRecDepth 100000
namespace PB
/-- data -/
inductive D where
  | non | bl (b:Bool) | int (i:Int) | str (s:List Nat) | tup (ds:List D) | lst (ds:List D) | ref (a:Nat) | dct (t:Bool) (ks vs:List D)
instance:Inhabited D:=⟨.non⟩
structure Xn where
  cls:Nat
  fld:Option D
/-- what a piece of code comes to: a value,an exception,or it is not known -/
inductive Rs (γ α:Type) where
  | ok (a:α) (g:γ) | ex (x:Xn) (g:γ) | no
/-- a name's slot: nothing known; data; a list that this name alone holds; a caught exception; a thing that stands beside -/
inductive Sl where
  | un | dat (d:D) | own (ds:List D) | xc (x:Xn) | gh (k:Nat) | owd (t:Bool) (ks vs:List D)
/-- a value: data that may be kept; a new list; a list that a name holds -/
inductive Rv where
  | dat (d:D) | own (ds:List D) | bor (ds:List D) | odt (t:Bool) (ks vs:List D) | bdt (t:Bool) (ks vs:List D)
abbrev Env:=List Sl
inductive Fl where
  | nx (e:Env) | rt (r:Rv) | bk (e:Env) | ct (e:Env)
section
variable {γ α β:Type}
def Rs.bind (m:Rs γ α) (f:α→γ→Rs γ β):Rs γ β:=match m with
  | .ok a g=>f a g
  | .ex x g=>.ex x g
  | .no=>.no
@[simp] theorem Rs.bind_ok (a:α) (g:γ) (f:α→γ→Rs γ β):(Rs.ok a g).bind f=f a g:=rfl
@[simp] theorem Rs.bind_no (f:α→γ→Rs γ β):(Rs.no:Rs γ α).bind f = .no:=rfl
@[simp] theorem Rs.bind_ex (x:Xn) (g:γ) (f:α→γ→Rs γ β):(Rs.ex x g).bind f = .ex x g:=rfl
def ofO (o:Option α) (g:γ):Rs γ α:=match o with
  | some a=>.ok a g
  | none=>.no
@[simp] theorem ofO_some (a:α) (g:γ):ofO (some a) g=Rs.ok a g:=rfl
@[simp] theorem ofO_none (g:γ):(ofO none g:Rs γ α)=Rs.no:=rfl
end
abbrev ME (γ:Type):=Env→γ→Rs γ Rv
abbrev MT (γ:Type):=Env→γ→Rs γ Bool
abbrev MA (γ:Type):=Env→γ→Rs γ (List Rv)
abbrev MI (γ:Type):=Env→γ→Rs γ (List D)
abbrev MS (γ:Type):=Env→γ→Rs γ Fl
/-- a def: its arguments,what it comes to -/
abbrev MF (γ:Type):=List D→γ→Rs γ Rv
def gt:Env→Nat→Sl
  | [],_=>.un
  | s :: _,0=>s
  | _ :: r,i + 1=>gt r i
def st:Env→Nat→Sl→Env
  | [],_,_=>[]
  | _ :: r,0,x=>x :: r
  | s :: r,i + 1,x=>s :: st r i x
@[simp] def Rv.val:Rv→D
  | .dat d=>d
  | .own ds=>.lst ds
  | .bor ds=>.lst ds
  | .odt t ks vs=>.dct t ks vs
  | .bdt t ks vs=>.dct t ks vs
/-- the value as it may be kept within something -/
@[simp] def Rv.sto:Rv→Option D
  | .dat d=>some d
  | .own ds=>some (.lst ds)
  | .bor _=>none
  | .odt t ks vs=>some (.dct t ks vs)
  | .bdt _ _ _=>none
/-- .. as a slot's -/
@[simp] def Rv.slot:Rv→Option Sl
  | .dat d=>some (.dat d)
  | .own ds=>some (.own ds)
  | .bor _=>none
  | .odt t ks vs=>some (.owd t ks vs)
  | .bdt _ _ _=>none
/-- the items of a list of either kind -/
@[simp] def Rv.items:Rv→Option (List D)
  | .dat (.lst ds)=>some ds
  | .own ds=>some ds
  | .bor ds=>some ds
  | _=>none
def stoL:List Rv→Option (List D)
  | []=>some []
  | r :: rs=>match r.sto,stoL rs with
    | some d,some ds=>some (d :: ds)
    | _,_=>none
abbrev SZ:Nat:=16777216
def ixN (n:Nat) (i:Int):Option Nat:=if 0≤i then (if i < n then some i.toNat else none) else if -(n:Int)≤i then some (i + n).toNat else none
def atI {α:Type} (xs:List α) (i:Int):Option α:=(ixN xs.length i).bind fun j=>xs[j]?
def sIx (n d:Nat):Option Int→Nat
  | none=>d
  | some v=>if v < 0 then (v + (n:Int)).toNat else min v.toNat n
def cut {α:Type} (xs:List α) (lo hi:Option Int):List α:=(xs.drop (sIx xs.length 0 lo)).take (sIx xs.length xs.length hi - sIx xs.length 0 lo)
mutual
def eqv:D→D→Bool
  | .non,.non=>true
  | .bl a,.bl b=>a == b
  | .bl a,.int j=>(if a then 1 else 0) == j
  | .int i,.bl b=>i == (if b then 1 else 0)
  | .int i,.int j=>i == j
  | .str x,.str y=>x == y
  | .tup xs,.tup ys=>eqvL xs ys
  | .lst xs,.lst ys=>eqvL xs ys
  | _,_=>false
def eqvL:List D→List D→Bool
  | [],[]=>true
  | x :: xs,y :: ys=>eqv x y && eqvL xs ys
  | _,_=>false
end
mutual
/-- no references within,not deeper than n -/
def okE:Nat→D→Bool
  | _,.non=>true
  | _,.bl _=>true
  | _,.int _=>true
  | _,.str _=>true
  | 0,.tup _=>false
  | 0,.lst _=>false
  | n + 1,.tup ds=>okL n ds
  | n + 1,.lst ds=>okL n ds
  | _,.ref _=>false
  | _,.dct _ _ _=>false
def okL:Nat→List D→Bool
  | _,[]=>true
  | n,d :: ds=>okE n d && okL n ds
end
/-- scalars -/
@[simp] def scl:D→Bool
  | .non=>true | .bl _=>true | .int _=>true | .str _=>true | _=>false
def eqD (x y:D):Option Bool:=if okE 60 x=true∧okE 60 y=true then some (eqv x y) else none
abbrev Op1:=Rv→Option Rv
abbrev Op2:=Rv→Rv→Option Rv
def MulOk (i j:Int):Prop:=i.natAbs.log2 + j.natAbs.log2 < 1000000
instance (i j:Int):Decidable (MulOk i j):=inferInstanceAs (Decidable (_ < _))
def DivOk (j:Int):Prop:=0 < j∧j.natAbs.log2 < 9000
instance (j:Int):Decidable (DivOk j):=inferInstanceAs (Decidable (_∧_))
def PowOk (i j:Int):Prop:=0≤j∧j≤1000000∧i.natAbs < 2 ^ 64
instance (i j:Int):Decidable (PowOk i j):=inferInstanceAs (Decidable (_∧_))
def RngOk (n:Int):Prop:=n.natAbs.log2 < 62
instance (n:Int):Decidable (RngOk n):=inferInstanceAs (Decidable (_ < _))
/-- a + b -/
def oAdd:Op2
  | .dat (.int i),.dat (.int j)=>some (.dat (.int (i + j)))
  | .dat (.str s),.dat (.str t)=>if s.length + t.length≤SZ then some (.dat (.str (s ++ t))) else none
  | .dat (.tup s),.dat (.tup t)=>if s.length + t.length≤SZ then some (.dat (.tup (s ++ t))) else none
  | x,y=>match x.items,y.items with
    | some s,some t=>if s.length + t.length≤SZ then some (.own (s ++ t)) else none
    | _,_=>none
def oSub:Op2
  | .dat (.int i),.dat (.int j)=>some (.dat (.int (i - j)))
  | _,_=>none
def oMul:Op2
  | .dat (.int i),.dat (.int j)=>if MulOk i j then some (.dat (.int (i * j))) else none
  | _,_=>none
def oDiv:Op2
  | .dat (.int i),.dat (.int j)=>if DivOk j then some (.dat (.int (i / j))) else none
  | _,_=>none
def oMod:Op2
  | .dat (.int i),.dat (.int j)=>if 0 < j then some (.dat (.int (i % j))) else none
  | _,_=>none
def oPow:Op2
  | .dat (.int i),.dat (.int j)=>if PowOk i j then some (.dat (.int (i ^ j.toNat))) else none
  | _,_=>none
def dB (b:Bool):Rv:=.dat (.bl b)
def oEq:Op2:=fun x y=>(eqD x.val y.val).map dB
def oNe:Op2:=fun x y=>(eqD x.val y.val).map fun b=>dB (!b)
def oLt:Op2
  | .dat (.int i),.dat (.int j)=>some (dB (decide (i < j)))
  | _,_=>none
def oLe:Op2
  | .dat (.int i),.dat (.int j)=>some (dB (decide (i≤j)))
  | _,_=>none
def oGt:Op2
  | .dat (.int i),.dat (.int j)=>some (dB (decide (j < i)))
  | _,_=>none
def oGe:Op2
  | .dat (.int i),.dat (.int j)=>some (dB (decide (j≤i)))
  | _,_=>none
@[simp] def isNon:D→Bool
  | .non=>true
  | _=>false
def oIsN:Op1
  | .dat (.ref _)=>none
  | .odt _ _ _=>none
  | .bdt _ _ _=>none
  | x=>some (dB (isNon x.val))
/-- x in a list or tuple -/
def oIn:Op2
  | .dat x,.dat (.tup ds)=>if scl x=true∧ds.all scl=true then some (dB (ds.any fun d=>eqv d x)) else none
  | x,y=>match y.items with
    | some ds=>if okE 60 x.val=true∧okL 59 ds=true then some (dB (ds.any fun d=>eqv d x.val)) else none
    | none=>none
def oNi:Op2
  | .dat x,.dat (.tup ds)=>if scl x=true∧ds.all scl=true then some (dB (!ds.any fun d=>eqv d x)) else none
  | x,y=>match y.items with
    | some ds=>if okE 60 x.val=true∧okL 59 ds=true then some (dB (!ds.any fun d=>eqv d x.val)) else none
    | none=>none
/-- a[i] -/
def oIx:Op2
  | .dat (.tup ds),.dat (.int i)=>(atI ds i).map .dat
  | .dat (.str s),.dat (.int i)=>(atI s i).map fun c=>.dat (.str [c])
  | x,.dat (.int i)=>match x.items with
    | some ds=>(atI ds i).map .dat
    | none=>none
  | _,_=>none
/-- a[lo:hi] -/
def oCut (x:Rv) (lo hi:Option Int):Option Rv:=match x with
  | .dat (.tup ds)=>some (.dat (.tup (cut ds lo hi)))
  | .dat (.str s)=>some (.dat (.str (cut s lo hi)))
  | x=>match x.items with
    | some ds=>some (.own (cut ds lo hi))
    | none=>none
abbrev OpN:=List Rv→Option Rv
def oLen:OpN
  | [.dat (.str s)]=>some (.dat (.int s.length))
  | [.dat (.tup ds)]=>some (.dat (.int ds.length))
  | [x]=>x.items.map fun ds=>.dat (.int ds.length)
  | _=>none
def oAbs:OpN
  | [.dat (.int i)]=>some (.dat (.int (if i < 0 then -i else i)))
  | _=>none
/-- a list of dInts -/
def dInts:List D→Option (List Int)
  | []=>some []
  | .int i :: ds=>(dInts ds).map (i :: ·)
  | _ :: _=>none
def dBls:List D→Option (List Bool)
  | []=>some []
  | .bl b :: ds=>(dBls ds).map (b :: ·)
  | _ :: _=>none
def dStrs:List D→Option (List (List Nat))
  | []=>some []
  | .str b :: ds=>(dStrs ds).map (b :: ·)
  | _ :: _=>none
def oSum:OpN
  | [x]=>match x.items with
    | some ds=>(dInts ds).map fun ns=>.dat (.int ns.sum)
    | none=>none
  | _=>none
def lmin:Int→List Int→Int
  | m,[]=>m
  | m,x :: xs=>lmin (if x < m then x else m) xs
def oAll:OpN
  | [x]=>match x.items with
    | some ds=>(dBls ds).map fun bs=>dB (bs.all id)
    | none=>none
  | _=>none
/-- tuple(x) -/
def oTuple:OpN
  | [.dat (.tup ds)]=>some (.dat (.tup ds))
  | [x]=>x.items.map fun ds=>.dat (.tup ds)
  | _=>none
/-- int(x) of an int,a bool -/
def oInt:OpN
  | [.dat (.int i)]=>some (.dat (.int i))
  | [.dat (.bl b)]=>some (.dat (.int (if b then 1 else 0)))
  | _=>none
/-- isinstance(x,T),T a built-in class -/
inductive Ty where
  | int | bool | str | tuple | list
@[simp] def isTy:Ty→D→Bool
  | .int,.int _=>true
  | .int,.bl _=>true
  | .bool,.bl _=>true
  | .str,.str _=>true
  | .tuple,.tup _=>true
  | .list,.lst _=>true
  | _,_=>false
def oIs (T:Ty):Op1
  | .dat (.ref _)=>none
  | .dat (.dct _ _ _)=>none
  | .odt _ _ _=>none
  | .bdt _ _ _=>none
  | x=>some (dB (isTy T x.val))
def joinL (sep:List Nat):List (List Nat)→List Nat
  | []=>[]
  | [x]=>x
  | x :: y :: r=>x ++ sep ++ joinL sep (y :: r)
/-- sep.join(xs) -/
def oJoin (sep:List Nat) (x:Rv):Option Rv:=match x.items with
  | some ds=>match dStrs ds with
    | some ss=>if (ss.map List.length).sum + sep.length * ss.length≤SZ then some (.dat (.str (joinL sep ss))) else none
    | none=>none
  | none=>none
/-- the truth of a value -/
def oTru:Rv→Option Bool
  | .dat .non=>some false
  | .dat (.bl b)=>some b
  | .dat (.int i)=>some (i != 0)
  | .dat (.str s)=>some (!s.isEmpty)
  | .dat (.tup s)=>some (!s.isEmpty)
  | .dat (.ref _)=>none
  | x=>x.items.map fun ds => !ds.isEmpty
section
variable {γ:Type}
def Zaa (i:Nat):ME γ:=fun e g=>match gt e i with
  | .dat d=>.ok (.dat d) g
  | .own ds=>.ok (.bor ds) g
  | .owd t ks vs=>.ok (.bdt t ks vs) g
  | _=>.no
def mC (d:D):ME γ:=fun _ g=>.ok (.dat d) g
def ZaY (f:Op1) (a:ME γ):ME γ:=fun e g=>(a e g).bind fun x g1=>ofO (f x) g1
def Zad (f:Op2) (a b:ME γ):ME γ:=fun e g=>(a e g).bind fun x g1=>(b e g1).bind fun y g2=>ofO (f x y) g2
def Zal:MA γ:=fun _ g=>.ok [] g
def Zab (a:ME γ) (r:MA γ):MA γ:=fun e g=>(a e g).bind fun x g1=>(r e g1).bind fun xs g2=>.ok (x :: xs) g2
def Zca (f:OpN) (a:MA γ):ME γ:=fun e g=>(a e g).bind fun xs g1=>ofO (f xs) g1
def Zcq (a:MA γ):ME γ:=fun e g=>(a e g).bind fun xs g1=>match stoL xs with
  | some ds=>if ds.length≤SZ then .ok (.dat (.tup ds)) g1 else .no
  | none=>.no
def Za3 (a:MA γ):ME γ:=fun e g=>(a e g).bind fun xs g1=>match stoL xs with
  | some ds=>if ds.length≤SZ then .ok (.own ds) g1 else .no
  | none=>.no
/-- a[lo:hi],the ends written or left out -/
def Zgn (a:Option (ME γ)) (e:Env) (g:γ):Rs γ (Option Int):=match a with
  | none=>.ok none g
  | some m=>(m e g).bind fun x g1=>match x with
    | .dat (.int i)=>.ok (some i) g1
    | _=>.no
def ZeE (a:ME γ) (lo hi:Option (ME γ)):ME γ:=fun e g=>(a e g).bind fun x g1=>(Zgn lo e g1).bind fun l g2=>(Zgn hi e g2).bind fun h g3=>ofO (oCut x l h) g3
def mIf (t:MT γ) (a b:ME γ):ME γ:=fun e g=>(t e g).bind fun c g1=>match c with
  | true=>a e g1
  | false=>b e g1
/-- and,or,not of truths,as values -/
def ZbV (a b:ME γ):ME γ:=fun e g=>(a e g).bind fun x g1=>match x with
  | .dat (.bl true)=>b e g1
  | .dat (.bl false)=>.ok (dB false) g1
  | _=>.no
def mOrV (a b:ME γ):ME γ:=fun e g=>(a e g).bind fun x g1=>match x with
  | .dat (.bl true)=>.ok (dB true) g1
  | .dat (.bl false)=>b e g1
  | _=>.no
/-- tests -/
def Zan (a:ME γ):MT γ:=fun e g=>(a e g).bind fun x g1=>match x with
  | .dat (.bl c)=>.ok c g1
  | _=>.no
def mTru (a:ME γ):MT γ:=fun e g=>(a e g).bind fun x g1=>ofO (oTru x) g1
def ZeF (a b:MT γ):MT γ:=fun e g=>(a e g).bind fun c g1=>match c with
  | true=>b e g1
  | false=>.ok false g1
def mOr (a b:MT γ):MT γ:=fun e g=>(a e g).bind fun c g1=>match c with
  | true=>.ok true g1
  | false=>b e g1
def ZdL (a:MT γ):MT γ:=fun e g=>(a e g).bind fun c g1=>.ok (!c) g1
/-- the call of a def that no exception leaves: no list that a name holds is handed in -/
def okO {α:Type} (r:Rs γ α):Rs γ α:=match r with
  | .ok a g=>.ok a g
  | _=>.no
def Zat (F:MF γ) (a:MA γ):ME γ:=fun e g=>(a e g).bind fun xs g1=>match stoL xs with
  | some ds=>okO (F ds g1)
  | none=>.no
/-- a text's method,of one argument,of none -/
def mS1 (f:List Nat→Rv→Option Rv) (a b:ME γ):ME γ:=fun e g=>(a e g).bind fun x g1=>match x with
  | .dat (.str s)=>(b e g1).bind fun y g2=>ofO (f s y) g2
  | _=>.no
def seqOf:Rv→Option (List D)
  | .dat (.tup ds)=>some ds
  | .dat (.lst ds)=>some ds
  | .own ds=>some ds
  | _=>none
def ZcZ (a:ME γ):MI γ:=fun e g=>(a e g).bind fun x g1=>ofO (seqOf x) g1
def rng (i:Int):Nat→List D
  | 0=>[]
  | n + 1=>.int i :: rng (i + 1) n
def ZdB (a:ME γ):MI γ:=fun e g=>(a e g).bind fun x g1=>match x with
  | .dat (.int n)=>if RngOk n then .ok (rng 0 n.toNat) g1 else .no
  | _=>.no
def zipD:List D→List D→List D
  | x :: xs,y :: ys=>.tup [x,y] :: zipD xs ys
  | _,_=>[]
/-- zip of two lists,of two tuples -/
def zip2:Rv→Rv→Option (List D)
  | .dat (.tup xs),.dat (.tup ys)=>some (zipD xs ys)
  | .dat (.lst xs),.dat (.lst ys)=>some (zipD xs ys)
  | .dat (.lst xs),.own ys=>some (zipD xs ys)
  | .own xs,.dat (.lst ys)=>some (zipD xs ys)
  | .own xs,.own ys=>some (zipD xs ys)
  | _,_=>none
def ZeS (a b:ME γ):MI γ:=fun e g=>(a e g).bind fun x g1=>(b e g1).bind fun y g2=>ofO (zip2 x y) g2
abbrev MG:=D→Env→Option Env
def tgN (i:Nat):MG:=fun d e=>some (st e i (.dat d))
def tgL:List Nat→List D→Env→Option Env
  | [],[],e=>some e
  | i :: is,d :: ds,e=>tgL is ds (st e i (.dat d))
  | _,_,_=>none
def tgT (is:List Nat):MG:=fun d e=>match d with
  | .tup ds=>tgL is ds e
  | _=>none
def wp:Env→List Nat→Env
  | e,[]=>e
  | e,i :: is=>wp (st e i .un) is
def lcL (tg:MG) (c:MT γ) (a:ME γ) (e:Env):List D→List D→γ→Rs γ Rv
  | [],acc,g=>.ok (.own acc) g
  | d :: ds,acc,g=>match tg d e with
    | none=>.no
    | some e1=>match c e1 g with
      | .ok true g1=>match a e1 g1 with
        | .ok r g2=>match r.sto with
          | some y=>if acc.length < SZ then lcL tg c a e ds (acc ++ [y]) g2 else .no
          | none=>.no
        | _=>.no
      | .ok false g1=>lcL tg c a e ds acc g1
      | _=>.no
def mLc (src:MI γ) (tg:MG) (c:MT γ) (a:ME γ) (own:List Nat):ME γ:=fun e g=>(src e g).bind fun ds g1=>lcL tg c a (wp e own) ds [] g1
def ZeG:MT γ:=fun _ g=>.ok true g
def Zae (a b:MS γ):MS γ:=fun e g=>(a e g).bind fun f g1=>match f with
  | .nx e1=>b e1 g1
  | .rt r=>.ok (.rt r) g1
  | .bk e1=>.ok (.bk e1) g1
  | .ct e1=>.ok (.ct e1) g1
def Zao:MS γ:=fun e g=>.ok (.nx e) g
def Zam (i:Nat) (a:ME γ):MS γ:=fun e g=>(a e g).bind fun x g1=>match x.slot with
  | some s=>.ok (.nx (st e i s)) g1
  | none=>.no
/-- a,b=x,y -/
def mPar (i j:Nat) (a b:ME γ):MS γ:=fun e g=>(a e g).bind fun x g1=>(b e g1).bind fun y g2=>match x,y with
  | .dat x,.dat y=>.ok (.nx (st (st e i (.dat x)) j (.dat y))) g2
  | _,_=>.no
def ZaB (a:ME γ):MS γ:=fun e g=>(a e g).bind fun x g1=>.ok (.rt x) g1
def Zjj:MS γ:=fun _ g=>.ok (.rt (.dat .non)) g
def Zau (t:MT γ) (a b:MS γ):MS γ:=fun e g=>(t e g).bind fun c g1=>match c with
  | true=>a e g1
  | false=>b e g1
def Ziz:MS γ:=fun e g=>.ok (.bk e) g
def Zjk:MS γ:=fun e g=>.ok (.ct e) g
/-- a name's own list is from now on data -/
def ZbE (i:Nat):MS γ:=fun e g=>match gt e i with
  | .own ds=>.ok (.nx (st e i (.dat (.lst ds)))) g
  | .owd t ks vs=>.ok (.nx (st e i (.dat (.dct t ks vs)))) g
  | _=>.ok (.nx e) g
/-- x[k]=e -/
def mPut (i:Nat) (k a:ME γ):MS γ:=fun e g=>(a e g).bind fun y g1=>match gt e i with
  | .own ds=>(k e g1).bind fun z g2=>match y.sto,z with
    | some d,.dat (.int n)=>match ixN ds.length n with
      | some j=>.ok (.nx (st e i (.own (ds.set j d)))) g2
      | none=>.no
    | _,_=>.no
  | _=>.no
def forL (tg:MG) (b:MS γ):List D→MS γ
  | [],e,g=>.ok (.nx e) g
  | d :: ds,e,g=>match tg d e with
    | none=>.no
    | some e1=>match b e1 g with
      | .ok (.nx e2) g2=>forL tg b ds e2 g2
      | .ok (.ct e2) g2=>forL tg b ds e2 g2
      | .ok (.bk e2) g2=>.ok (.nx e2) g2
      | .ok (.rt r) g2=>.ok (.rt r) g2
      | .ex x g2=>.ex x g2
      | .no=>.no
def ZeH (src:MI γ) (tg:MG) (b:MS γ):MS γ:=fun e g=>(src e g).bind fun ds g1=>forL tg b ds e g1
def Zbk (c:MT γ) (b:MS γ):Nat→MS γ
  | 0,_,_=>.no
  | n + 1,e,g=>match c e g with
    | .ok true g1=>match b e g1 with
      | .ok (.nx e2) g2=>Zbk c b n e2 g2
      | .ok (.ct e2) g2=>Zbk c b n e2 g2
      | .ok (.bk e2) g2=>.ok (.nx e2) g2
      | .ok (.rt r) g2=>.ok (.rt r) g2
      | .ex x g2=>.ex x g2
      | .no=>.no
    | .ok false g1=>.ok (.nx e) g1
    | .ex x g1=>.ex x g1
    | .no=>.no
/-- what is handed back: a list that a name of the def held is new for the caller -/
@[simp] def Rv.ret:Rv→Rv
  | .bor ds=>.own ds
  | .bdt t ks vs=>.odt t ks vs
  | r=>r
/-- a def: its slots' number,its body -/
def Zbh (n:Nat) (k:Nat) (b:MS γ):MF γ:=fun ds g=>if ds.length=k then (match b (ds.map Sl.dat ++ List.replicate (n - k) .un) g with
  | .ok (.nx _) g1=>.ok (.dat .non) g1
  | .ok (.rt r) g1=>.ok r.ret g1
  | .ok (.bk _) _=>.no
  | .ok (.ct _) _=>.no
  | .ex x g1=>.ex x g1
  | .no=>.no) else .no
end
/-- x += e of a name: numbers,texts -/
def oIAdd:Op2:=fun x y=>match x,y with
  | .dat (.int _),.dat (.int _)=>oAdd x y
  | .dat (.str _),.dat (.str _)=>oAdd x y
  | _,_=>none
/-- is of truths -/
def oIs2:Op2
  | .dat (.bl a),.dat (.bl b)=>some (dB (decide (a=b)))
  | _,_=>none
def oIsNot2:Op2
  | .dat (.bl a),.dat (.bl b)=>some (dB (!decide (a=b)))
  | _,_=>none
/-- t[k],t a table of texts -/
def mTab {γ:Type} (tab:List (List Nat×D)) (k:ME γ):ME γ:=fun e g=>(k e g).bind fun y g1=>match y with
  | .dat (.str s)=>ofO ((tab.find? (fun q=>q.1 == s)).map fun q=>.dat q.2) g1
  | _=>.no
/-- a.f(b),a a list,what is told a number -/
def mLm {γ:Type} (f:List D→D→Option Int) (a b:ME γ):ME γ:=fun e g=>(a e g).bind fun x g1=>match x.items with
  | some l=>(b e g1).bind fun y g2=>ofO ((f l y.val).map fun n=>.dat (.int n)) g2
  | none=>.no
/-- a,b,.. = a list -/
def ZhD {γ:Type} (is:List Nat) (a:ME γ):MS γ:=fun e g=>(a e g).bind fun x g1=>match x.items with
  | some ds=>match tgL is ds e with
    | some e1=>.ok (.nx e1) g1
    | none=>.no
  | none=>.no
/-- raise C(e),C keeps e in its field -/
def Zcw {γ:Type} (n:Nat) (a:ME γ):MS γ:=fun e g=>(a e g).bind fun x g1=>match x with
  | .dat d=>if scl d=true then .ex ⟨n,some d⟩ g1 else .no
  | _=>.no
/-- the call of a def that an exception may leave -/
def ZeT {γ:Type} (F:MF γ) (a:MA γ):ME γ:=fun e g=>(a e g).bind fun xs g1=>match stoL xs with
  | some ds=>F ds g1
  | none=>.no
/-- .. the last arguments by their defaults -/
def ZgF {γ:Type} (F:MF γ) (a:MA γ) (es:List D):ME γ:=fun e g=>(a e g).bind fun xs g1=>match stoL xs with
  | some ds=>okO (F (ds ++ es) g1)
  | none=>.no
/-- isinstance(x,C): the classes that may come,those that lie beneath C -/
def Zb1 {γ:Type} (al cs:List Nat) (i:Nat):ME γ:=fun e g=>match gt e i with
  | .xc x=>if al.contains x.cls=true then .ok (dB (cs.contains x.cls)) g else .no
  | _=>.no
/-- x.f,x of the class n -/
def mXf {γ:Type} (n i:Nat):ME γ:=fun e g=>match gt e i with
  | .xc x=>match x.fld with
    | some d=>if x.cls=n then .ok (.dat d) g else .no
    | none=>.no
  | _=>.no
/-- f(x),x a caught exception -/
abbrev MX (γ:Type):=Xn→γ→Rs γ Rv
def ZfC {γ:Type} (F:MX γ) (i:Nat):ME γ:=fun e g=>match gt e i with
  | .xc x=>okO (F x g)
  | _=>.no
def Zgo {γ:Type} (n:Nat) (b:MS γ):MX γ:=fun x g=>match b (.xc x :: List.replicate n .un) g with
  | .ok (.nx _) g1=>.ok (.dat .non) g1
  | .ok (.rt r) g1=>.ok r.ret g1
  | _=>.no
/-- what is known of a slot behind a try -/
def noX:Sl→Sl
  | .xc _=>.un
  | s=>s
@[simp] theorem noX_un:noX .un = .un:=rfl
@[simp] theorem noX_dat (d:D):noX (.dat d) = .dat d:=rfl
@[simp] theorem noX_own (d:List D):noX (.own d) = .own d:=rfl
@[simp] theorem noX_gh (k:Nat):noX (.gh k) = .gh k:=rfl
/-- s.split(c),c one sign -/
def splC (c:Nat):List Nat→List Nat→List (List Nat)
  | acc,[]=>[acc]
  | acc,x :: r=>if x=c then acc :: splC c [] r else splC c (acc ++ [x]) r
def oSplit (s:List Nat):Rv→Option Rv
  | .dat (.str [c])=>if s.length + 2≤SZ∧c < 256 then some (.own ((splC c [] s).map .str)) else none
  | _=>none
end PB
namespace PB
structure LS where
  a:Nat
  gr:List Int
  told:Int
  cs:List Int
  cnt:Nat
/-- the slot i holds the state -/
def isSt (e:Env) (i:Nat) (s:LS):Bool:=match gt e i with
  | .dat (.ref a)=>a == s.a
  | _=>false
def Za7 (i:Nat):ME LS:=fun e s=>if isSt e i s=true then .ok (.dat (.int s.told)) s else .no
def ZfD (i:Nat):ME LS:=fun e s=>if isSt e i s=true then .ok (.dat (.int s.cnt)) s else .no
def ZeU (i:Nat):MT LS:=fun e s=>if isSt e i s=true then .ok (!s.gr.isEmpty) s else .no
def ZeV (i:Nat):MT LS:=fun e s=>if isSt e i s=true then .ok (!s.cs.isEmpty) s else .no
def Zes (i:Nat):ME LS:=fun e s=>if isSt e i s=true then .ok (.dat (.int s.cs.length)) s else .no
def Zfd (i:Nat) (k:ME LS):ME LS:=fun e s=>if isSt e i s=true then (k e s).bind fun x s1=>match x with
  | .dat (.int n)=>if isSt e i s1=true then ofO ((atI s1.cs n).map fun v=>.dat (.int v)) s1 else .no
  | _=>.no else .no
def Zcb (i:Nat) (a:ME LS):MS LS:=fun e s=>(a e s).bind fun x s1=>match x with
  | .dat (.int n)=>if isSt e i s1=true then .ok (.nx e) { s1 with told:=n } else .no
  | _=>.no
def ZdM (i:Nat):MS LS:=fun e s=>if isSt e i s=true then (match s.gr with
  | x :: r=>.ok (.nx e) { s with gr:=r,told:=x }
  | []=>.no) else .no
def Zet (i:Nat):MS LS:=fun e s=>if isSt e i s=true then .ok (.nx e) { s with cnt:=s.cnt + 1 } else .no
def LS.Ok (s:LS):Prop:=0≤s.told∧(∀ x∈s.gr,0 < x)∧(∀ x∈s.cs,0≤x∧x < 2147483629)
end PB
set_option Elab.async false
namespace PB
def atomB:D→Bool
  | .int _=>true
  | .str _=>true
  | _=>false
/-- a key: a tuple of numbers (true),a number or a text (false) -/
def intB:D→Bool
  | .int _=>true
  | _=>false
def keyB:Bool→D→Bool
  | true,.tup ds=>ds.all intB
  | false,d=>atomB d
  | _,_=>false
def dGet:List D→List D→D→Option D
  | k :: ks,v :: vs,x=>if eqv k x=true then some v else dGet ks vs x
  | _,_,_=>none
def dctOf:Sl→Option (Bool×List D×List D)
  | .owd t ks vs=>some (t,ks,vs)
  | .dat (.dct t ks vs)=>some (t,ks,vs)
  | _=>none
section
variable {γ:Type}
def onK (t:Bool) (y:Rv) (f:D→Option D):Option Rv:=match y with
  | .dat d=>if keyB t d=true then (f d).map .dat else none
  | _=>none
end
abbrev NL:=List (List D)
end PB
namespace PB
end PB
namespace PB
/-- raise C(e),what e tells isn't asked -/
def ZbW {γ:Type} (n:Nat) (a:ME γ):MS γ:=fun e g=>(a e g).bind fun _ g1=>.ex ⟨n,none⟩ g1
/-- enumerate(x) -/
def enD (i:Nat):List D→List D
  | []=>[]
  | d :: ds=>.tup [.int (i:Nat),d] :: enD (i + 1) ds
def ZeW {γ:Type} (a:ME γ):MI γ:=fun e g=>(a e g).bind fun x g1=>ofO ((seqOf x).map (enD 0)) g1
end PB
namespace PB
mutual
/-- no lists and no dicts within -/
def noLD:D→Bool
  | .tup ds=>noLDL ds
  | .lst _=>false
  | .dct _ _ _=>false
  | _=>true
def noLDL:List D→Bool
  | []=>true
  | d :: ds=>noLD d && noLDL ds
end
/-- f(..),some of the arguments lent: what comes back holds none of them -/
def lentL:List Rv→List D:=List.map Rv.val
end PB
namespace PB
end PB
namespace PB
abbrev N3:=List NL
section
variable {γ:Type}
def c3At (n:N3) (a b c:Int):Option D:=(atI n a).bind fun r=>(atI r b).bind fun q=>atI q c
end
end PB
namespace PB
end PB
namespace PB
structure WS where
  a:Nat
  words:D
  price:D
  rest:NL
  sk:List D
  sv:List D
  qk:List D
  qv:List D
section
variable {γ:Type}
def ZhE (a:MS γ) (b:Env→γ→Rs γ NL):Env→γ→Rs γ NL:=fun e g=>match a e g with
  | .ok (.nx e1) g1=>b e1 g1
  | _=>.no
/-- what a suite hands back,as rows -/
def NlM (m:MS γ) (n:Env→γ→Rs γ NL):Prop:=∀ e g (r:Rv) g',m e g = .ok (.rt r) g'→∃ nl:NL,r = .own (nl.map .lst)∧n e g = .ok nl g'
def NoRt (m:MS γ):Prop:=∀ e g r g',m e g ≠ .ok (.rt r) g'
theorem NoRt.set {i:Nat} {a:ME γ}:NoRt (Zam i a):=fun e g r g' h=>by
  unfold Zam at h
  cases k:a e g with
  | ok x g1=>
    rw [k,Rs.bind_ok] at h
    split at h <;> cases h
  | ex x g1=>rw [k] at h; cases h
  | no=>rw [k] at h; cases h
theorem NlM.seq {a b:MS γ} {n:Env→γ→Rs γ NL} (h1:NoRt a) (h2:NlM b n):NlM (Zae a b) (ZhE a n):=fun e g rs g' h=>by
  unfold Zae at h
  unfold ZhE
  cases k:a e g with
  | ex x g1=>rw [k] at h; cases h
  | no=>rw [k] at h; cases h
  | ok f g1=>
    rw [k,Rs.bind_ok] at h
    cases f with
    | nx e1=>exact h2 e1 g1 rs g' h
    | rt r=>exact absurd k (h1 e g r g1)
    | bk e1=>cases h
    | ct e1=>cases h
end
section
open Classical in
/-- one and the same at every address -/
noncomputable def allA {γ α:Type} (r:Nat→Rs γ α):Rs γ α:=if ∀ a,r a=r 0 then r 0 else .no
theorem ZhM {γ α:Type} {r:Nat→Rs γ α} {x:Rs γ α} (h:∀ a,r a=x):allA r=x:=by
  unfold allA
  rw [if_pos fun a=>(h a).trans (h 0).symm]
  exact h 0
theorem ZhN {γ α:Type} {r:Nat→Rs γ α} (h:allA r ≠ .no) (a:Nat):r a=allA r:=by
  unfold allA at h ⊢
  by_cases c:∀ a,r a=r 0
  · rw [if_pos c]
    exact c a
  · rw [if_neg c] at h
    exact absurd rfl h
variable {γ:Type}
end
end PB
namespace PB
section
variable {γ:Type}
/-- a[k],a any thing that is a dict -/
def dctRv:Rv→Option (Bool×List D×List D)
  | .dat (.dct t ks vs)=>some (t,ks,vs)
  | .odt t ks vs=>some (t,ks,vs)
  | .bdt t ks vs=>some (t,ks,vs)
  | _=>none
end
end PB
namespace PB
end PB
namespace PB
end PB
namespace PB
structure DS where
  a:Nat
  words:D
  now:D
  past:List D
  undone:List D
/-- with the desks that there are -/
abbrev GD (γ:Type):=γ×List DS
def dkIx (ss:List DS) (b:Nat):Option Nat:=ss.findIdx? fun s=>s.a == b
section
variable {γ:Type}
/-- x.f,f data -/
def ZfE (f:DS→D) (mo:ME (GD γ)):ME (GD γ):=fun e g=>(mo e g).bind fun x g1=>match x with
  | .dat (.ref b)=>ofO (((dkIx g1.2 b).bind fun j=>g1.2[j]?).map fun s=>.dat (f s)) g1
  | _=>.no
/-- k in x (false),k not in x (true); x any thing that is a dict -/
def Zgp (t:Bool) (k a:ME γ):ME γ:=fun e g=>(k e g).bind fun y g1=>(a e g1).bind fun x g2=>match dctRv x with
  | some (b,ks,vs)=>ofO (onK b y fun d=>some (.bl (xor t (dGet ks vs d).isSome))) g2
  | none=>.no
end
end PB
namespace PB
end PB
namespace PB
end PB
namespace PB
end PB
namespace PB
end PB
namespace PB
def sk (a k:Nat):Nat:=if k < a then k else k + 1
end PB
namespace PB
end PB
namespace PB
/-- what a suite knows of a slot that stood ahead of the try: texts,numbers,truths,nothing -/
def keepS:Sl→Sl
  | .dat d=>if scl d=true then .dat d else .un
  | _=>.un
/-- try: f(..),except .. as i: ..; the suites know of what stands still -/
def Zgq {γ:Type} (al:List Nat) (b:ME γ) (i:Nat) (hs:List (List Nat×MS γ)):MS γ:=fun e g=>match b e g with
  | .ok _ g1=>.ok (.nx e) g1
  | .no=>.no
  | .ex x g1=>if al.contains x.cls=true then (match hs.find? (fun h=>h.1.contains x.cls) with
    | none=>.ex x g1
    | some h=>match h.2 (st (e.map keepS) i (.xc x)) g1 with
      | .ok (.nx e1) g2=>.ok (.nx ((st e1 i .un).map noX)) g2
      | .ok (.rt r) g2=>.ok (.rt r) g2
      | _=>.no) else .no
/-- f(x,y),x a caught exception,y a text,a number,a truth,nothing -/
abbrev MX2 (γ:Type):=Xn→D→γ→Rs γ Rv
def Zfe {γ:Type} (F:MX2 γ) (i j:Nat):ME γ:=fun e g=>match gt e i,gt e j with
  | .xc x,.dat d=>if scl d=true then okO (F x d g) else .no
  | _,_=>.no
def ZfF {γ:Type} (n:Nat) (b:MS γ):MX2 γ:=fun x d g=>match b (.xc x :: .dat d :: List.replicate n .un) g with
  | .ok (.nx _) g1=>.ok (.dat .non) g1
  | .ok (.rt r) g1=>.ok r.ret g1
  | _=>.no
def kMkE {γ:Type} (i:Nat) (m:MS (γ×Nat)) (e:Env) (g:γ) (a:Nat):Rs γ Fl:=match m (st e i (.dat (.ref a))) (g,a) with
  | .ok (.rt (.dat d)) g1=>.ok (.rt (.dat d)) g1.1
  | _=>.no
noncomputable def ZfG {γ:Type} (i:Nat) (me:ME γ) (m:MS (γ×Nat)):MS γ:=fun e g=>(me e g).bind fun _ g1=>allA (kMkE i m e g1)
def ZaL {γ:Type} (i:Nat) (b:Bool):ME (γ×Nat):=fun e g=>match gt e i with
  | .dat (.ref a)=>if a=g.2 then .ok (dB b) g else .no
  | _=>.no
end PB
set_option maxHeartbeats 4000000
namespace PB
open PySem PySem.Spec PyProof.Rows L2
abbrev Frag:=PySem.W.Frag
def mkS (l:List Nat):Str:=⟨l.toArray⟩
/-- whether tuples of the written part are met -/
class Kts where
  on:Prop
/-- a tuple of the written part -/
def KT [Kts] (K:Frag) (a:Addr) (xs:List V):Prop:=
  Kts.on∧∃ (o:Obj) (its:Array Value) (n:Nat),K.lookup a=some o∧o.cls = .type "tuple" ∧ o.data = .seq its n∧its.size≤sizeLine∧Vals xs its.toList
/-- a key as data -/
def keyD:Key→D
  | .inl i=>.int i
  | .inr s=>.str s.cps.toList
/-- a dict's object: its keys (tuples of numbers),where they stand,its values -/
def dPhi (a:Addr) (o:Obj) (xs:List (List Key×Addr×Value)):Heap→Prop:=fun h=>∃ es ep,h.get? a=some o∧o.ExactDict∧o.data = .dict es ep∧(∀ (P:Program) (w:World),es.toList=xs.map (entryOfKey (tupleKind (mixKind P w))))∧(xs.map (·.1)).Nodup∧(a == sysModules)=false∧xs.length≤sizeLine∧∀ x∈xs,x.1.all Sum.isLeft=true
/-- a key's tuple stands -/
def TKy [Kts] (K:Frag) (O:Addr→Prop) (H:Hp) (b:Addr) (k:List Key):Prop:=(H b=some (.tup (k.map kV))∧¬ O b)∨KT K b (k.map kV)
/-- a dict stands at a: its keys,its values -/
@[irreducible] def DiS [Kts] (K:Frag) (O:Addr→Prop) (H:Hp) (a:Addr) (t:Bool) (ks:List D) (us:List V):Prop:=match t with
  | true=>∃ z:Obj×List (List Key×Addr×Value),H a=some (.ext (dPhi a z.1 z.2))∧ks=z.2.map (fun x=>.tup (x.1.map keyD))∧Vals us (z.2.map (·.2.2))∧(∀ x∈z.2,TKy K O H x.2.1 x.1)∧∀ x∈z.2,x.1.all Sum.isLeft=true
  | false=>∃ kvs:List (Key×V),H a=some (.dK kvs)∧ks=kvs.map (fun kv=>keyD kv.1)∧us=kvs.map (·.2)
theorem DiS.tt [Kts] {K:Frag} {O:Addr→Prop} {H:Hp} {a:Addr} {ks:List D} {us:List V}:DiS K O H a true ks us ↔ ∃ (o:Obj) (xs:List (List Key×Addr×Value)),H a=some (.ext (dPhi a o xs))∧ks=xs.map (fun x=>.tup (x.1.map keyD))∧Vals us (xs.map (·.2.2))∧(∀ x∈xs,TKy K O H x.2.1 x.1)∧∀ x∈xs,x.1.all Sum.isLeft=true:=by
  unfold DiS
  exact ⟨fun ⟨z,q⟩=>⟨z.1,z.2,q⟩,fun ⟨o,xs,q⟩=>⟨(o,xs),q⟩⟩
theorem DiS.ff [Kts] {K:Frag} {O:Addr→Prop} {H:Hp} {a:Addr} {ks:List D} {us:List V}:DiS K O H a false ks us ↔ ∃ kvs:List (Key×V),H a=some (.dK kvs)∧ks=kvs.map (fun kv=>keyD kv.1)∧us=kvs.map (·.2):=by
  unfold DiS
  exact Iff.rfl
theorem DiS.go [Kts] {K:Frag} {O O':Addr→Prop} {H H':Hp} {a:Addr} {t:Bool} {ks:List D} {us:List V} (h:DiS K O H a t ks us) (f:∀ b o,H b=some o→¬ O b→H' b=some o∧¬ O' b) (k:∀ o,H a=some o→H' a=some o):DiS K O' H' a t ks us:=by
  cases t with
  | true=>
    obtain ⟨o,xs,e,r1,r2,r3,r4⟩:=DiS.tt.mp h
    exact DiS.tt.mpr ⟨o,xs,k _ e,r1,r2,fun x hx=>(r3 x hx).elim (fun z=>.inl (f _ _ z.1 z.2)) .inr,r4⟩
  | false=>
    obtain ⟨kvs,e,r⟩:=DiS.ff.mp h
    exact DiS.ff.mpr ⟨kvs,k _ e,r⟩
theorem DiS.less [Kts] {K:Frag} {O O':Addr→Prop} {H:Hp} {a:Addr} {t:Bool} {ks:List D} {us:List V} (h:DiS K O H a t ks us) (l:∀ a,O' a→O a):DiS K O' H a t ks us:=h.go (fun b o e n=>⟨e,fun z=>n (l b z)⟩) fun _ e=>e
theorem DiS.some [Kts] {K:Frag} {O:Addr→Prop} {H:Hp} {a:Addr} {t:Bool} {ks:List D} {us:List V} (h:DiS K O H a t ks us):∃ o,H a=Option.some o:=by
  cases t with
  | true=>
    obtain ⟨_,_,e,r⟩:=DiS.tt.mp h
    exact ⟨_,e⟩
  | false=>
    obtain ⟨kvs,e,r⟩:=DiS.ff.mp h
    exact ⟨_,e⟩
/-- .. a dict that may be locked -/
@[irreducible] def DiR [Kts] (K:Frag) (O:Addr→Prop) (H:Hp) (a:Addr) (t:Bool) (ks:List D) (us:List V):Prop:=match t with
  | true=>DiS K O H a true ks us
  | false=>∃ kvs:List (Key×V),Rd H a (.dK kvs)∧ks=kvs.map (fun kv=>keyD kv.1)∧us=kvs.map (·.2)
theorem DiR.ff [Kts] {K:Frag} {O:Addr→Prop} {H:Hp} {a:Addr} {ks:List D} {us:List V}:DiR K O H a false ks us ↔ ∃ kvs:List (Key×V),Rd H a (.dK kvs)∧ks=kvs.map (fun kv=>keyD kv.1)∧us=kvs.map (·.2):=by
  unfold DiR
  exact Iff.rfl
theorem DiR.dt [Kts] {K:Frag} {O:Addr→Prop} {H:Hp} {a:Addr} {ks:List D} {us:List V}:DiR K O H a true ks us ↔ DiS K O H a true ks us:=by
  unfold DiR
  exact Iff.rfl
theorem DiR.of [Kts] {K:Frag} {O:Addr→Prop} {H:Hp} {a:Addr} {t:Bool} {ks:List D} {us:List V} (h:DiS K O H a t ks us):DiR K O H a t ks us:=by
  cases t with
  | true=>exact DiR.dt.mpr h
  | false=>
    obtain ⟨kvs,e,r⟩:=DiS.ff.mp h
    exact DiR.ff.mpr ⟨kvs,.inl e,r⟩
theorem DiR.go [Kts] {K:Frag} {O O':Addr→Prop} {H H':Hp} {a:Addr} {t:Bool} {ks:List D} {us:List V} (h:DiR K O H a t ks us) (f:∀ b o,H b=Option.some o→¬ O b→H' b=Option.some o∧¬ O' b) (k:∀ o,H a=Option.some o→H' a=Option.some o):DiR K O' H' a t ks us:=by
  cases t with
  | true=>exact DiR.dt.mpr ((DiR.dt.mp h).go f k)
  | false=>
    obtain ⟨kvs,e,r⟩:=DiR.ff.mp h
    exact DiR.ff.mpr ⟨kvs,e.elim (fun z=>.inl (k _ z)) fun ⟨o,z⟩=>.inr ⟨o,k _ z⟩,r⟩
theorem DiR.less [Kts] {K:Frag} {O O':Addr→Prop} {H:Hp} {a:Addr} {t:Bool} {ks:List D} {us:List V} (h:DiR K O H a t ks us) (l:∀ a,O' a→O a):DiR K O' H a t ks us:=h.go (fun b o q n=>⟨q,fun z=>n (l b z)⟩) fun o q=>q
theorem DiR.some [Kts] {K:Frag} {O:Addr→Prop} {H:Hp} {a:Addr} {t:Bool} {ks:List D} {us:List V} (h:DiR K O H a t ks us):∃ o,H a=Option.some o:=by
  cases t with
  | true=>exact (DiR.dt.mp h).some
  | false=>
    obtain ⟨kvs,e,r⟩:=DiR.ff.mp h
    exact e.elim (fun z=>⟨_,z⟩) fun ⟨o,z⟩=>⟨_,z⟩
variable [Kts]
mutual
inductive At (K:Frag) (O:Addr→Prop) (H:Hp):V→D→Prop
  | non:At K O H .non .non
  | bl (b:Bool):At K O H (.bl b) (.bl b)
  | int (i:Int):At K O H (.int i) (.int i)
  | str (l:List Nat) (h:l.length≤SZ) (h2:l.all (· < 0x110000)=true):At K O H (.str (mkS l)) (.str l)
  | tup {a:Addr} {xs:List V} {ds:List D} (h:(H a=some (.tup xs)∧¬ O a)∨KT K a xs) (hs:AtL K O H xs ds):At K O H (.ref a) (.tup ds)
  | lst {a:Addr} {xs:List V} {ds:List D} (h:Rd H a (.lst xs)) (h2:¬ O a) (hs:AtL K O H xs ds):At K O H (.ref a) (.lst ds)
  | ref (a:Nat):At K O H (.ref a) (.ref a)
  | dct {a:Addr} {t:Bool} {ks vs:List D} {us:List V} (h:DiR K O H a t ks us) (h2:¬ O a) (hs:AtL K O H us vs):At K O H (.ref a) (.dct t ks vs)
inductive AtL (K:Frag) (O:Addr→Prop) (H:Hp):List V→List D→Prop
  | nil:AtL K O H [] []
  | cons {v:V} {d:D} {xs:List V} {ds:List D} (h:At K O H v d) (hs:AtL K O H xs ds):AtL K O H (v :: xs) (d :: ds)
end
section
variable {K:Frag} {O O':Addr→Prop} {H H':Hp}
theorem AtL.length:∀ {xs:List V} {ds:List D},AtL K O H xs ds→xs.length=ds.length
  | _,_,.nil=>rfl
  | _,_,.cons _ h=>by rw [List.length_cons,List.length_cons,h.length]
mutual
/-- to another heap,another set -/
theorem At.go (f:∀ a o,H a=some o→¬ O a→H' a=some o∧¬ O' a):∀ {v:V} {d:D},At K O H v d→At K O' H' v d
  | _,_,.non=>.non
  | _,_,.bl b=>.bl b
  | _,_,.int i=>.int i
  | _,_,.str l h h2=>.str l h h2
  | _,_,.tup h hs=>.tup (match h with
    | .inl ⟨h1,h2⟩=>.inl (f _ _ h1 h2)
    | .inr k=>.inr k) (hs.go f)
  | _,_,.lst h h2 hs=>.lst (h.elim (fun z=>.inl (f _ _ z h2).1) fun ⟨o,z⟩=>.inr ⟨o,(f _ _ z h2).1⟩) (h.elim (fun z=>(f _ _ z h2).2) fun ⟨_,z⟩=>(f _ _ z h2).2) (hs.go f)
  | _,_,.ref a=>.ref a
  | _,_,.dct (H:=_) (a:=a) h h2 hs=>.dct (h.go f fun o e=>(f a o e h2).1) (match h,h2 with
    | h,h2=>by
      intro z
      obtain ⟨o,e⟩:∃ o,H a=some o:=h.some
      exact (f a o e h2).2 z) (hs.go f)
theorem AtL.go (f:∀ a o,H a=some o→¬ O a→H' a=some o∧¬ O' a):∀ {xs:List V} {ds:List D},AtL K O H xs ds→AtL K O' H' xs ds
  | _,_,.nil=>.nil
  | _,_,.cons h hs=>.cons (h.go f) (hs.go f)
end
theorem At.less (h:∀ a,O' a→O a) {v:V} {d:D} (x:At K O H v d):At K O' H v d:=x.go fun _ _ q n=>⟨q,fun z=>n (h _ z)⟩
theorem AtL.less (h:∀ a,O' a→O a) {v:List V} {d:List D} (x:AtL K O H v d):AtL K O' H v d:=x.go fun _ _ q n=>⟨q,fun z=>n (h _ z)⟩
theorem AtL.get:∀ {xs:List V} {ds:List D} {i:Nat} {d:D},AtL K O H xs ds→ds[i]?=some d→∃ v,xs[i]?=some v∧At K O H v d
  | _,_,_,_,.nil,h=>by simp at h
  | _,_,0,_,.cons a _,h=>by
    simp at h
    subst h
    exact ⟨_,rfl,a⟩
  | _,_,i + 1,_,.cons _ r,h=>by
    obtain ⟨v,e,q⟩:=AtL.get (i:=i) r (by simpa using h)
    exact ⟨v,by simpa using e,q⟩
theorem AtL.app:∀ {xs ys:List V} {ds es:List D},AtL K O H xs ds→AtL K O H ys es→AtL K O H (xs ++ ys) (ds ++ es)
  | _,_,_,_,.nil,h=>h
  | _,_,_,_,.cons a r,h=>.cons a (r.app h)
theorem AtL.drop:∀ {xs:List V} {ds:List D} (n:Nat),AtL K O H xs ds→AtL K O H (xs.drop n) (ds.drop n)
  | _,_,0,h=>h
  | _,_,_ + 1,.nil=>.nil
  | _,_,n + 1,.cons _ r=>r.drop n
theorem AtL.take:∀ {xs:List V} {ds:List D} (n:Nat),AtL K O H xs ds→AtL K O H (xs.take n) (ds.take n)
  | _,_,0,_=>.nil
  | _,_,_ + 1,.nil=>.nil
  | _,_,n + 1,.cons a r=>.cons a (r.take n)
theorem AtL.set:∀ {xs:List V} {ds:List D} {v:V} {d:D} (n:Nat),AtL K O H xs ds→At K O H v d→AtL K O H (xs.set n v) (ds.set n d)
  | _,_,_,_,_,.nil,_=>.nil
  | _,_,_,_,0,.cons _ r,h=>.cons h r
  | _,_,_,_,n + 1,.cons a r,h=>.cons a (r.set n h)
theorem AtL.cut {xs:List V} {ds:List D} (lo hi:Option Int) (h:AtL K O H xs ds):AtL K O H (cutV xs lo hi) (cut ds lo hi):=by
  unfold cutV PB.cut
  rw [h.length]
  exact (h.drop _).take _
theorem AtL.dBls:∀ {xs:List V} {ds:List D} {ns:List Bool},AtL K O H xs ds→PB.dBls ds=some ns→xs=ns.map V.bl
  | _,_,_,.nil,h=>by
    cases h
    rfl
  | _,d :: ds,ns,.cons a r,h=>by
    cases d with
    | bl i=>
      cases a
      unfold PB.dBls at h
      cases e:PB.dBls ds with
      | none=>rw [e] at h; cases h
      | some ms=>
        rw [e] at h
        cases h
        rw [List.map_cons,r.dBls e]
    | _=>cases h
theorem AtL.dStrs:∀ {xs:List V} {ds:List D} {ns:List (List Nat)},AtL K O H xs ds→PB.dStrs ds=some ns→xs=ns.map (fun l=>V.str (mkS l))∧∀ l∈ns,l.length≤SZ∧l.all (· < 0x110000)=true
  | _,_,_,.nil,h=>by
    cases h
    exact ⟨rfl,fun l h=>by cases h⟩
  | _,d :: ds,ns,.cons a r,h=>by
    cases d with
    | str i=>
      cases a with
      | str _ h1 h2=>
      unfold PB.dStrs at h
      cases e:PB.dStrs ds with
      | none=>rw [e] at h; cases h
      | some ms=>
        rw [e] at h
        cases h
        obtain ⟨q1,q2⟩:=r.dStrs e
        refine ⟨by rw [List.map_cons,q1],fun l hl => ?_⟩
        rcases List.mem_cons.mp hl with rfl | hl
        · exact ⟨h1,h2⟩
        · exact q2 l hl
    | _=>cases h
theorem ZaU {a:Addr} {xs:List V} (h:(H a=some (.tup xs)∧¬ O a)∨KT K a xs):SqT K H a xs:=h.elim (fun z=>.inl (.inl z.1)) fun z=>.inr z.2
end
/-- data that stand nowhere -/
inductive ScV:V→D→Prop
  | non:ScV .non .non
  | bl (b:Bool):ScV (.bl b) (.bl b)
  | int (i:Int):ScV (.int i) (.int i)
  | str (l:List Nat) (h:l.length≤SZ) (h2:l.all (· < 0x110000)=true):ScV (.str (mkS l)) (.str l)
theorem ScV.at {K:Frag} {O:Addr→Prop} {H:Hp} {v:V} {d:D} (h:ScV v d):At K O H v d:=by
  cases h with
  | non=>exact .non
  | bl b=>exact .bl b
  | int i=>exact .int i
  | str l h h2=>exact .str l h h2
theorem ZfH {K:Frag} {O:Addr→Prop} {H:Hp} {v:V} {d:D} (h:At K O H v d) (s:scl d=true):ScV v d:=by
  cases h with
  | non=>exact .non
  | bl b=>exact .bl b
  | int i=>exact .int i
  | str l h h2=>exact .str l h h2
  | tup _ _=>cases s
  | lst _ _ _=>cases s
  | ref _=>cases s
  | dct _ _ _=>cases s
/-- the classes of exceptions by number: what stands for each,the name of its field -/
structure XT where
  cl:Nat→Value
  fn:Nat→Str
def XOk (T:XT) (x:Xn) (c:Value) (od:Option Addr) (H:Hp):Prop:=c=T.cl x.cls∧match x.fld with
  | none=>od=none
  | some d=>∃ p v,od=some p∧H p=some (.xd [(T.fn x.cls,v)])∧ScV v d
theorem XOk.go {T:XT} {x:Xn} {c:Value} {od:Option Addr} {H H':Hp} (h:XOk T x c od H) (k:∀ p fs,H p=some (.xd fs)→H' p=some (.xd fs)):XOk T x c od H':=by
  obtain ⟨h1,h2⟩:=h
  refine ⟨h1,?_⟩
  cases hx:x.fld with
  | none=>
    rw [hx] at h2
    exact h2
  | some d=>
    rw [hx] at h2
    obtain ⟨p,v,e,q,s⟩:=h2
    exact ⟨p,v,e,k p _ q,s⟩
/-- what never changes: tuples,frozen things -/
def Sm:HO→Prop
  | .tup _=>True
  | .frz _ _=>True
  | _=>False
/-- a list,a dict stands there -/
def Cont:HO→Prop
  | .lst _=>True
  | .dK _=>True
  | .dT _=>True
  | .ext _=>True
  | .ins _ _ _=>True
  | _=>False
def Stk (o:Option HO):Prop:=(o≠none∧∀ fs,o≠some (.xd fs))∧∃ u,o=some u∧Cont u
theorem Stk.of {o:Option HO} {u:HO} (h:o=some u) (c:Cont u):Stk o:=by
  subst h
  exact ⟨⟨(fun z=>nomatch z),(fun fs z=>by cases z; exact c)⟩,u,rfl,c⟩
theorem Stk.lst {o:Option HO} {xs:List V} (h:o=some (.lst xs)):Stk o:=.of h trivial
theorem Stk.same {o o':Option HO} (h:Stk o) (k:∀ u,o=some u→o'=some u):Stk o':=by
  obtain ⟨_,xs,e,c⟩:=h
  exact .of (k _ e) c
theorem Stk.notS {o:Option HO} {v:HO} (h:Stk o) (hv:Sm v):o≠some v:=by
  obtain ⟨_,u,rfl,c⟩:=h
  intro z
  cases z
  cases v <;> first | exact hv | exact c
theorem Stk.notT {o:Option HO} (h:Stk o) (xs:List V):o≠some (.tup xs):=by
  obtain ⟨_,u,rfl,c⟩:=h
  intro z
  cases z
  exact c
theorem DiS.stk {K:Frag} {O:Addr→Prop} {H:Hp} {a:Addr} {t:Bool} {ks:List D} {us:List V} (h:DiS K O H a t ks us):Stk (H a):=by
  cases t with
  | true=>
    obtain ⟨_,_,e,r⟩:=DiS.tt.mp h
    exact .of e trivial
  | false=>
    obtain ⟨kvs,e,r⟩:=DiS.ff.mp h
    exact .of e trivial
structure Gho (γ:Type) where
  F:Addr→Prop
  I:γ→Hp→Prop
  stab:∀ g H H',I g H→(∀ a,F a→H' a=H a)→(∀ a u,Sm u→H a=some u→H' a=some u)→I g H'
  lsts:∀ g H a,I g H→F a→Stk (H a)
  ad:Nat→Addr
theorem Gho.stk {γ:Type} (G:Gho γ) (g:γ) (H:Hp) (a:Addr) (i:G.I g H) (f:G.F a):Stk (H a):=G.lsts g H a i f
theorem Gho.trk {γ:Type} (G:Gho γ) (g:γ) (H:Hp) (a:Addr) (i:G.I g H) (f:G.F a):H a≠none:=(G.stk g H a i f).1.1
/-- what is fixed through a whole law: the written part,how exceptions stand,the things beside (a family,one is meant) -/
structure Bs (γ ι:Type) where
  K:Frag
  T:XT
  fam:ι→Gho γ
  i:ι
  xa:Addr×Value×Option Addr
/-- a run of a def: besides,what its values must not be -/
structure Act (γ ι:Type) where
  B:Bs γ ι
  X:Addr→Prop
section
variable {γ ι:Type}
abbrev Act.K (A:Act γ ι):Frag:=A.B.K
abbrev Act.G (A:Act γ ι):Gho γ:=A.B.fam A.B.i
abbrev Act.R (A:Act γ ι) (x:Xn) (c:Value) (od:Option Addr) (H:Hp):Prop:=XOk A.B.T x c od H
def Sl.hs:Sl→Bool
  | .own _=>true
  | .owd _ _ _=>true
  | _=>false
def OwnA (e:Env) (σ:L2.St) (a:Addr):Prop:=∃ i,(gt e i).hs=true∧σ[i]?=some (some (.ref a))
theorem OwnA.of {e:Env} {σ:L2.St} {a:Addr} {i:Nat} {s:Sl} (h:gt e i=s) (hs:s.hs=true) (k:σ[i]?=some (some (.ref a))):OwnA e σ a:=⟨i,by rw [h]; exact hs,k⟩
def Om (A:Act γ ι) (e:Env) (σ:L2.St) (a:Addr):Prop:=A.X a∨OwnA e σ a
def Mu (A:Act γ ι) (e:Env) (σ:L2.St) (a:Addr):Prop:=A.G.F a∨OwnA e σ a
/-- what a slot holds -/
def SlOk (B:Bs γ ι) (O:Addr→Prop) (H:Hp) (s:Sl) (x:Option (Option V)):Prop:=match s with
  | .un=>True
  | .dat d=>∃ v,x=some (some v)∧At B.K O H v d
  | .own ds=>∃ p xs,x=some (some (.ref p))∧H p=some (.lst xs)∧AtL B.K O H xs ds
  | .xc y=>x=some (some (.ref B.xa.1))∧XOk B.T y B.xa.2.1 B.xa.2.2 H
  | .gh k=>x=some (some (.ref ((B.fam B.i).ad k)))
  | .owd t ks vs=>∃ p us,x=some (some (.ref p))∧DiS B.K O H p t ks us∧AtL B.K O H us vs
structure Rep (A:Act γ ι) (e:Env) (g:γ) (σ:L2.St) (H:Hp):Prop where
  len:σ.length=e.length
  sl:∀ i,SlOk A.B (Om A e σ) H (gt e i) σ[i]?
  inj:∀ i j p,(gt e i).hs=true→(gt e j).hs=true→σ[i]?=some (some (.ref p))→σ[j]?=some (some (.ref p))→i=j
  nx:∀ a,OwnA e σ a→¬ A.X a
  gh:A.G.I g H
  fx:∀ a,A.G.F a→A.X a
  xs:∀ a,A.X a→Stk (H a)
theorem Rep.xt {A:Act γ ι} {e:Env} {g:γ} {σ:L2.St} {H:Hp} (R:Rep A e g σ H) (a:Addr) (h:A.X a):H a≠none:=(R.xs a h).1.1
/-- all that stands stands on,but what stands beside -/
def ExE (A:Act γ ι) (H H':Hp):Prop:=∀ b o,H b=some o→¬ A.G.F b→H' b=some o
section
variable {A:Act γ ι} {e:Env} {g g' g1:γ} {σ:L2.St} {H H' H0 H1:Hp} {a p:Addr}
theorem ExE.refl (H:Hp):ExE A H H:=fun _ _ h _=>h
theorem ExE.trans {H2:Hp} (a:ExE A H H1) (b:ExE A H1 H2):ExE A H H2:=fun x o h n=>b x o (a x o h n) n
theorem ExE.back (a:ExE A H H1) (h:H1 p=none) (i':A.G.I g' H1):H p=none:=by
  cases e:H p with
  | none=>rfl
  | some o=>
    by_cases f:A.G.F p
    · exact absurd h (A.G.trk _ _ _ i' f)
    · rw [a p o e f] at h
      cases h
theorem ExE.new {o:HO} (h:H p=none):ExE A H (upd H p o):=fun b u e _=>by
  rw [upd_ne (ne_of_none e h)]
  exact e
theorem Gho.new {G:Gho γ} {o:HO} (i:G.I g H) (h:H p=none):G.I g (upd H p o):=G.stab _ _ _ i (fun a f=>upd_ne (by
  intro z
  subst z
  exact G.trk _ _ _ i f h)) fun a u _ q=>by
  rw [upd_ne (ne_of_none q h)]
  exact q
theorem OwnA.stk (R:Rep A e g σ H) (h:OwnA e σ a):Stk (H a):=by
  obtain ⟨i,h1,h2⟩:=h
  have q:=R.sl i
  cases k:gt e i with
  | own ds=>
    rw [k] at q
    obtain ⟨p,xs,e,k,_⟩:=q
    rw [h2] at e
    cases e
    exact .lst k
  | owd t ks vs=>
    rw [k] at q
    obtain ⟨p,us,e,k,_⟩:=q
    rw [h2] at e
    cases e
    exact k.stk
  | _=>
    rw [k] at h1
    cases h1
theorem Rep.notF (R:Rep A e g σ H) (h:OwnA e σ a):¬ A.G.F a:=fun z=>R.nx a h (R.fx a z)
theorem Rep.omt (R:Rep A e g σ H) (h:Om A e σ a):H a≠none:=by
  rcases h with h | h
  · exact R.xt a h
  · exact (h.stk R).1.1
theorem Rep.oms (R:Rep A e g σ H) (h:Om A e σ a):Stk (H a):=by
  rcases h with h | h
  · exact R.xs a h
  · exact h.stk R
theorem Rep.muom (R:Rep A e g σ H) (h:Mu A e σ a):Om A e σ a:=h.elim (fun z=>.inl (R.fx a z)) .inr
/-- an exception's dict is nobody's -/
theorem Rep.nxd (R:Rep A e g σ H) {p:Addr} {fs:List (Str×V)} (h:H p=some (.xd fs)):¬ Om A e σ p:=by
  rintro (z | z)
  · exact (R.xs p z).1.2 fs h
  · exact (z.stk R).1.2 fs h
/-- values are kept through an expression -/
theorem Rep.at (R:Rep A e g σ H0) (x:ExE A H H') {v:V} {d:D} (h:At A.K (Om A e σ) H v d):At A.K (Om A e σ) H' v d:=
  h.go fun a o q n=>⟨x a o q fun z=>n (.inl (R.fx a z)),n⟩
theorem Rep.atL (R:Rep A e g σ H0) (x:ExE A H H') {v:List V} {d:List D} (h:AtL A.K (Om A e σ) H v d):AtL A.K (Om A e σ) H' v d:=
  h.go fun a o q n=>⟨x a o q fun z=>n (.inl (R.fx a z)),n⟩
theorem Rep.exe (R:Rep A e g σ H) (x:ExE A H H') (i:A.G.I g' H'):Rep A e g' σ H' where
  len:=R.len
  sl:=fun j=>by
    have q:=R.sl j
    cases h:gt e j with
    | un=>trivial
    | dat d=>
      rw [h] at q
      obtain ⟨v,e1,a⟩:=q
      exact ⟨v,e1,R.at x a⟩
    | own ds=>
      rw [h] at q
      obtain ⟨p,xs,e1,k,a⟩:=q
      exact ⟨p,xs,e1,x p _ k (R.notF (.of h rfl e1)),R.atL x a⟩
    | xc y=>
      rw [h] at q
      exact ⟨q.1,q.2.go fun p fs k=>x p _ k fun z=>R.nxd k (.inl (R.fx p z))⟩
    | gh k=>
      rw [h] at q
      exact q
    | owd t ks vs=>
      rw [h] at q
      obtain ⟨p,us,e1,k,a⟩:=q
      exact ⟨p,us,e1,k.go (fun a o q n=>⟨x a o q fun z=>n (.inl (R.fx a z)),n⟩) fun o e=>x p o e (R.notF (.of h rfl e1)),R.atL x a⟩
  inj:=R.inj
  nx:=R.nx
  gh:=i
  fx:=R.fx
  xs:=fun a ha=>by
    by_cases f:A.G.F a
    · exact A.G.stk _ _ _ i f
    · exact (R.xs a ha).same fun u q=>x a u q f
end
/-- what an expression's value is: H0 the heap ahead of it -/
def VOk (A:Act γ ι) (e:Env) (σ:L2.St) (H0 H:Hp) (r:Rv) (v:V):Prop:=match r with
  | .dat d=>At A.K (Om A e σ) H v d
  | .own ds=>∃ p xs,v = .ref p∧H0 p=none∧H p=some (.lst xs)∧AtL A.K (fun a=>Om A e σ a∨a=p) H xs ds
  | .bor ds=>∃ p xs,v = .ref p∧OwnA e σ p∧H p=some (.lst xs)∧AtL A.K (Om A e σ) H xs ds
  | .odt t ks vs=>∃ p us,v = .ref p∧H0 p=none∧DiS A.K (fun a=>Om A e σ a∨a=p) H p t ks us∧AtL A.K (fun a=>Om A e σ a∨a=p) H us vs
  | .bdt t ks vs=>∃ p us,v = .ref p∧OwnA e σ p∧DiS A.K (Om A e σ) H p t ks us∧AtL A.K (Om A e σ) H us vs
section
variable {A:Act γ ι} {e:Env} {g g' g1:γ} {σ:L2.St} {H H' H0 H1:Hp} {p:Addr} {r:Rv} {v:V}
theorem VOk.step (R:Rep A e g σ H0) (x:ExE A H H') (h:VOk A e σ H0 H r v):VOk A e σ H0 H' r v:=by
  cases r with
  | dat d=>exact At.go (fun a o q n=>⟨x a o q fun z=>n (.inl (R.fx a z)),n⟩) h
  | own ds=>
    obtain ⟨p,xs,e1,h0,k,a⟩:=h
    refine ⟨p,xs,e1,h0,x p _ k fun z=>R.xt p (R.fx p z) h0,a.go fun a o q n=>⟨x a o q fun z=>n (.inl (.inl (R.fx a z))),n⟩⟩
  | bor ds=>
    obtain ⟨p,xs,e1,h0,k,a⟩:=h
    exact ⟨p,xs,e1,h0,x p _ k (R.notF h0),a.go fun a o q n=>⟨x a o q fun z=>n (.inl (R.fx a z)),n⟩⟩
  | odt t ks vs=>
    obtain ⟨p,us,e1,h0,k,a⟩:=h
    have f:∀ b o,H b=some o→¬ (Om A e σ b∨b=p)→H' b=some o∧¬ (Om A e σ b∨b=p):=fun a o q n=>⟨x a o q fun z=>n (.inl (.inl (R.fx a z))),n⟩
    exact ⟨p,us,e1,h0,k.go f fun o q=>x p o q fun z=>R.xt p (R.fx p z) h0,a.go f⟩
  | bdt t ks vs=>
    obtain ⟨p,us,e1,h0,k,a⟩:=h
    have f:∀ b o,H b=some o→¬ Om A e σ b→H' b=some o∧¬ Om A e σ b:=fun a o q n=>⟨x a o q fun z=>n (.inl (R.fx a z)),n⟩
    exact ⟨p,us,e1,h0,k.go f fun o q=>x p o q (R.notF h0),a.go f⟩
/-- from a later beginning -/
theorem VOk.pre (x:ExE A H0 H1) (i:A.G.I g1 H1) (h:VOk A e σ H1 H r v):VOk A e σ H0 H r v:=by
  cases r with
  | dat d=>exact h
  | own ds=>
    obtain ⟨p,xs,e1,h0,k,a⟩:=h
    exact ⟨p,xs,e1,x.back h0 i,k,a⟩
  | bor ds=>exact h
  | odt t ks vs=>
    obtain ⟨p,us,e1,h0,k,a⟩:=h
    exact ⟨p,us,e1,x.back h0 i,k,a⟩
  | bdt t ks vs=>exact h
/-- the value as a datum,of what a def may be handed -/
theorem VOk.weak (R:Rep A e g σ H0) (h:VOk A e σ H0 H r v):At A.K A.X H v r.val:=by
  cases r with
  | dat d=>exact At.less (fun a z=>.inl z) h
  | own ds=>
    obtain ⟨p,xs,e1,h0,k,a⟩:=h
    subst e1
    exact .lst (.inl k) (fun z=>R.xt p z h0) (a.less fun a z=>.inl (.inl z))
  | bor ds=>
    obtain ⟨p,xs,e1,h0,k,a⟩:=h
    subst e1
    exact .lst (.inl k) (R.nx p h0) (a.less fun a z=>.inl z)
  | odt t ks vs=>
    obtain ⟨p,us,e1,h0,k,a⟩:=h
    subst e1
    exact .dct (.of (k.less fun a z=>.inl (.inl z))) (fun z=>R.xt p z h0) (a.less fun a z=>.inl (.inl z))
  | bdt t ks vs=>
    obtain ⟨p,us,e1,h0,k,a⟩:=h
    subst e1
    exact .dct (.of (k.less fun a z=>.inl z)) (R.nx p h0) (a.less fun a z=>.inl z)
theorem VOk.sto (R:Rep A e g σ H0) {d:D} (h:VOk A e σ H0 H r v) (hs:r.sto=some d):At A.K (Om A e σ) H v d:=by
  cases r with
  | dat d'=>
    cases hs
    exact h
  | own ds=>
    cases hs
    obtain ⟨p,xs,e1,h0,k,a⟩:=h
    subst e1
    exact .lst (.inl k) (fun z=>R.omt z h0) (a.less fun a z=>.inl z)
  | bor ds=>cases hs
  | odt t ks vs=>
    cases hs
    obtain ⟨p,us,e1,h0,k,a⟩:=h
    subst e1
    exact .dct (.of (k.less fun a z=>.inl z)) (fun z=>R.omt z h0) (a.less fun a z=>.inl z)
  | bdt t ks vs=>cases hs
/-- the items of a list of either kind -/
theorem VOk.items (R:Rep A e g σ H0) {ds:List D} (h:VOk A e σ H0 H r v) (hs:r.items=some ds):∃ p xs,v = .ref p∧Rd H p (.lst xs)∧AtL A.K (Om A e σ) H xs ds:=by
  cases r with
  | dat d'=>
    cases d' with
    | lst es=>
      cases hs
      cases h with
      | lst h1 h2 h3=>exact ⟨_,_,rfl,h1,h3⟩
    | _=>cases hs
  | own es=>
    cases hs
    obtain ⟨p,xs,e1,h0,k,a⟩:=h
    exact ⟨p,xs,e1,.inl k,a.less fun a z=>.inl z⟩
  | bor es=>
    cases hs
    obtain ⟨p,xs,e1,h0,k,a⟩:=h
    exact ⟨p,xs,e1,.inl k,a⟩
  | odt t ks vs=>cases hs
  | bdt t ks vs=>cases hs
/-- a new list -/
theorem VOk.mk (x:ExE A H0 H) (i:A.G.I g1 H) {xs:List V} {ds:List D} (h:AtL A.K (Om A e σ) H xs ds) (hp:H p=none) :
    VOk A e σ H0 (upd H p (.lst xs)) (.own ds) (.ref p):=
  ⟨p,xs,rfl,x.back hp i,upd_same,h.go fun a o q n=>⟨by rw [upd_ne (ne_of_none q hp)]; exact q,fun z=>z.elim n fun e=>ne_of_none q hp e⟩⟩
theorem At.mkT (R:Rep A e g σ H0) (x:ExE A H0 H) (i:A.G.I g1 H) {xs:List V} {ds:List D} (h:AtL A.K (Om A e σ) H xs ds) (hp:H p=none) :
    At A.K (Om A e σ) (upd H p (.tup xs)) (.ref p) (.tup ds):=
  .tup (.inl ⟨upd_same,fun z=>R.omt z (x.back hp i)⟩) (h.go fun a o q n=>⟨by rw [upd_ne (ne_of_none q hp)]; exact q,n⟩)
end
inductive VOkL (A:Act γ ι) (e:Env) (σ:L2.St) (H0 H:Hp):List Rv→List V→Prop
  | nil:VOkL A e σ H0 H [] []
  | cons {r:Rv} {v:V} {rs:List Rv} {vs:List V} (h:VOk A e σ H0 H r v) (hs:VOkL A e σ H0 H rs vs):VOkL A e σ H0 H (r :: rs) (v :: vs)
section
variable {A:Act γ ι} {e:Env} {g g' g1:γ} {σ:L2.St} {H H' H0 H1:Hp}
theorem VOkL.pre (x:ExE A H0 H1) (i:A.G.I g1 H1) {r:List Rv} {v:List V} (h:VOkL A e σ H1 H r v):VOkL A e σ H0 H r v:=by
  induction h with
  | nil=>exact .nil
  | cons h _ ih=>exact .cons (h.pre x i) ih
theorem VOkL.sto (R:Rep A e g σ H0) {rs:List Rv} {vs:List V} (h:VOkL A e σ H0 H rs vs):∀ {ds:List D},stoL rs=some ds→AtL A.K (Om A e σ) H vs ds:=by
  induction h with
  | nil=>
    intro ds hs
    cases hs
    exact .nil
  | @cons r v rs vs h _ ih=>
    intro ds hs
    unfold stoL at hs
    cases e1:r.sto with
    | none=>rw [e1] at hs; cases hs
    | some d=>
      cases e2:stoL rs with
      | none=>rw [e1,e2] at hs; cases hs
      | some es=>
        rw [e1,e2] at hs
        cases hs
        exact .cons (h.sto R e1) (ih e2)
end
abbrev WX:=Value→Option Addr→L2.St→Hp→Prop
abbrev W0:WX:=fun _ _ _ _=>False
/-- what is wanted of a result that began at H -/
def RK {α β:Type} (P:Act γ ι→Env→L2.St→Hp→Hp→α→β→Prop) (A:Act γ ι) (W:WX) (e:Env) (σ:L2.St) (H:Hp) (r:Rs γ α) (Q:β→Hp→Prop):Prop:=match r with
  | .ok a g'=>∀ b H',ExE A H H'→A.G.I g' H'→P A e σ H H' a b→Q b H'
  | .ex x g'=>∀ c od H',ExE A H H'→A.G.I g' H'→A.R x c od H'→W c od σ H'
  | .no=>False
def RG {α β:Type} (P:Act γ ι→Env→L2.St→Hp→Hp→α→β→Prop) (B:Bs γ ι) (W:WX) (m:Env→γ→Rs γ α):L2.St→Hp→(β→Hp→Prop)→Prop:=
  fun σ H Q=>∃ (S:Addr→Prop) (e:Env) (g:γ),Rep ⟨B,S⟩ e g σ H∧RK P ⟨B,S⟩ W e σ H (m e g) Q
abbrev PB_:Act γ ι→Env→L2.St→Hp→Hp→Bool→Bool→Prop:=fun _ _ _ _ _ a b=>a=b
abbrev RE (B:Bs γ ι) (W:WX) (m:ME γ):TE:=RG VOk B W m
abbrev RT (B:Bs γ ι) (W:WX) (m:MT γ):TT:=RG PB_ B W m
abbrev RA (B:Bs γ ι) (W:WX) (m:MA γ):TA:=RG VOkL B W m
theorem RK.bind {α β α' β':Type} {P:Act γ ι→Env→L2.St→Hp→Hp→α→β→Prop} {P':Act γ ι→Env→L2.St→Hp→Hp→α'→β'→Prop} {A:Act γ ι} {W:WX} {e:Env} {σ:L2.St} {H H1:Hp} {m:Rs γ α'} {f:α'→γ→Rs γ α} {Q:β→Hp→Prop} {k:β'→Hp→Prop}
    (x:ExE A H H1) (h:RK P A W e σ H (m.bind f) Q) (hk:∀ a g1 b H2,ExE A H1 H2→ExE A H H2→A.G.I g1 H2→P' A e σ H1 H2 a b→RK P A W e σ H (f a g1) Q→k b H2):RK P' A W e σ H1 m k:=by
  cases m with
  | no=>exact h
  | ex y g=>exact fun c od H' x'=>h c od H' (x.trans x')
  | ok a g=>exact fun b H' x' i p=>hk a g b H' x' (x.trans x') i p h
theorem RK.ofO {α β:Type} {P:Act γ ι→Env→L2.St→Hp→Hp→α→β→Prop} {A:Act γ ι} {W:WX} {e:Env} {σ:L2.St} {H:Hp} {o:Option α} {g:γ} {Q:β→Hp→Prop} (h:RK P A W e σ H (PB.ofO o g) Q) :
    ∃ a,o=some a∧∀ b H',ExE A H H'→A.G.I g H'→P A e σ H H' a b→Q b H':=by
  cases o with
  | none=>exact h.elim
  | some a=>exact ⟨a,rfl,h⟩
end
theorem ZaS {X:Cx} {e:Expr} {t t':TE} (h:PE X e t) (w:∀ σ H Q,t' σ H Q→t σ H Q):PE X e t':=⟨fun pins s σ H Q I q=>h.run pins s σ H Q I (w σ H Q q)⟩
theorem Zff {X:Cx} {e:Expr} {t t':TT} (h:PT X e t) (w:∀ σ H Q,t' σ H Q→t σ H Q):PT X e t':=⟨fun pins s σ H Q I q=>h.run pins s σ H Q I (w σ H Q q)⟩
theorem pw_w {X:Cx} {e:Expr} {t t':TT} (h:PW X e t) (w:∀ σ H Q,t' σ H Q→t σ H Q):PW X e t':=⟨fun wh pins s σ H Q I q=>h.run wh pins s σ H Q I (w σ H Q q)⟩
theorem pa_w {X:Cx} {e:List Expr} {t t':TA} (h:PA X e t) (w:∀ σ H Q,t' σ H Q→t σ H Q):PA X e t':=⟨fun pos pins s σ H Q I q=>h.run pos pins s σ H Q I (w σ H Q q)⟩
theorem po_w {X:Cx} {e:Option Expr} {t t':TO} (h:PO X e t) (w:∀ σ H Q,t' σ H Q→t σ H Q):PO X e t':=⟨fun pins s σ H Q I q=>h.run pins s σ H Q I (w σ H Q q)⟩
theorem Zgr {X:Cx} {tg e:Expr} {t t':TI} (h:PI X tg e t) (w:∀ σ H Q,t' σ H Q→t σ H Q):PI X tg e t':=⟨fun pins s σ H Q I q=>h.run pins s σ H Q I (w σ H Q q)⟩
theorem Zc0 {X:Cx} {e:Stmt} {t t':TS} (h:PS X e t) (w:∀ D σ H,t' D σ H→t D σ H):PS X e t':=⟨fun pins s σ H D I q=>h.run pins s σ H D I (w D σ H q)⟩
theorem ZfA {X:Cx} {e:List Stmt} {t t':TS} (h:PSs X e t) (w:∀ D σ H,t' D σ H→t D σ H):PSs X e t':=⟨fun pins s σ H D I q=>h.run pins s σ H D I (w D σ H q)⟩
theorem OpR.or {X:Cx} {f:Value→Value→Sem Value} {r r':R2} (h:OpR X f r) (h':OpR X f r'):OpR X f (fun x y H Q=>r x y H Q∨r' x y H Q):=by
  intro pins s σ H x y v u Q I rx ry q
  rcases q with q | q
  · exact h pins s σ H x y v u Q I rx ry q
  · exact h' pins s σ H x y v u Q I rx ry q
theorem OpR.w {X:Cx} {f:Value→Value→Sem Value} {r r':R2} (h:OpR X f r) (w:∀ x y H Q,r' x y H Q→r x y H Q):OpR X f r':=fun pins s σ H x y v u Q I rx ry q=>h pins s σ H x y v u Q I rx ry (w _ _ _ _ q)
section
variable {γ ι:Type} {B:Bs γ ι} {W:WX} {X:Cx} {pos:Pos}
/-- the heap is as it was,or has one thing more -/
def Nw (H H':Hp):Prop:=H'=H∨∃ p o,H p=none∧H'=upd H p o
theorem Nw.exe {A:Act γ ι} {H H':Hp} (h:Nw H H'):ExE A H H':=by
  rcases h with rfl | ⟨p,o,h,rfl⟩
  · exact .refl _
  · exact .new h
theorem Nw.gh {G:Gho γ} {g:γ} {H H':Hp} (h:Nw H H') (i:G.I g H):G.I g H':=by
  rcases h with rfl | ⟨p,o,h,rfl⟩
  · exact i
  · exact Gho.new i h
/-- what an operation by values is to show -/
def OpS2 (B:Bs γ ι) (f:Op2) (r:R2):Prop:=∀ (S:Addr→Prop) (e:Env) (g g1:γ) (σ:L2.St) (H0 H:Hp) (x y z:Rv) (vx vy:V) (Q:VK),Rep ⟨B,S⟩ e g σ H0→ExE ⟨B,S⟩ H0 H→(B.fam B.i).I g1 H →
  VOk ⟨B,S⟩ e σ H0 H x vx→VOk ⟨B,S⟩ e σ H0 H y vy→f x y=some z→(∀ v H',Nw H H'→VOk ⟨B,S⟩ e σ H0 H' z v→Q v H')→r vx vy H Q
def OpS1 (B:Bs γ ι) (f:Op1) (r:V→Hp→VK→Prop):Prop:=∀ (S:Addr→Prop) (e:Env) (g g1:γ) (σ:L2.St) (H0 H:Hp) (x z:Rv) (vx:V) (Q:VK),Rep ⟨B,S⟩ e g σ H0→ExE ⟨B,S⟩ H0 H→(B.fam B.i).I g1 H →
  VOk ⟨B,S⟩ e σ H0 H x vx→f x=some z→(∀ v H',Nw H H'→VOk ⟨B,S⟩ e σ H0 H' z v→Q v H')→r vx H Q
def OpSN (B:Bs γ ι) (f:OpN) (r:List V→Hp→VK→Prop):Prop:=∀ (S:Addr→Prop) (e:Env) (g g1:γ) (σ:L2.St) (H0 H:Hp) (xs:List Rv) (z:Rv) (vs:List V) (Q:VK),Rep ⟨B,S⟩ e g σ H0→ExE ⟨B,S⟩ H0 H→(B.fam B.i).I g1 H →
  VOkL ⟨B,S⟩ e σ H0 H xs vs→f xs=some z→(∀ v H',Nw H H'→VOk ⟨B,S⟩ e σ H0 H' z v→Q v H')→r vs H Q
theorem ZeX {f:Op2} {r:R2} (hs:OpS2 B f r) {a b:ME γ} {σ:L2.St} {H:Hp} {Q:VK} (h:RE B W (Zad f a b) σ H Q):tOp r (RE B W a) (RE B W b) σ H Q:=by
  obtain ⟨S,e,g,R,h⟩:=h
  refine ⟨S,e,g,R,RK.bind (.refl H) h fun x g1 vx H1 _ x1 i1 o1 h1 => ?_⟩
  refine ⟨S,e,g1,R.exe x1 i1,RK.bind x1 h1 fun y g2 vy H2 x12 x2 i2 o2 h2 => ?_⟩
  obtain ⟨z,ez,q⟩:=h2.ofO
  exact hs S e g g2 σ H H2 x y z vx vy Q R x2 i2 (o1.step R x12) (o2.pre x1 i1) ez fun v H' n o=>q v H' (x2.trans n.exe) (n.gh i2) o
theorem ZgG {f:Op1} {r:V→Hp→VK→Prop} (hs:OpS1 B f r) {a:ME γ} {σ:L2.St} {H:Hp} {Q:VK} (h:RE B W (ZaY f a) σ H Q):tUn r (RE B W a) σ H Q:=by
  obtain ⟨S,e,g,R,h⟩:=h
  refine ⟨S,e,g,R,RK.bind (.refl H) h fun x g1 vx H1 _ x1 i1 o1 h1 => ?_⟩
  obtain ⟨z,ez,q⟩:=h1.ofO
  exact hs S e g g1 σ H H1 x z vx Q R x1 i1 o1 ez fun v H' n o=>q v H' (x1.trans n.exe) (n.gh i1) o
theorem ZgH {f:OpN} {r:List V→Hp→VK→Prop} (hs:OpSN B f r) {a:MA γ} {σ:L2.St} {H:Hp} {Q:VK} (h:RE B W (Zca f a) σ H Q):tCB r (RA B W a) σ H Q:=by
  obtain ⟨S,e,g,R,h⟩:=h
  refine ⟨S,e,g,R,RK.bind (.refl H) h fun x g1 vx H1 _ x1 i1 o1 h1 => ?_⟩
  obtain ⟨z,ez,q⟩:=h1.ofO
  exact hs S e g g1 σ H H1 x z vx Q R x1 i1 o1 ez fun v H' n o=>q v H' (x1.trans n.exe) (n.gh i1) o
/-- names,constants -/
theorem ZiA {i:Nat} {σ:L2.St} {H:Hp} {Q:VK} (h:RE B W (Zaa i) σ H Q):tVar i σ H Q:=by
  obtain ⟨S,e,g,R,h⟩:=h
  have q:=R.sl i
  unfold Zaa at h
  cases k:gt e i with
  | un=>
    rw [k] at h
    exact h.elim
  | dat d=>
    rw [k] at h q
    obtain ⟨v,e1,a⟩:=q
    exact ⟨v,e1,h v H (.refl H) R.gh a⟩
  | own ds=>
    rw [k] at h q
    obtain ⟨p,xs,e1,h1,a⟩:=q
    exact ⟨.ref p,e1,h (.ref p) H (.refl H) R.gh ⟨p,xs,rfl,.of k rfl e1,h1,a⟩⟩
  | xc y=>
    rw [k] at h
    exact h.elim
  | gh y=>
    rw [k] at h
    exact h.elim
  | owd t ks vs=>
    rw [k] at h q
    obtain ⟨p,us,e1,h1,a⟩:=q
    exact ⟨.ref p,e1,h (.ref p) H (.refl H) R.gh ⟨p,us,rfl,.of k rfl e1,h1,a⟩⟩
theorem Zac (i:Nat) {x:Str} (hN:X.N[i]?=some x:=by rfl) (hv:Vis X.env.scope x:=by first | exact Or.inl rfl | exact Or.inr (Or.inl rfl) | exact Or.inr (Or.inr rfl)) (hd:(x == ("__debug__" : Str))=false:=by decide)
    (hcd:(x == ("__classdict__" : Str))=false:=by decide):PE X (.Name x pos) (RE B W (Zaa i)):=ZaS (pe_var hN hv hd hcd) fun _ _ _=>ZiA
theorem Zgs {v:V} {d:D} (ha:∀ O H,At B.K O H v d) {σ:L2.St} {H:Hp} {Q:VK} (h:RE B W (mC d) σ H Q):tC v σ H Q:=by
  obtain ⟨S,e,g,R,h⟩:=h
  exact h v H (.refl H) R.gh (ha _ _)
theorem Zaj {i j}:PE X (.Constant (.int i) j pos) (RE B W (mC (.int i))):=ZaS pe_int fun _ _ _=>Zgs fun _ _=>.int i
theorem ZfB {b j}:PE X (.Constant (.bool b) j pos) (RE B W (mC (.bl b))):=ZaS pe_bl fun _ _ _=>Zgs fun _ _=>.bl b
theorem ZfI {j}:PE X (.Constant .none j pos) (RE B W (mC .non)):=ZaS pe_non fun _ _ _=>Zgs fun _ _=>.non
theorem ZiB {s:Str} {l:List Nat} (h:s=mkS l) (h1:decide (l.length≤SZ)=true) (h2:l.all (· < 0x110000)=true) (K:Frag) (O:Addr→Prop) (H:Hp):At K O H (.str s) (.str l):=by
  rw [h]
  exact .str l (of_decide_eq_true h1) h2
theorem ZcA {x:Str} {j} (l:List Nat) (h:x=mkS l:=by decide +kernel) (h1:decide (l.length≤SZ)=true:=by decide +kernel) (h2:l.all (· < 0x110000)=true:=by decide +kernel):PE X (.Constant (.str x) j pos) (RE B W (mC (.str l))):=
  ZaS pe_str fun _ _ _=>Zgs fun O H=>ZiB h h1 h2 _ O H
variable {a b c:Expr} {ma mb mc:ME γ}
theorem Zay {op:Operator} {f:Op2} {r:R2} (ho:OpR X (binaryOp op) r) (hs:OpS2 B f r) (ha:PE X a (RE B W ma)) (hb:PE X b (RE B W mb)):PE X (.BinOp a op b pos) (RE B W (Zad f ma mb)):=
  ZaS (pe_op ho ha hb) fun _ _ _=>ZeX hs
theorem Zd3 {op:CmpOp} {f:Op2} {r:R2} (ho:OpR X (compareOp op) r) (hs:OpS2 B f r) (ha:PE X a (RE B W ma)) (hb:PE X b (RE B W mb)) (hm:behindInMarks op b=false):PE X (.Compare a [op] [b] pos) (RE B W (Zad f ma mb)):=
  ZaS (pe_cmpR ho ha hb hm) fun _ _ _=>ZeX hs
theorem ZhF {f:Op2} {r:R2} (ho:IxR X r) (hs:OpS2 B f r) (ha:PE X a (RE B W ma)) (hb:PE X b (RE B W mb)) (hp:PlainIx b):PE X (.Subscript a b pos) (RE B W (Zad f ma mb)):=
  ZaS (pe_ix ho ha hb hp) fun _ _ _=>ZeX hs
end
end PB
namespace PB
open PySem PySem.Spec PyProof.Rows L2
variable [Kts]
mutual
def toPy:D→PyData
  | .non=>.none
  | .bl b=>.bool b
  | .int i=>.int i
  | .str l=>.str (mkS l)
  | .tup ds=>.tuple (toPyL ds)
  | .lst ds=>.list (toPyL ds)
  | .ref _=>.none
  | .dct _ _ _=>.none
def toPyL:List D→List PyData
  | []=>[]
  | d :: ds=>toPy d :: toPyL ds
end
theorem ZhO {l m:List Nat} (h:mkS l=mkS m):l=m:=by
  have:=congrArg (fun s=>s.cps.toList) h
  simpa [mkS] using this
theorem Zf7 (l m:List Nat):(mkS l == mkS m)=(l == m):=by
  by_cases h:l=m
  · subst h
    simp
  · have h2:¬ mkS l=mkS m:=fun z=>h (ZhO z)
    rw [beq_eq_false_iff_ne.mpr h,beq_eq_false_iff_ne.mpr h2]
theorem ZbD (l:List Nat):(mkS l).length=l.length:=by simp [mkS,Str.length]
theorem ZeI (l:List Nat):(mkS l).cps.toList=l:=by simp [mkS]
mutual
theorem ZdN:∀ (x y:D),(∃ n,okE n x=true)→(∃ n,okE n y=true)→PyData.eqv (toPy x) (toPy y)=eqv x y
  | .non,y,_,hy=>by cases y <;> first | rfl | (obtain ⟨n,h⟩:=hy; cases n <;> simp [okE] at h)
  | .bl _,y,_,hy=>by cases y <;> first | rfl | (obtain ⟨n,h⟩:=hy; cases n <;> simp [okE] at h)
  | .int _,y,_,hy=>by cases y <;> first | rfl | (obtain ⟨n,h⟩:=hy; cases n <;> simp [okE] at h)
  | .str _,y,_,hy=>by cases y <;> first | rfl | exact Zf7 _ _ | (obtain ⟨n,h⟩:=hy; cases n <;> simp [okE] at h)
  | .tup xs,y,hx,hy=>by
    cases y with
    | tup ys=>exact Zd4 xs ys (by obtain ⟨n,h⟩:=hx; cases n <;> simp [okE] at h; exact ⟨_,h⟩) (by obtain ⟨n,h⟩:=hy; cases n <;> simp [okE] at h; exact ⟨_,h⟩)
    | ref _=>obtain ⟨n,h⟩:=hy; cases n <;> simp [okE] at h
    | _=>rfl
  | .lst xs,y,hx,hy=>by
    cases y with
    | lst ys=>exact Zd4 xs ys (by obtain ⟨n,h⟩:=hx; cases n <;> simp [okE] at h; exact ⟨_,h⟩) (by obtain ⟨n,h⟩:=hy; cases n <;> simp [okE] at h; exact ⟨_,h⟩)
    | ref _=>obtain ⟨n,h⟩:=hy; cases n <;> simp [okE] at h
    | _=>rfl
  | .ref _,_,hx,_=>by obtain ⟨n,h⟩:=hx; cases n <;> simp [okE] at h
theorem Zd4:∀ (xs ys:List D),(∃ n,okL n xs=true)→(∃ n,okL n ys=true)→PyData.eqvAll (toPyL xs) (toPyL ys)=eqvL xs ys
  | [],ys,_,_=>by cases ys <;> rfl
  | x :: xs,[],_,_=>rfl
  | x :: xs,y :: ys,hx,hy=>by
    obtain ⟨n,hx⟩:=hx
    obtain ⟨m,hy⟩:=hy
    simp only [okL,Bool.and_eq_true] at hx hy
    show (PyData.eqv (toPy x) (toPy y) && PyData.eqvAll (toPyL xs) (toPyL ys))=(eqv x y && eqvL xs ys)
    rw [ZdN x y ⟨n,hx.1⟩ ⟨m,hy.1⟩,Zd4 xs ys ⟨n,hx.2⟩ ⟨m,hy.2⟩]
end
section
variable {K:Frag} {O:Addr→Prop} {H:Hp}
mutual
theorem ZdO:∀ {v:V} {d:D} {n:Nat},At K O H v d→okE n d=true→Dp K H v (toPy d)
  | _,_,_,.non,_=>.non
  | _,_,_,.bl b,_=>.bl b
  | _,_,_,.int i,_=>.int i
  | _,_,_,.str l _ _,_=>.str _
  | _,_,0,.tup _ _,e=>by simp [okE] at e
  | _,_,0,.lst _ _ _,e=>by simp [okE] at e
  | _,_,n + 1,.tup h hs,e=>.tup (ZaU h) (Zd5 hs e)
  | _,_,n + 1,.lst h _ hs,e=>.lst (.inl h) (Zd5 hs e)
  | _,_,0,.ref _,e=>by simp [okE] at e
  | _,_,_ + 1,.ref _,e=>by simp [okE] at e
theorem Zd5:∀ {xs:List V} {ds:List D} {n:Nat},AtL K O H xs ds→okL n ds=true→DpAll K H xs (toPyL ds)
  | _,_,_,.nil,_=>.nil
  | _,_,n,.cons h hs,e=>by
    simp only [okL,Bool.and_eq_true] at e
    exact .cons (ZdO h e.1) (Zd5 hs e.2)
end
mutual
theorem ZgI:∀ {v:V} {d:D} {n:Nat},At K O H v d→okE n d=true→(toPy d).canLay0=true∧(toPy d).depth≤n
  | _,_,_,.non,_=>⟨by simp [toPy,PyData.canLay0],by simp [toPy,PyData.depth]⟩
  | _,_,_,.bl b,_=>⟨by simp [toPy,PyData.canLay0],by simp [toPy,PyData.depth]⟩
  | _,_,_,.int i,_=>⟨by simp [toPy,PyData.canLay0],by simp [toPy,PyData.depth]⟩
  | _,_,_,.str l _ h,_=>⟨by
      simp only [toPy,PyData.canLay0,PyData.strOk,mkS]
      first
        | simpa using h
        | (unfold PyData.strOk; simpa using h),by simp [toPy,PyData.depth]⟩
  | _,_,0,.tup _ _,e=>by simp [okE] at e
  | _,_,0,.lst _ _ _,e=>by simp [okE] at e
  | _,_,n + 1,.tup h hs,e=>by
    obtain ⟨h1,h2⟩:=Zeu hs e
    exact ⟨by simpa [toPy,PyData.canLay0] using h1,by simp only [toPy,PyData.depth]; omega⟩
  | _,_,n + 1,.lst h _ hs,e=>by
    obtain ⟨h1,h2⟩:=Zeu hs e
    exact ⟨by simpa [toPy,PyData.canLay0] using h1,by simp only [toPy,PyData.depth]; omega⟩
  | _,_,0,.ref _,e=>by simp [okE] at e
  | _,_,_ + 1,.ref _,e=>by simp [okE] at e
theorem Zeu:∀ {xs:List V} {ds:List D} {n:Nat},AtL K O H xs ds→okL n ds=true→PyData.canLayAll0 (toPyL ds)=true∧PyData.depthAll (toPyL ds)≤n
  | _,_,_,.nil,_=>⟨by simp [toPyL,PyData.canLayAll0],by simp [toPyL,PyData.depthAll]⟩
  | _,_,n,.cons h hs,e=>by
    simp only [okL,Bool.and_eq_true] at e
    obtain ⟨h1,h2⟩:=ZgI h e.1
    obtain ⟨h3,h4⟩:=Zeu hs e.2
    exact ⟨by simp [toPyL,PyData.canLayAll0,h1,h3],by simp only [toPyL,PyData.depthAll]; omega⟩
end
theorem Zce {v:V} {d:D} {n:Nat} (h:At K O H v d) (e:okE n d=true) (hn:n≤64):SeqAt.shaped (toPy d)=true:=by
  obtain ⟨h1,h2⟩:=ZgI h e
  unfold SeqAt.shaped
  rw [h1,decide_eq_true (by omega)]
  rfl
end
theorem szle {n:Nat} (h:n≤SZ):n≤sizeLine:=by
  rw [sizeLine_eq]
  exact h
theorem szlt {n:Nat} (h:n < SZ):n < sizeLine:=by
  rw [sizeLine_eq]
  exact h
theorem ZgJ (n:Nat) (i:Int):PB.ixN n i=L2.ixN n i:=rfl
theorem AtL.atI {K:Frag} {O:Addr→Prop} {H:Hp} {xs:List V} {ds:List D} {i:Int} {d:D} (h:AtL K O H xs ds) (e:PB.atI ds i=some d):∃ v,L2.atI xs i=some v∧At K O H v d:=by
  unfold PB.atI at e
  unfold L2.atI
  rw [h.length]
  rw [ZgJ] at e
  cases q:L2.ixN ds.length i with
  | none=>
    rw [q] at e
    cases e
  | some j=>
    rw [q] at e
    exact h.get (by simpa using e)
section
variable {X:Cx}
theorem lstR {pins:List (Addr×Obj)} {σ:L2.St} {H:Hp} {s:Shared} {a:Addr} {xs:List V} (I:Inv X pins σ H s) (h:Rd H a (.lst xs)) :
    xs.length≤sizeLine∧∃ (its:List Value) (n:Nat),Vals xs its∧xs.length=its.length∧s.heap.get? a=some { cls:=.type "list",data:=.seq its.toArray n }:=by
  obtain ⟨z,its,n,r,e⟩:=(show ObjOk X.prog X.w H s.heap a (.lst xs) from Rd.ok h I.hok)
  exact ⟨z,its,n,r,r.length,e⟩
def rCatR:R2:=fun x y H Q=>∃ l b xs zs,x = .ref l∧y = .ref b∧Rd H l (.lst xs)∧Rd H b (.lst zs)∧xs.length + zs.length≤sizeLine∧∀ p,H p=none→Q (.ref p) (upd H p (.lst (xs ++ zs)))
theorem ZhP:OpR X (binaryOp .Add) rCatR:=by
  intro pn s0 σ0 H0 va vb ua ub Q I ra rb hyp
  obtain ⟨pa,pb,la,lb,rfl,rfl,h1,h2,hsz,hq⟩:=hyp
  cases ra
  cases rb
  obtain ⟨_,ia,ka,r1,n1,g1⟩:=lstR I h1
  obtain ⟨_,ib,kb,r2,n2,g2⟩:=lstR I h2
  have hl:ia.length + ib.length≤sizeLine:=by omega
  have e0:ia.toArray ++ ib.toArray=(ia ++ ib).toArray:=by simp
  refine PySem.P.add_list g1 g2 ?_ (by simpa using hl)
  rw [e0]
  exact ⟨.ref _,_,I.lnew (t':=s0.toks) (r1.append r2) (by rw [List.length_append,n1,n2]; exact hl),rfl,hq _ I.fresh⟩
end
section
variable {γ ι:Type} {B:Bs γ ι} {X:Cx}
theorem ZaV:OpS2 B oAdd (fun x y H Q=>rI0 (fun i j=>.int (i + j)) x y H Q∨(∃ i j,x = .str i∧y = .str j∧i.length + j.length≤sizeLine∧Q (.str (i ++ j)) H)∨rCatA B.K x y H Q∨rCatR x y H Q):=by
  intro S e g g1 σ H0 H x y z vx vy Q R x0 i1 ox oy hz hq
  unfold oAdd at hz
  split at hz
  · rename_i i j
    cases hz
    cases ox
    cases oy
    exact .inl ⟨i,j,rfl,rfl,hq _ H (.inl rfl) (.int _)⟩
  · rename_i s t
    split at hz
    · rename_i hl
      cases hz
      cases ox with
      | str _ h1 h2=>
      cases oy with
      | str _ h3 h4=>
      refine .inr (.inl ⟨mkS s,mkS t,rfl,rfl,by rw [ZbD,ZbD]; exact szle hl,?_⟩)
      have ee:mkS s ++ mkS t=mkS (s ++ t):=by
        apply TL.ext_tl
        rw [TL.tl_append]
        rfl
      rw [ee]
      refine hq _ H (.inl rfl) (.str _ (by simpa using hl) ?_)
      rw [List.all_append,h2,h4]
      rfl
    · cases hz
  · rename_i s t
    split at hz
    · rename_i hl
      cases hz
      have oxc:=ox
      have oyc:=oy
      cases ox with
      | @tup a xs _ h1 h2=>
      cases oy with
      | @tup b ys _ h3 h4=>
      refine .inr (.inr (.inl ⟨a,b,xs,ys,rfl,rfl,ZaU h1,ZaU h3,by rw [h2.length,h4.length]; exact szle hl,fun ex => ?_,fun _ ey => ?_,fun _ _ p hp => ?_⟩))
      · subst ex
        cases h2
        exact hq _ H (.inl rfl) oyc
      · subst ey
        cases h4
        refine hq _ H (.inl rfl) ?_
        show At _ _ _ _ _
        rw [List.append_nil]
        exact oxc
      · exact hq _ _ (.inr ⟨p,_,hp,rfl⟩) (At.mkT R x0 i1 (h2.app h4) hp)
    · cases hz
  · split at hz
    · rename_i s t hs ht
      split at hz
      · rename_i hl
        cases hz
        obtain ⟨p,xs,rfl,hp,ap⟩:=ox.items R hs
        obtain ⟨q,ys,rfl,hq',aq⟩:=oy.items R ht
        refine .inr (.inr (.inr ⟨p,q,xs,ys,rfl,rfl,hp,hq',by rw [ap.length,aq.length]; exact szle hl,fun l hl => ?_⟩))
        exact hq _ _ (.inr ⟨l,_,hl,rfl⟩) (VOk.mk x0 i1 (ap.app aq) hl)
      · cases hz
    · cases hz
theorem ZaW (hK:B.K=X.K):OpR X (binaryOp .Add) (fun x y H Q=>rI0 (fun i j=>.int (i + j)) x y H Q∨(∃ i j,x = .str i∧y = .str j∧i.length + j.length≤sizeLine∧Q (.str (i ++ j)) H)∨rCatA B.K x y H Q∨rCatR x y H Q):=by
  rw [hK]
  exact OpR.or op_add (OpR.or op_add_str (OpR.or op_catA ZhP))
theorem Zjl {g:Int→Int→Int} {f:Op2} (hf:∀ x y z,f x y=some z→∃ i j,x = .dat (.int i)∧y = .dat (.int j)∧z = .dat (.int (g i j))):OpS2 B f (rI0 fun i j=>.int (g i j)):=by
  intro S e g' g1 σ H0 H x y z vx vy Q R x0 i1 ox oy hz hq
  obtain ⟨i,j,rfl,rfl,rfl⟩:=hf x y z hz
  cases ox
  cases oy
  exact ⟨i,j,rfl,rfl,hq _ H (.inl rfl) (.int _)⟩
theorem ZhG {g:Int→Int→Bool} {f:Op2} (hf:∀ x y z,f x y=some z→∃ i j,x = .dat (.int i)∧y = .dat (.int j)∧z = .dat (.bl (g i j))):OpS2 B f (rI0 fun i j=>.bl (g i j)):=by
  intro S e g' g1 σ H0 H x y z vx vy Q R x0 i1 ox oy hz hq
  obtain ⟨i,j,rfl,rfl,rfl⟩:=hf x y z hz
  cases ox
  cases oy
  exact ⟨i,j,rfl,rfl,hq _ H (.inl rfl) (.bl _)⟩
theorem Zgt {C:Int→Int→Prop} {g:Int→Int→Int} {f:Op2} (hf:∀ x y z,f x y=some z→∃ i j,x = .dat (.int i)∧y = .dat (.int j)∧C i j∧z = .dat (.int (g i j))):OpS2 B f (rI C fun i j=>.int (g i j)):=by
  intro S e g' g1 σ H0 H x y z vx vy Q R x0 i1 ox oy hz hq
  obtain ⟨i,j,rfl,rfl,c,rfl⟩:=hf x y z hz
  cases ox
  cases oy
  exact ⟨i,j,rfl,rfl,c,hq _ H (.inl rfl) (.int _)⟩
theorem ZiC:OpS2 B oSub (rI0 fun i j=>.int (i - j)):=Zjl fun x y z h=>by
  unfold oSub at h
  split at h
  · cases h
    exact ⟨_,_,rfl,rfl,rfl⟩
  · cases h
theorem Zcr:OpS2 B oMul (rI CMulW fun i j=>.int (i * j)):=Zgt fun x y z h=>by
  unfold oMul at h
  split at h
  · split at h
    · rename_i c
      cases h
      exact ⟨_,_,rfl,rfl,c,rfl⟩
    · cases h
  · cases h
theorem ZiD:OpS2 B oDiv (rI CDivW fun i j=>.int (i / j)):=Zgt fun x y z h=>by
  unfold oDiv at h
  split at h
  · split at h
    · rename_i c
      cases h
      exact ⟨_,_,rfl,rfl,c,rfl⟩
    · cases h
  · cases h
theorem Zd6:OpS2 B oMod (rI (fun _ j=>0 < j) fun i j=>.int (i % j)):=Zgt fun x y z h=>by
  unfold oMod at h
  split at h
  · split at h
    · rename_i c
      cases h
      exact ⟨_,_,rfl,rfl,c,rfl⟩
    · cases h
  · cases h
theorem ZgK:OpS2 B oPow (rI CPow fun i j=>.int (i ^ j.toNat)):=Zgt fun x y z h=>by
  unfold oPow at h
  split at h
  · split at h
    · rename_i c
      cases h
      exact ⟨_,_,rfl,rfl,c,rfl⟩
    · cases h
  · cases h
theorem Zjm:OpR X (compareOp .Lt) (rI0 fun i j=>.bl (decide (i < j))):=opB0 fun _ _ _ _ _ _ _ q=>lt_int q
theorem Zjn:OpR X (compareOp .Gt) (rI0 fun i j=>.bl (decide (j < i))):=opB0 fun _ _ _ _ _ _ _ q=>gt_int q
theorem Zjo:OpR X (compareOp .GtE) (rI0 fun i j=>.bl (decide (j≤i))):=opB0 fun _ _ _ _ _ _ _ q=>ge_int q
theorem Zjp:OpS2 B oLt (rI0 fun i j=>.bl (decide (i < j))):=ZhG fun x y z h=>by
  unfold oLt at h
  split at h
  · cases h
    exact ⟨_,_,rfl,rfl,rfl⟩
  · cases h
theorem Zjq:OpS2 B oGt (rI0 fun i j=>.bl (decide (j < i))):=ZhG fun x y z h=>by
  unfold oGt at h
  split at h
  · cases h
    exact ⟨_,_,rfl,rfl,rfl⟩
  · cases h
theorem ZaM:OpS2 B oEq (rEqD B.K):=by
  intro S e g g1 σ H0 H x y z vx vy Q R x0 i1 ox oy hz hq
  unfold oEq eqD at hz
  split at hz
  · rename_i c
    cases hz
    have ax:=ox.weak R
    have ay:=oy.weak R
    refine ⟨_,_,ZdO ax c.1,ZdO ay c.2,Zce ax c.1 (by omega),Zce ay c.2 (by omega),?_⟩
    rw [ZdN _ _ ⟨_,c.1⟩ ⟨_,c.2⟩]
    exact hq _ H (.inl rfl) (.bl _)
  · cases hz
theorem Zjr:OpS2 B oNe (rNeD B.K):=by
  intro S e g g1 σ H0 H x y z vx vy Q R x0 i1 ox oy hz hq
  unfold oNe eqD at hz
  split at hz
  · rename_i c
    cases hz
    have ax:=ox.weak R
    have ay:=oy.weak R
    refine ⟨_,_,ZdO ax c.1,ZdO ay c.2,Zce ax c.1 (by omega),Zce ay c.2 (by omega),?_⟩
    rw [ZdN _ _ ⟨_,c.1⟩ ⟨_,c.2⟩]
    exact hq _ H (.inl rfl) (.bl _)
  · cases hz
theorem ZaN (hK:B.K=X.K) (hu:X.A.units + 64 < cLine):OpR X (compareOp .Eq) (rEqD B.K):=by
  rw [hK]
  exact op_eqD hu
theorem Zjs (hK:B.K=X.K) (hu:X.A.units + 64 < cLine):OpR X (compareOp .NotEq) (rNeD B.K):=by
  rw [hK]
  exact op_neD hu
theorem ZeJ {K:Frag} {O:Addr→Prop} {H:Hp} {v:V} {d:D} (h:At K O H v d) (e:scl d=true):flatV v=true:=by
  cases h <;> first | rfl | cases e
theorem Zd7 {K:Frag} {O:Addr→Prop} {H:Hp}:∀ {xs:List V} {ds:List D},AtL K O H xs ds→ds.all scl=true→xs.all flatV=true
  | _,_,.nil,_=>rfl
  | _,_,.cons h hs,e=>by
    rw [List.all_cons,Bool.and_eq_true] at e
    rw [List.all_cons,ZeJ h e.1,Zd7 hs e.2]
    rfl
theorem ZhQ {K:Frag} {O:Addr→Prop} {H:Hp} {v w:V} {d c:D} (h:At K O H v d) (k:At K O H w c) (e:scl d=true) (e2:scl c=true):eqV v w=eqv d c:=by
  cases h <;> cases k <;> first | exact Zf7 _ _ | rfl | cases e | cases e2
theorem Zfg {K:Frag} {O:Addr→Prop} {H:Hp} {w:V} {c:D} (k:At K O H w c) (e2:scl c=true):∀ {xs:List V} {ds:List D},AtL K O H xs ds→ds.all scl=true→inV w xs=ds.any fun d=>eqv d c
  | _,_,.nil,_=>rfl
  | _,_,.cons h hs,e=>by
    rw [List.all_cons,Bool.and_eq_true] at e
    have:=Zfg k e2 hs e.2
    unfold inV at this ⊢
    rw [List.any_cons,List.any_cons,this,ZhQ h k e.1 e2]
theorem Zd8 {c:D} {n:Nat} (hc:∃ n,okE n c=true):∀ ds:List D,okL n ds=true→((toPyL ds).any fun z=>PyData.eqv z (toPy c))=ds.any fun d=>eqv d c
  | [],_=>rfl
  | d :: ds,h=>by
    simp only [okL,Bool.and_eq_true] at h
    show (PyData.eqv (toPy d) (toPy c) || (toPyL ds).any _)=_
    rw [List.any_cons,ZdN d c ⟨_,h.1⟩ hc,Zd8 hc ds h.2]
theorem ZeY {K:Frag} {O:Addr→Prop} {H:Hp} {xs:List V} {ds:List D} {n:Nat} (h:AtL K O H xs ds) (e:okL n ds=true) (hn:n + 1≤64):SeqAt.shaped (.list (toPyL ds))=true:=by
  obtain ⟨h1,h2⟩:=Zeu h e
  unfold SeqAt.shaped
  simp only [PyData.canLay0,PyData.depth,h1,Bool.true_and,decide_eq_true_eq]
  have:PyData.depthAll (toPyL ds) + 1≤64:=by omega
  exact decide_eq_true this
theorem ZhH:OpS2 B oIn (fun x y H Q=>rIn B.K false x y H Q∨rInD B.K x y H Q):=by
  intro S e g g1 σ H0 H x y z vx vy Q R x0 i1 ox oy hz hq
  unfold oIn at hz
  split at hz
  · rename_i c ds
    split at hz
    · rename_i k
      cases hz
      cases oy with
      | @tup a xs _ h1 h2=>
      refine .inl ⟨a,xs,rfl,.inr (ZaU h1),ZeJ ox k.1,Zd7 h2 k.2,?_⟩
      rw [if_neg Bool.false_ne_true,Zfg ox k.1 h2 k.2]
      exact hq _ H (.inl rfl) (.bl _)
    · cases hz
  · split at hz
    · rename_i ds hs
      split at hz
      · rename_i k
        cases hz
        obtain ⟨p,xs,rfl,hp,ap⟩:=oy.items R hs
        have ax:=ox.weak R
        refine .inr ⟨_,_,ZdO ax k.1,.lst ((.inl hp)) (Zd5 ap k.2),Zce ax k.1 (by omega),ZeY ap k.2 (by omega),?_⟩
        rw [Zd8 ⟨_,k.1⟩ ds k.2]
        exact hq _ H (.inl rfl) (.bl _)
      · cases hz
    · cases hz
theorem Zjt:OpS2 B oNi (fun x y H Q=>rIn B.K true x y H Q∨rNotInD B.K x y H Q):=by
  intro S e g g1 σ H0 H x y z vx vy Q R x0 i1 ox oy hz hq
  unfold oNi at hz
  split at hz
  · rename_i c ds
    split at hz
    · rename_i k
      cases hz
      cases oy with
      | @tup a xs _ h1 h2=>
      refine .inl ⟨a,xs,rfl,.inr (ZaU h1),ZeJ ox k.1,Zd7 h2 k.2,?_⟩
      rw [if_pos rfl,Zfg ox k.1 h2 k.2]
      exact hq _ H (.inl rfl) (.bl _)
    · cases hz
  · split at hz
    · rename_i ds hs
      split at hz
      · rename_i k
        cases hz
        obtain ⟨p,xs,rfl,hp,ap⟩:=oy.items R hs
        have ax:=ox.weak R
        refine .inr ⟨_,_,ZdO ax k.1,.lst ((.inl hp)) (Zd5 ap k.2),Zce ax k.1 (by omega),ZeY ap k.2 (by omega),?_⟩
        rw [Zd8 ⟨_,k.1⟩ ds k.2]
        exact hq _ H (.inl rfl) (.bl _)
      · cases hz
    · cases hz
theorem ZhI (hK:B.K=X.K) (hu:X.A.units + 65 < cLine):OpR X (compareOp .In) (fun x y H Q=>rIn B.K false x y H Q∨rInD B.K x y H Q):=by
  rw [hK]
  exact OpR.or op_in_seq (op_inD hu)
theorem Zju (hK:B.K=X.K) (hu:X.A.units + 65 < cLine):OpR X (compareOp .NotIn) (fun x y H Q=>rIn B.K true x y H Q∨rNotInD B.K x y H Q):=by
  rw [hK]
  exact OpR.or op_notIn_seq (op_notInD hu)
theorem ZhR {l:List Nat} {p:Nat→Bool} (h:l.all p=true) (lo hi:Option Int):(PB.cut l lo hi).all p=true:=by
  rw [List.all_eq_true] at h ⊢
  intro x hx
  exact h x (List.mem_of_mem_drop (List.mem_of_mem_take hx))
theorem ZhJ:OpS2 B oIx (rIx B.K):=by
  intro S e g g1 σ H0 H x y z vx vy Q R x0 i1 ox oy hz hq
  unfold oIx at hz
  split at hz
  · rename_i ds i
    cases oy
    cases ox with
    | @tup a xs _ h1 h2=>
    cases k:PB.atI ds i with
    | none=>
      rw [k] at hz
      cases hz
    | some d=>
      rw [k] at hz
      cases hz
      obtain ⟨v,e1,a1⟩:=h2.atI k
      exact .inr (.inl ⟨a,xs,i,v,rfl,rfl,ZaU h1,e1,hq _ H (.inl rfl) a1⟩)
  · rename_i s i
    cases oy
    cases ox with
    | str _ h1 h2=>
    cases k:PB.atI s i with
    | none=>
      rw [k] at hz
      cases hz
    | some c=>
      rw [k] at hz
      cases hz
      refine .inr (.inr ⟨mkS s,i,c,rfl,rfl,by rw [ZbD]; exact szle h1,by rw [ZeI]; exact k,hq _ H (.inl rfl) (At.str [c] (by show 1≤16777216; omega) ?_)⟩)
      have hm:c∈s:=by
        unfold PB.atI at k
        cases q:PB.ixN s.length i with
        | none=>
          rw [q] at k
          cases k
        | some j=>
          rw [q] at k
          exact List.mem_of_getElem? (by simpa using k)
      rw [List.all_eq_true] at h2
      rw [List.all_cons,h2 c hm]
      rfl
  · split at hz
    · rename_i ds hs
      obtain ⟨p,xs,rfl,hp,ap⟩:=ox.items R hs
      cases oy
      rename_i i _ _ _
      cases k:PB.atI ds i with
      | none=>
        rw [k] at hz
        cases hz
      | some d=>
        rw [k] at hz
        cases hz
        obtain ⟨v,e1,a1⟩:=ap.atI k
        exact .inl ⟨p,xs,i,v,rfl,rfl,(.inl hp),e1,hq _ H (.inl rfl) a1⟩
    · cases hz
  · cases hz
theorem ZhK (hK:B.K=X.K):IxR X (rIx B.K):=by
  rw [hK]
  exact ix_seq
theorem ZgL:OpSN B oLen (fun xs H Q=>∃ x n,xs=[x]∧LenV B.K x H n∧Q (.int n) H):=by
  intro S e g g1 σ H0 H xs z vs Q R x0 i1 os hz hq
  unfold oLen at hz
  split at hz
  · cases hz
    cases os with
    | cons o os=>
    cases os
    cases o with
    | str _ h1 h2=>exact ⟨_,_,rfl,⟨by rw [ZbD]; exact szle h1,(ZbD _).symm⟩,hq _ H (.inl rfl) (.int _)⟩
  · cases hz
    cases os with
    | cons o os=>
    cases os
    cases o with
    | @tup a ys _ h1 h2=>exact ⟨_,_,rfl,.inr ⟨ys,ZaU h1,h2.length.symm⟩,hq _ H (.inl rfl) (.int _)⟩
  · rename_i x _ _
    cases k:x.items with
    | none=>
      rw [k] at hz
      cases hz
    | some ds=>
      rw [k] at hz
      cases hz
      cases os with
      | cons o os=>
      cases os
      obtain ⟨p,ys,rfl,hp,ap⟩:=o.items R k
      exact ⟨_,ds.length,rfl,.inl ⟨ys,(.inl hp),ap.length.symm⟩,hq _ H (.inl rfl) (.int _)⟩
  · cases hz
theorem ZgM (hK:B.K=X.K):CallR X (.builtin "len") (fun xs H Q=>∃ x n,xs=[x]∧LenV B.K x H n∧Q (.int n) H):=by
  rw [hK]
  exact call_len
theorem ZiE:OpSN B oAll (rAll B.K):=by
  intro S e g g1 σ H0 H xs z vs Q R x0 i1 os hz hq
  unfold oAll at hz
  split at hz
  · split at hz
    · rename_i ds k
      cases e2:dBls ds with
      | none=>
        rw [e2] at hz
        cases hz
      | some ns=>
        rw [e2] at hz
        cases hz
        cases os with
        | cons o os=>
        cases os
        obtain ⟨p,ys,rfl,hp,ap⟩:=o.items R k
        rw [ap.dBls e2] at hp
        exact ⟨p,ns,rfl,(.inl hp),hq _ H (.inl rfl) (.bl _)⟩
    · cases hz
  · cases hz
theorem ZeK:OpSN B oTuple (fun xs H Q=>∃ p ys,xs=[.ref p]∧((SqL B.K H p ys∧∀ l,H l=none→Q (.ref l) (upd H l (.tup ys)))∨(SqT B.K H p ys∧Q (.ref p) H))):=by
  intro S e g g1 σ H0 H xs z vs Q R x0 i1 os hz hq
  unfold oTuple at hz
  split at hz
  · cases hz
    cases os with
    | cons o os=>
    cases os
    have oc:=o
    cases o with
    | @tup a ys ds h1 h2=>exact ⟨a,ys,rfl,.inr ⟨ZaU h1,hq _ H (.inl rfl) oc⟩⟩
  · rename_i x _
    cases k:x.items with
    | none=>
      rw [k] at hz
      cases hz
    | some ds=>
      rw [k] at hz
      cases hz
      cases os with
      | cons o os=>
      cases os
      obtain ⟨p,ys,rfl,hp,ap⟩:=o.items R k
      exact ⟨p,ys,rfl,.inl ⟨(.inl hp),fun l hl=>hq _ _ (.inr ⟨l,_,hl,rfl⟩) (At.mkT R x0 i1 ap hl)⟩⟩
  · cases hz
theorem ZiF (hK:B.K=X.K) (hc:X.calm=true):CallR X (.builtin "all") (rAll B.K):=by
  rw [hK]
  exact cr_all hc
theorem ZeL (hK:B.K=X.K):CallR X (.type "tuple") (fun xs H Q=>∃ p ys,xs=[.ref p]∧((SqL B.K H p ys∧∀ l,H l=none→Q (.ref l) (upd H l (.tup ys)))∨(SqT B.K H p ys∧Q (.ref p) H))):=by
  rw [hK]
  exact call_tuple_of
end
end PB
namespace PB
open PySem PySem.Spec PyProof.Rows L2
variable [Kts]
section
variable {γ ι:Type} {B:Bs γ ι} {W:WX} {X:Cx} {pos:Pos} {a b c e:Expr} {es:List Expr} {ma mb mc:ME γ} {mr:MA γ} {ta tb tc:MT γ}
theorem Zaq:PA X [] (RA B W Zal):=pa_w pa_nil fun σ H Q ⟨S,e,g,R,h⟩=>h [] H (.refl H) R.gh .nil
theorem Zaf (ha:PE X e (RE B W ma)) (hr:PA X es (RA B W mr)) (hs:starEach (e :: es) X.env=(false,eval e X.env) :: starEach es X.env:=by rfl):PA X (e :: es) (RA B W (Zab ma mr)):=by
  refine pa_w (pa_cons ha hr hs) fun σ H Q ⟨S,e,g,R,h⟩ => ?_
  refine ⟨S,e,g,R,RK.bind (.refl H) h fun x g1 vx H1 _ x1 i1 o1 h1 => ?_⟩
  refine ⟨S,e,g1,R.exe x1 i1,RK.bind x1 h1 fun y g2 vy H2 x12 x2 i2 o2 h2 => ?_⟩
  exact h2 (vx :: vy) H2 x2 i2 (.cons (o1.step R x12) (o2.pre x1 i1))
theorem ZeZ {x1} (h:PA X es (RA B W mr)):PE X (.Tuple es x1 pos) (RE B W (Zcq mr)):=by
  refine ZaS (pe_tup h) fun σ H Q ⟨S,e,g,R,h⟩ => ?_
  refine ⟨S,e,g,R,RK.bind (.refl H) h fun x g1 vx H1 _ x1 i1 o1 h1 => ?_⟩
  split at h1
  · rename_i ds hs
    split at h1
    · rename_i hl
      have al:=o1.sto R hs
      exact ⟨by rw [al.length]; exact szle hl,fun p hp=>h1 _ _ (x1.trans (.new hp)) (Gho.new i1 hp) (At.mkT R x1 i1 al hp)⟩
    · exact h1.elim
  · exact h1.elim
theorem Zbw (h:PA X es (RA B W mr)):PE X (.List es pos) (RE B W (Za3 mr)):=by
  refine ZaS (pe_lst h) fun σ H Q ⟨S,e,g,R,h⟩ => ?_
  refine ⟨S,e,g,R,RK.bind (.refl H) h fun x g1 vx H1 _ x1 i1 o1 h1 => ?_⟩
  split at h1
  · rename_i ds hs
    split at h1
    · rename_i hl
      have al:=o1.sto R hs
      exact ⟨by rw [al.length]; exact szle hl,fun p hp=>h1 _ _ (x1.trans (.new hp)) (Gho.new i1 hp) (VOk.mk x1 i1 al hp)⟩
    · exact h1.elim
  · exact h1.elim
/-- a built-in function by its name -/
theorem Zgu {x:Str} {p:Pos} {id:String} {f:OpN} {r:List V→Hp→VK→Prop} (hc:CallR X (.builtin id) r) (hs:OpSN B f r) (hg:Gl X x) (hm:X.mg x=none) (hv:bootBuiltins x=some (.builtin id)) (ha:PA X (e :: es) (RA B W mr)) (hn:x ≠ "__name__" := by decide) (hdb:(x == ("__debug__" : Str))=false:=by decide)
    (he:starEach (e :: es) X.env=(false,eval e X.env) :: starEach es X.env:=by rfl) (hpl:(backTo pos (starEach es X.env)).any (·.1)=false:=by rfl):PE X (.Call (.Name x p) (e :: es) [] pos) (RE B W (Zca f mr)):=
  ZaS (pe_callB hc hg hm hv ha hn hdb he hpl) fun _ _ _=>ZgH hs
theorem Zgv {x:Str} {p:Pos} {T:String} {f:OpN} {r:List V→Hp→VK→Prop} (hc:CallR X (.type T) r) (hs:OpSN B f r) (hg:Gl X x) (hm:X.mg x=none) (hv:bootBuiltins x=some (.type T)) (ha:PA X (e :: es) (RA B W mr)) (hn:x ≠ "__name__" := by decide) (hdb:(x == ("__debug__" : Str))=false:=by decide)
    (he:starEach (e :: es) X.env=(false,eval e X.env) :: starEach es X.env:=by rfl) (hpl:(backTo pos (starEach es X.env)).any (·.1)=false:=by rfl):PE X (.Call (.Name x p) (e :: es) [] pos) (RE B W (Zca f mr)):=
  ZaS (pe_callTy hc hg hm hv ha hn hdb he hpl) fun _ _ _=>ZgH hs
/-- going on from a later heap -/
theorem RK.late {A:Act γ ι} {e:Env} {g1:γ} {σ:L2.St} {H H1:Hp} {r:Rs γ Rv} {Q:VK} (x1:ExE A H H1) (i1:A.G.I g1 H1) (h:RK VOk A W e σ H r Q):RK VOk A W e σ H1 r Q:=by
  cases r with
  | no=>exact h
  | ex y g=>exact fun c od H' x'=>h c od H' (x1.trans x')
  | ok y g=>exact fun v H' x' i o=>h v H' (x1.trans x') i (o.pre x1 i1)
theorem RK.lateB {A:Act γ ι} {e:Env} {σ:L2.St} {H H1:Hp} {r:Rs γ Bool} {Q:Bool→Hp→Prop} (x1:ExE A H H1) (h:RK PB_ A W e σ H r Q):RK PB_ A W e σ H1 r Q:=by
  cases r with
  | no=>exact h
  | ex y g=>exact fun c od H' x'=>h c od H' (x1.trans x')
  | ok y g=>exact fun v H' x' i o=>h v H' (x1.trans x') i o
theorem ZfJ {op} (h:PE X a (RE B W ma)):PE X (.BoolOp op [a] pos) (RE B W ma):=pe_one h
theorem Zev {rest:List Expr} (ha:PE X a (RE B W ma)) (hb:PE X (.BoolOp .And (b :: rest) pos) (RE B W mb)):PE X (.BoolOp .And (a :: b :: rest) pos) (RE B W (ZbV ma mb)):=by
  refine ZaS (pe_and ha hb) fun σ H Q ⟨S,e,g,R,h⟩ => ?_
  refine ⟨S,e,g,R,RK.bind (.refl H) h fun x g1 vx H1 _ x1 i1 o1 h1 => ?_⟩
  split at h1
  · cases o1
    refine ⟨true,rfl,?_⟩
    rw [if_pos rfl]
    exact ⟨S,e,g1,R.exe x1 i1,h1.late x1 i1⟩
  · cases o1
    refine ⟨false,rfl,?_⟩
    rw [if_neg Bool.false_ne_true]
    exact h1 _ H1 x1 i1 (.bl _)
  · exact h1.elim
theorem Zfh {σ:L2.St} {H:Hp} {Q:Bool→Hp→Prop} (h:RT B W (Zan ma) σ H Q):RE B W ma σ H fun x H'=>∃ k,x = .bl k∧Q k H':=by
  obtain ⟨S,e,g,R,h⟩:=h
  refine ⟨S,e,g,R,RK.bind (.refl H) h fun x g1 vx H1 _ x1 i1 o1 h1 => ?_⟩
  split at h1
  · cases o1
    exact ⟨_,rfl,h1 _ H1 x1 i1 rfl⟩
  · exact h1.elim
/-- any expression that comes to a truth,as a test -/
theorem Ze0 (h:PE X a (RE B W ma)) (he:∀ whole,isTrue a X.env whole=(do let v ← whole; standAt a.pos; holding [v] (truthy v)):=by intro _; rfl):PT X a (RT B W (Zan ma)):=Zff (pt_val h he) fun _ _ _=>Zfh
/-- a comparison as a test -/
theorem Zaz {op:CmpOp} {f:Op2} {r:R2} (ho:OpR X (compareOp op) r) (hs:OpS2 B f r) (ha:PE X a (RE B W ma)) (hb:PE X b (RE B W mb)) (hm:behindInMarks op b=false):PT X (.Compare a [op] [b] pos) (RT B W (Zan (Zad f ma mb))):=by
  refine Zff (pt_cmpR ho ha hb hm) fun σ H Q h => ?_
  have h':=Zfh h
  exact ZeX hs h'
theorem ZiG {σ:L2.St} {H:Hp} {Q:Bool→Hp→Prop} (h:RT B W (ZeF ta tb) σ H Q):tAnd (RT B W ta) (RT B W tb) σ H Q:=by
  obtain ⟨S,e,g,R,h⟩:=h
  refine ⟨S,e,g,R,RK.bind (.refl H) h fun x g1 vx H1 _ x1 i1 o1 h1 => ?_⟩
  cases o1
  cases x with
  | true=>
    rw [if_pos rfl]
    exact ⟨S,e,g1,R.exe x1 i1,RK.lateB x1 h1⟩
  | false=>
    rw [if_neg Bool.false_ne_true]
    exact h1 _ H1 x1 i1 rfl
theorem Zjv {σ:L2.St} {H:Hp} {Q:Bool→Hp→Prop} (h:RT B W (mOr ta tb) σ H Q):tOr (RT B W ta) (RT B W tb) σ H Q:=by
  obtain ⟨S,e,g,R,h⟩:=h
  refine ⟨S,e,g,R,RK.bind (.refl H) h fun x g1 vx H1 _ x1 i1 o1 h1 => ?_⟩
  cases o1
  cases x with
  | false=>
    rw [if_neg Bool.false_ne_true]
    exact ⟨S,e,g1,R.exe x1 i1,RK.lateB x1 h1⟩
  | true=>
    rw [if_pos rfl]
    exact h1 _ H1 x1 i1 rfl
theorem ZhS (ha:PT X a (RT B W ta)):PW X (.BoolOp .And [a] pos) (RT B W ta):=pw_and1 ha
theorem ZiH (ha:PT X a (RT B W ta)):PW X (.BoolOp .Or [a] pos) (RT B W ta):=pw_or1 ha
theorem ZiI {rest:List Expr} (ha:PT X a (RT B W ta)) (hb:PW X (.BoolOp .And (b :: rest) pos) (RT B W tb)):PW X (.BoolOp .And (a :: b :: rest) pos) (RT B W (ZeF ta tb)):=pw_w (pw_and ha hb) fun _ _ _=>ZiG
theorem Zjw {rest:List Expr} (ha:PT X a (RT B W ta)) (hb:PW X (.BoolOp .Or (b :: rest) pos) (RT B W tb)):PW X (.BoolOp .Or (a :: b :: rest) pos) (RT B W (mOr ta tb)):=pw_w (pw_or ha hb) fun _ _ _=>Zjv
theorem ZgN (ha:PT X a (RT B W ta)):PT X (.UnaryOp .Not a pos) (RT B W (ZdL ta)):=by
  refine Zff (pt_not ha) fun σ H Q ⟨S,e,g,R,h⟩ => ?_
  refine ⟨S,e,g,R,RK.bind (.refl H) h fun x g1 vx H1 _ x1 i1 o1 h1 => ?_⟩
  cases o1
  exact h1 _ H1 x1 i1 rfl
end
end PB
namespace PB
open PySem PySem.Spec PyProof.Rows L2
variable [Kts]
section
variable {γ ι:Type}
/-- what is handed back -/
def FRet (K:Frag) (S:Addr→Prop) (H H':Hp) (r:Rv) (v:V):Prop:=match r with
  | .dat d=>At K S H' v d
  | .own ds=>∃ p xs,v = .ref p∧H p=none∧H' p=some (.lst xs)∧AtL K (fun a=>S a∨a=p) H' xs ds
  | .bor _=>False
  | .odt t ks vs=>∃ p us,v = .ref p∧H p=none∧DiS K (fun a=>S a∨a=p) H' p t ks us∧AtL K (fun a=>S a∨a=p) H' us vs
  | .bdt _ _ _=>False
/-- .. that no exception leaves -/
def spOf (K:Frag) (fam:ι→Gho γ) (n:Nat) (F:MF γ):Sp:=fun vs H Q E=>∃ (i:ι) (S:Addr→Prop) (ds:List D) (g:γ),vs.length=n∧(∀ a,(fam i).F a→S a)∧(∀ a,S a→Stk (H a))∧AtL K S H vs ds∧(fam i).I g H ∧
  match F ds g with
  | .ok r g'=>∀ v H',(∀ b o,H b=some o→¬ (fam i).F b→H' b=some o)→(fam i).I g' H'→FRet K S H H' r v→Q v H'
  | .ex x g'=>False
  | .no=>False
variable {B:Bs γ ι} {W:WX} {X:Cx} {pos pz:Pos} {e:Expr} {es:List Expr} {mr:MA γ} {F:MF γ}
theorem VOkL.length {A:Act γ ι} {e:Env} {σ:L2.St} {H0 H:Hp}:∀ {rs:List Rv} {vs:List V},VOkL A e σ H0 H rs vs→vs.length=rs.length
  | _,_,.nil=>rfl
  | _,_,.cons _ h=>by rw [List.length_cons,List.length_cons,h.length]
theorem ZdP {A:Act γ ι} {e:Env} {g g1:γ} {σ:L2.St} {H0 H H':Hp} (R:Rep A e g σ H0) (x:ExE A H0 H) (i1:A.G.I g1 H) {r:Rv} {v:V} (h:FRet A.K (Om A e σ) H H' r v):VOk A e σ H0 H' r v:=by
  cases r with
  | dat d=>exact h
  | own ds=>
    obtain ⟨q,xs,e1,h0,k,a⟩:=h
    exact ⟨q,xs,e1,x.back h0 i1,k,a⟩
  | bor ds=>exact h.elim
  | odt t ks vs=>
    obtain ⟨q,xs,e1,h0,k,a⟩:=h
    exact ⟨q,xs,e1,x.back h0 i1,k,a⟩
  | bdt t ks vs=>exact h.elim
theorem ZhT {n:Nat} {σ:L2.St} {H:Hp} {Q:VK} (h:RE B W (Zat F mr) σ H Q) (hl:∀ e g rs g',mr e g = .ok rs g'→rs.length=n):tCall (spOf B.K B.fam n F) [] E0 (RA B W mr) σ H Q:=by
  obtain ⟨S,e,g,R,h⟩:=h
  refine ⟨S,e,g,R,?_⟩
  have hl':=hl e g
  unfold Zat at h
  cases q:mr e g with
  | no=>
    rw [q] at h
    exact h
  | ex y g1=>
    rw [q] at h
    exact h
  | ok rs g1=>
    rw [q] at h
    intro vs H1 x1 i1 o1
    have h1:RK VOk ⟨B,S⟩ W e σ H (match stoL rs with | some ds=>okO (F ds g1) | none=>.no) Q:=h
    cases ks:stoL rs with
    | none=>
      rw [ks] at h1
      exact h1.elim
    | some ds=>
      rw [ks] at h1
      have al:=o1.sto R ks
      have R1:=R.exe x1 i1
      have hn:rs.length=n:=hl' _ _ q
      have hvl:vs.length=n:=by rw [← hn,o1.length]
      have h1:RK VOk ⟨B,S⟩ W e σ H (okO (F ds g1)) Q:=h1
      rw [List.append_nil]
      refine ⟨B.i,Om ⟨B,S⟩ e σ,ds,g1,hvl,fun a z=>.inl (R.fx a z),fun a z=>R1.oms z,al,i1,?_⟩
      cases kf:F ds g1 with
      | no=>
        rw [kf] at h1
        exact h1
      | ex y g2=>
        rw [kf] at h1
        exact h1
      | ok r g2=>
        rw [kf] at h1
        exact fun v H' x' i' o'=>h1 v H' (x1.trans x') i' (ZdP R x1 i1 o')
theorem Za8:∀ (e:Env) (g:γ) rs g',(Zal:MA γ) e g = .ok rs g'→rs.length=0:=fun e g rs g' h=>by
  cases h
  rfl
theorem Zav {a:ME γ} {r:MA γ} {n:Nat} (hr:∀ e g rs g',r e g = .ok rs g'→rs.length=n):∀ (e:Env) (g:γ) rs g',Zab a r e g = .ok rs g'→rs.length=n + 1:=fun e g rs g' h=>by
  unfold Zab at h
  cases q:a e g with
  | no=>
    rw [q] at h
    cases h
  | ex y g1=>
    rw [q] at h
    cases h
  | ok x g1=>
    rw [q] at h
    have h2:(r e g1).bind (fun xs g2=>.ok (x :: xs) g2) = .ok rs g':=h
    cases q2:r e g1 with
    | no=>
      rw [q2] at h2
      cases h2
    | ex y g1=>
      rw [q2] at h2
      cases h2
    | ok xs g2=>
      rw [q2] at h2
      cases h2
      rw [List.length_cons,hr _ _ _ _ q2]
/-- f(..),no exception leaves f -/
theorem Zbl {k:Nat} {n:Nat} {f:Addr} {fd:FuncData} {ps:List Str} {x:Str} (G:FnOk X.prog X.w X.K X.mg X.base CX0 k f fd ps (spOf B.K B.fam n F)) (hr:Room k X.A) (hg:Gl X x) (hm:X.mg x=some (.ref f)) (hk:PySem.W.keepIn X.K (.ref f)=true) (hb:Binds X.K fd ps [])
    (ha:PA X (e :: es) (RA B W mr)) (hl:∀ e g rs g',mr e g = .ok rs g'→rs.length=n) (hdb:(x == ("__debug__" : Str))=false:=by decide) (he:starEach (e :: es) X.env=(false,eval e X.env) :: starEach es X.env:=by rfl) (hpl:(backTo pos (starEach es X.env)).any (·.1)=false:=by rfl) :
    PE X (.Call (.Name x pz) (e :: es) [] pos) (RE B W (Zat F mr)):=
  ZaS (pe_call G hr hg hm hk hb .nil pass0 ha hdb he hpl) fun σ H Q h=>ZhT h hl
theorem ZaO (e:Env) (i j:Nat) (x:Sl):gt (st e i x) j=if j=i∧i < e.length then x else gt e j:=by
  induction e generalizing i j with
  | nil=>simp [st,gt]
  | cons s r ih=>
    cases i with
    | zero=>
      cases j with
      | zero=>simp [st,gt]
      | succ j=>simp [st,gt]
    | succ i=>
      cases j with
      | zero=>simp [st,gt]
      | succ j=>
        simp only [st,gt,ih,List.length_cons,Nat.add_right_cancel_iff,Nat.add_lt_add_iff_right]
theorem Zb2 (e:Env) (i:Nat) (x:Sl):(st e i x).length=e.length:=by
  induction e generalizing i with
  | nil=>rfl
  | cons s r ih=>
    cases i with
    | zero=>rfl
    | succ i=>simp [st,ih]
theorem ZfK {e:Env} {i:Nat} (h:e.length≤i):gt e i = .un:=by
  induction e generalizing i with
  | nil=>rfl
  | cons s r ih=>
    cases i with
    | zero=>simp at h
    | succ i=>exact ih (by simpa using h)
theorem ZaP {σ:L2.St} {i j:Nat} {v:Option V}:(σ.set i v)[j]?=if j=i∧i < σ.length then some v else σ[j]?:=by
  rw [List.getElem?_set]
  by_cases h:i=j
  · subst h
    by_cases h2:i < σ.length
    · rw [if_pos rfl,if_pos h2,if_pos ⟨rfl,h2⟩]
    · rw [if_pos rfl,if_neg h2,if_neg (fun z=>h2 z.2)]
      exact (List.getElem?_eq_none (by omega)).symm
  · rw [if_neg h,if_neg (fun z=>h z.1.symm)]
/-- a step of statements -/
structure Stp (A:Act γ ι) (e:Env) (σ:L2.St) (H:Hp) (e':Env) (σ':L2.St) (H':Hp):Prop where
  keep:∀ b o,H b=some o→¬ Mu A e σ b→H' b=some o
  mu:∀ b,OwnA e' σ' b→OwnA e σ b∨H b=none
section
variable {A:Act γ ι} {e e' e2:Env} {g g1 g2:γ} {σ σ' σ2:L2.St} {H H' H2 H1 H0:Hp} {v:V} {d:D} {i:Nat} {p:Addr}
theorem Stp.refl:Stp A e σ H e σ H:=⟨fun _ _ h _=>h,fun _ h=>.inl h⟩
theorem Stp.exe (R:Rep A e g σ H) (x:ExE A H H'):Stp A e σ H e σ H':=⟨fun b o h n=>x b o h fun z=>n (.inl z),fun _ h=>.inl h⟩
theorem Stp.trans (R':Rep A e' g σ' H') (a:Stp A e σ H e' σ' H') (b:Stp A e' σ' H' e2 σ2 H2):Stp A e σ H e2 σ2 H2 where
  keep:=fun c o h n=>b.keep c o (a.keep c o h n) fun z=>z.elim (fun z=>n (.inl z)) fun z=>(a.mu c z).elim (fun z=>n (.inr z)) fun z=>by
    rw [z] at h
    cases h
  mu:=fun c z=>by
    rcases b.mu c z with z | z
    · exact a.mu c z
    · by_cases q:OwnA e σ c
      · exact .inl q
      · cases k:H c with
        | none=>exact .inr rfl
        | some o=>
          by_cases f:A.G.F c
          · exact absurd z (A.G.trk _ _ _ R'.gh f)
          · have:=a.keep c o k fun z=>z.elim f q
            rw [z] at this
            cases this
/-- values through a step -/
theorem Stp.go (R:Rep A e g σ H) (s:Stp A e σ H e' σ' H'):∀ a o,H a=some o→¬ Om A e σ a→H' a=some o∧¬ Om A e' σ' a:=fun a o q n=>
  ⟨s.keep a o q fun z=>n (R.muom z),fun z=>z.elim (fun z=>n (.inl z)) fun z=>(s.mu a z).elim (fun z=>n (.inr z)) fun z=>by
    rw [z] at q
    cases q⟩
/-- a name's slot comes to hold data -/
theorem Ze1 (h:OwnA (st e i (.dat d)) (σ.set i (some v)) p) (hl:σ.length=e.length):OwnA e σ p:=by
  obtain ⟨j,h1,h2⟩:=h
  rw [ZaO] at h1
  rw [ZaP] at h2
  by_cases c:j=i∧i < e.length
  · rw [if_pos c] at h1
    cases h1
  · rw [if_neg c] at h1
    rw [hl,if_neg c] at h2
    exact ⟨j,h1,h2⟩
theorem Rep.set (R:Rep A e g σ H) (a:At A.K (Om A e σ) H v d) (i:Nat):Rep A (st e i (.dat d)) g (σ.set i (some v)) H where
  len:=by rw [List.length_set,Zb2,R.len]
  sl:=fun j=>by
    have less:∀ a,Om A (st e i (.dat d)) (σ.set i (some v)) a→Om A e σ a:=fun a z=>z.elim .inl fun z=>.inr (Ze1 z R.len)
    rw [ZaO,ZaP,R.len]
    by_cases c:j=i∧i < e.length
    · rw [if_pos c,if_pos c]
      exact ⟨v,rfl,a.less less⟩
    · rw [if_neg c,if_neg c]
      have q:=R.sl j
      cases h:gt e j with
      | un=>trivial
      | dat d2=>
        rw [h] at q
        obtain ⟨w,e1,a1⟩:=q
        exact ⟨w,e1,a1.less less⟩
      | own ds=>
        rw [h] at q
        obtain ⟨p,xs,e1,k,a1⟩:=q
        exact ⟨p,xs,e1,k,a1.less less⟩
      | xc y=>
        rw [h] at q
        exact q
      | gh y=>
        rw [h] at q
        exact q
      | owd t ks vs=>
        rw [h] at q
        obtain ⟨p,us,e1,k,a1⟩:=q
        exact ⟨p,us,e1,k.less less,a1.less less⟩
  inj:=fun j k p h1 h2 h3 h4=>by
    rw [ZaO] at h1 h2
    rw [ZaP,R.len] at h3 h4
    by_cases c:j=i∧i < e.length
    · rw [if_pos c] at h1
      cases h1
    · by_cases c2:k=i∧i < e.length
      · rw [if_pos c2] at h2
        cases h2
      · rw [if_neg c] at h1 h3
        rw [if_neg c2] at h2 h4
        exact R.inj j k p h1 h2 h3 h4
  nx:=fun a z=>R.nx a (Ze1 z R.len)
  gh:=R.gh
  fx:=R.fx
  xs:=R.xs
theorem Stp.set (R:Rep A e g σ H) (i:Nat):Stp A e σ H (st e i (.dat d)) (σ.set i (some v)) H:=⟨fun _ _ h _=>h,fun _ z=>.inl (Ze1 z R.len)⟩
/-- .. a new list of its own -/
theorem Rep.setO (R0:Rep A e g σ H0) (x:ExE A H0 H) (R:Rep A e g1 σ H) {ds:List D} (o:VOk A e σ H0 H (.own ds) v) (i:Nat):Rep A (st e i (.own ds)) g1 (σ.set i (some v)) H∧∀ b,OwnA (st e i (.own ds)) (σ.set i (some v)) b→OwnA e σ b∨H0 b=none:=by
  obtain ⟨p,xs,e1,h0,k,al⟩:=o
  subst e1
  have own:∀ b,OwnA (st e i (.own ds)) (σ.set i (some (.ref p))) b→OwnA e σ b∨b=p:=fun b ⟨j,h1,h2⟩=>by
    rw [ZaO] at h1
    rw [ZaP,R.len] at h2
    by_cases c:j=i∧i < e.length
    · rw [if_pos c] at h2
      cases h2
      exact .inr rfl
    · rw [if_neg c] at h1 h2
      exact .inl ⟨j,h1,h2⟩
  have np:¬ A.X p:=fun z=>R0.xt p z h0
  have nown:¬ OwnA e σ p:=fun z=>(z.stk R0).1.1 h0
  have go:∀ a o,H0 a=some o→¬ Om A e σ a→H a=some o∧¬ Om A (st e i (.own ds)) (σ.set i (some (.ref p))) a:=fun a o q n=>
    ⟨x a o q fun z=>n (.inl (R0.fx a z)),fun z=>z.elim (fun z=>n (.inl z)) fun z=>(own a z).elim (fun z=>n (.inr z)) fun z=>by
      subst z
      rw [h0] at q
      cases q⟩
  refine ⟨⟨by rw [List.length_set,Zb2,R.len],fun j => ?_,fun j k2 q h1 h2 h3 h4 => ?_,fun a z => ?_,R.gh,R.fx,R.xs⟩,fun b z=>(own b z).elim .inl fun z=>.inr (by rw [z]; exact h0)⟩
  · rw [ZaO,ZaP,R.len]
    by_cases c:j=i∧i < e.length
    · rw [if_pos c,if_pos c]
      exact ⟨p,xs,rfl,k,al.less fun a z=>z.elim (fun z=>.inl (.inl z)) fun z=>(own a z).elim (fun z=>.inl (.inr z)) .inr⟩
    · rw [if_neg c,if_neg c]
      have q:=R0.sl j
      cases h:gt e j with
      | un=>trivial
      | dat d2=>
        rw [h] at q
        obtain ⟨w,e1,a1⟩:=q
        exact ⟨w,e1,a1.go go⟩
      | own es=>
        rw [h] at q
        obtain ⟨q2,ys,e1,k1,a1⟩:=q
        exact ⟨q2,ys,e1,x _ _ k1 (R0.notF (.of h rfl e1)),a1.go go⟩
      | xc y=>
        rw [h] at q
        exact ⟨q.1,q.2.go fun p fs k=>x p _ k fun z=>R0.nxd k (.inl (R0.fx p z))⟩
      | gh y=>
        rw [h] at q
        exact q
      | owd t ks vs=>
        rw [h] at q
        obtain ⟨q2,us,e1,k1,a1⟩:=q
        exact ⟨q2,us,e1,k1.go go fun o e=>x _ _ e (R0.notF (.of h rfl e1)),a1.go go⟩
  · rw [ZaO] at h1 h2
    rw [ZaP,R.len] at h3 h4
    by_cases c:j=i∧i < e.length
    · by_cases c2:k2=i∧i < e.length
      · rw [c.1,c2.1]
      · rw [if_pos c] at h3
        cases h3
        rw [if_neg c2] at h2 h4
        exact absurd ⟨k2,h2,h4⟩ nown
    · by_cases c2:k2=i∧i < e.length
      · rw [if_pos c2] at h4
        cases h4
        rw [if_neg c] at h1 h3
        exact absurd ⟨j,h1,h3⟩ nown
      · rw [if_neg c] at h1 h3
        rw [if_neg c2] at h2 h4
        exact R.inj j k2 q h1 h2 h3 h4
  · rcases own a z with z | z
    · exact R.nx a z
    · rw [z]
      exact np
end
section
variable {A:Act γ ι} {e:Env} {g g1:γ} {σ:L2.St} {H0 H:Hp} {p:Addr} {i:Nat} {s':Sl}
/-- a new thing comes into a slot -/
theorem Rep.setN (R0:Rep A e g σ H0) (x:ExE A H0 H) (R:Rep A e g1 σ H) (h0:H0 p=none) (hs:s'.hs=true) (sok:∀ O:Addr→Prop,(∀ a,O a→Om A e σ a∨a=p)→SlOk A.B O H s' (some (some (.ref p)))) (i:Nat) :
    Rep A (st e i s') g1 (σ.set i (some (.ref p))) H∧∀ b,OwnA (st e i s') (σ.set i (some (.ref p))) b→OwnA e σ b∨H0 b=none:=by
  have own:∀ b,OwnA (st e i s') (σ.set i (some (.ref p))) b→OwnA e σ b∨b=p:=fun b ⟨j,h1,h2⟩=>by
    rw [ZaO] at h1
    rw [ZaP,R.len] at h2
    by_cases c:j=i∧i < e.length
    · rw [if_pos c] at h2
      cases h2
      exact .inr rfl
    · rw [if_neg c] at h1 h2
      exact .inl ⟨j,h1,h2⟩
  have np:¬ A.X p:=fun z=>R0.xt p z h0
  have nown:¬ OwnA e σ p:=fun z=>(z.stk R0).1.1 h0
  have go:∀ a o,H0 a=some o→¬ Om A e σ a→H a=some o∧¬ Om A (st e i s') (σ.set i (some (.ref p))) a:=fun a o q n=>
    ⟨x a o q fun z=>n (.inl (R0.fx a z)),fun z=>z.elim (fun z=>n (.inl z)) fun z=>(own a z).elim (fun z=>n (.inr z)) fun z=>by
      subst z
      rw [h0] at q
      cases q⟩
  refine ⟨⟨by rw [List.length_set,Zb2,R.len],fun j => ?_,fun j k2 q h1 h2 h3 h4 => ?_,fun a z => ?_,R.gh,R.fx,R.xs⟩,fun b z=>(own b z).elim .inl fun z=>.inr (by rw [z]; exact h0)⟩
  · rw [ZaO,ZaP,R.len]
    by_cases c:j=i∧i < e.length
    · rw [if_pos c,if_pos c]
      exact sok _ fun a z=>z.elim (fun z=>.inl (.inl z)) fun z=>(own a z).elim (fun z=>.inl (.inr z)) .inr
    · rw [if_neg c,if_neg c]
      have q:=R0.sl j
      cases h:gt e j with
      | un=>trivial
      | dat d2=>
        rw [h] at q
        obtain ⟨w,e1,a1⟩:=q
        exact ⟨w,e1,a1.go go⟩
      | own es=>
        rw [h] at q
        obtain ⟨q2,ys,e1,k1,a1⟩:=q
        exact ⟨q2,ys,e1,x _ _ k1 (R0.notF (.of h rfl e1)),a1.go go⟩
      | xc y=>
        rw [h] at q
        exact ⟨q.1,q.2.go fun p fs k=>x p _ k fun z=>R0.nxd k (.inl (R0.fx p z))⟩
      | gh y=>
        rw [h] at q
        exact q
      | owd t ks vs=>
        rw [h] at q
        obtain ⟨q2,us,e1,k1,a1⟩:=q
        exact ⟨q2,us,e1,k1.go go fun o e=>x _ _ e (R0.notF (.of h rfl e1)),a1.go go⟩
  · rw [ZaO] at h1 h2
    rw [ZaP,R.len] at h3 h4
    by_cases c:j=i∧i < e.length
    · by_cases c2:k2=i∧i < e.length
      · rw [c.1,c2.1]
      · rw [if_pos c] at h3
        cases h3
        rw [if_neg c2] at h2 h4
        exact absurd ⟨k2,h2,h4⟩ nown
    · by_cases c2:k2=i∧i < e.length
      · rw [if_pos c2] at h4
        cases h4
        rw [if_neg c] at h1 h3
        exact absurd ⟨j,h1,h3⟩ nown
      · rw [if_neg c] at h1 h3
        rw [if_neg c2] at h2 h4
        exact R.inj j k2 q h1 h2 h3 h4
  · rcases own a z with z | z
    · exact R.nx a z
    · rw [z]
      exact np
end
/-- what is handed back: seen from a statement's beginning -/
def VRet (A:Act γ ι) (e:Env) (σ:L2.St) (H H':Hp) (r:Rv) (v:V):Prop:=match r.ret with
  | .dat d=>At A.K A.X H' v d
  | .own ds=>∃ p xs,v = .ref p∧(OwnA e σ p∨H p=none)∧¬ A.X p∧H' p=some (.lst xs)∧AtL A.K (fun a=>A.X a∨a=p) H' xs ds
  | .bor _=>False
  | .odt t ks vs=>∃ p us,v = .ref p∧(OwnA e σ p∨H p=none)∧¬ A.X p∧DiS A.K (fun a=>A.X a∨a=p) H' p t ks us∧AtL A.K (fun a=>A.X a∨a=p) H' us vs
  | .bdt _ _ _=>False
def RSK (A:Act γ ι) (W:WX) (e:Env) (σ:L2.St) (H:Hp) (r:Rs γ Fl) (Dd:Ends):Prop:=match r with
  | .ok (.nx e') g'=>∀ σ' H',Rep A e' g' σ' H'→Stp A e σ H e' σ' H'→Dd.nx σ' H'
  | .ok (.bk e') g'=>∀ σ' H',Rep A e' g' σ' H'→Stp A e σ H e' σ' H'→Dd.bk σ' H'
  | .ok (.ct e') g'=>∀ σ' H',Rep A e' g' σ' H'→Stp A e σ H e' σ' H'→Dd.ct σ' H'
  | .ok (.rt r) g'=>∀ v H',(∀ b o,H b=some o→¬ Mu A e σ b→H' b=some o)→A.G.I g' H'→VRet A e σ H H' r v→Dd.rt v H'
  | .ex x g'=>∀ c od σ' H',(∀ b o,H b=some o→¬ Mu A e σ b→H' b=some o)→A.G.I g' H'→A.R x c od H'→W c od σ' H'
  | .no=>False
def RS (B:Bs γ ι) (W:WX) (m:MS γ):TS:=fun Dd σ H=>∃ (S:Addr→Prop) (e:Env) (g:γ),Rep ⟨B,S⟩ e g σ H∧RSK ⟨B,S⟩ W e σ H (m e g) Dd
section
variable {A:Act γ ι} {e0 e' e2:Env} {g g1 g2:γ} {σ σ' σ2:L2.St} {H H' H2 H1 H0:Hp} {v:V} {d:D} {i:Nat}
theorem VRet.pre (R':Rep A e' g σ' H') (s:Stp A e0 σ H e' σ' H') {r:Rv} (h:VRet A e' σ' H' H2 r v):VRet A e0 σ H H2 r v:=by
  unfold VRet at h ⊢
  cases k:r.ret with
  | dat d=>
    rw [k] at h
    exact h
  | own ds=>
    rw [k] at h
    obtain ⟨p,xs,e1,h0,nx,kk,a⟩:=h
    refine ⟨p,xs,e1,?_,nx,kk,a⟩
    rcases h0 with z | z
    · exact s.mu p z
    · cases q:H p with
      | none=>exact .inr rfl
      | some o=>
        by_cases f:Mu A e0 σ p
        · rcases f with f | f
          · exact absurd z (A.G.trk _ _ _ R'.gh f)
          · exact .inl f
        · have:=s.keep p o q f
          rw [z] at this
          cases this
  | bor ds=>
    rw [k] at h
    exact h.elim
  | bdt t ks vs=>
    rw [k] at h
    exact h.elim
  | odt t ks vs=>
    rw [k] at h
    obtain ⟨p,xs,e1,h0,nx,kk,a⟩:=h
    refine ⟨p,xs,e1,?_,nx,kk,a⟩
    rcases h0 with z | z
    · exact s.mu p z
    · cases q:H p with
      | none=>exact .inr rfl
      | some o=>
        by_cases f:Mu A e0 σ p
        · rcases f with f | f
          · exact absurd z (A.G.trk _ _ _ R'.gh f)
          · exact .inl f
        · have:=s.keep p o q f
          rw [z] at this
          cases this
theorem Stp.kp (R':Rep A e' g σ' H') (s:Stp A e0 σ H e' σ' H') (h:∀ b o,H' b=some o→¬ Mu A e' σ' b→H2 b=some o):∀ b o,H b=some o→¬ Mu A e0 σ b→H2 b=some o:=fun b o q n=>
  h b o (s.keep b o q n) fun z=>z.elim (fun z=>n (.inl z)) fun z=>(s.mu b z).elim (fun z=>n (.inr z)) fun z=>by
    rw [z] at q
    cases q
/-- the rest,from a later place -/
theorem RSK.late {Dd:Ends} {r:Rs γ Fl} (R':Rep A e' g σ' H') (s:Stp A e0 σ H e' σ' H') (h:RSK A W e0 σ H r Dd):RSK A W e' σ' H' r Dd:=by
  cases r with
  | no=>exact h
  | ex x g'=>exact fun c od σ2 H2 k=>h c od σ2 H2 (s.kp R' k)
  | ok f g'=>
    cases f with
    | nx e2=>exact fun σ2 H2 R2 s2=>h σ2 H2 R2 (s.trans R' s2)
    | bk e2=>exact fun σ2 H2 R2 s2=>h σ2 H2 R2 (s.trans R' s2)
    | ct e2=>exact fun σ2 H2 R2 s2=>h σ2 H2 R2 (s.trans R' s2)
    | rt r=>exact fun v H2 k i o=>h v H2 (s.kp R' k) i (o.pre R' s)
/-- a statement that begins with an expression -/
theorem RSK.bind {α β:Type} {P:Act γ ι→Env→L2.St→Hp→Hp→α→β→Prop} {m:Rs γ α} {f:α→γ→Rs γ Fl} {Dd:Ends} {k:β→Hp→Prop} (R:Rep A e0 g σ H) (h:RSK A W e0 σ H (m.bind f) Dd)
    (hk:∀ a g1 b H2,ExE A H H2→A.G.I g1 H2→P A e0 σ H H2 a b→RSK A W e0 σ H (f a g1) Dd→k b H2):RK P A W e0 σ H m k:=by
  cases m with
  | no=>exact h
  | ex y g=>exact fun c od H' x i r=>h c od σ H' (fun b o q n=>x b o q fun z=>n (.inl z)) i r
  | ok a g=>exact fun b H' x' i p=>hk a g b H' x' i p h
end
variable {Dd:Ends} {σ:L2.St} {H:Hp} {ma mb:ME γ} {ta:MT γ} {s1 s2:MS γ} {a:Expr}
theorem Zar:PSs X [] (RS B W Zao):=ZfA pss_nil fun Dd σ H ⟨S,e,g,R,h⟩=>h σ H R .refl
theorem Zak {st:Stmt} (h:PS X st (RS B W s1)):PSs X [st] (RS B W s1):=pss_one h
theorem ZiJ (h:RS B W (Zae s1 s2) Dd σ H):tSeq (RS B W s1) (RS B W s2) Dd σ H:=by
  obtain ⟨S,e,g,R,h⟩:=h
  refine ⟨S,e,g,R,?_⟩
  unfold Zae at h
  cases k:s1 e g with
  | no=>
    rw [k] at h
    exact h
  | ex x g'=>
    rw [k] at h
    exact h
  | ok f g'=>
    rw [k] at h
    cases f with
    | nx e1=>exact fun σ' H' R' s'=>⟨S,e1,g',R',RSK.late R' s' h⟩
    | rt r=>exact h
    | bk e1=>exact h
    | ct e1=>exact h
theorem Zag {st:Stmt} {rest:List Stmt} (h1:PS X st (RS B W s1)) (h2:PSs X rest (RS B W s2)):PSs X (st :: rest) (RS B W (Zae s1 s2)):=ZfA (pss_cons h1 h2) fun _ _ _=>ZiJ
/-- ahead of a block a name's list becomes data -/
theorem ZhU {A:Act γ ι} {e:Env} {g:γ} {σ:L2.St} {H:Hp} (R:Rep A e g σ H) {i:Nat} {ds:List D} (hi:gt e i = .own ds):Rep A (st e i (.dat (.lst ds))) g σ H∧Stp A e σ H (st e i (.dat (.lst ds))) σ H:=by
  have q:=R.sl i
  rw [hi] at q
  obtain ⟨p,xs,e1,k,al⟩:=q
  have own:∀ b,OwnA (st e i (.dat (.lst ds))) σ b→OwnA e σ b∧b≠p:=fun b ⟨j,h1,h2⟩=>by
    rw [ZaO] at h1
    by_cases c:j=i∧i < e.length
    · rw [if_pos c] at h1
      cases h1
    · rw [if_neg c] at h1
      refine ⟨⟨j,h1,h2⟩,fun z => ?_⟩
      subst z
      have hji:=R.inj j i b h1 (by rw [hi]; rfl) h2 e1
      subst hji
      apply c
      refine ⟨rfl,?_⟩
      by_cases hlt:j < e.length
      · exact hlt
      · rw [ZfK (by omega)] at hi
        cases hi
  have less:∀ a,Om A (st e i (.dat (.lst ds))) σ a→Om A e σ a:=fun a z=>z.elim .inl fun z=>.inr (own a z).1
  refine ⟨⟨by rw [Zb2,R.len],fun j => ?_,fun j k2 q h1 h2 h3 h4 => ?_,fun a z=>R.nx a (own a z).1,R.gh,R.fx,R.xs⟩,⟨fun _ _ h _=>h,fun b z=>.inl (own b z).1⟩⟩
  · rw [ZaO]
    by_cases c:j=i∧i < e.length
    · rw [if_pos c,c.1,e1]
      exact ⟨_,rfl,.lst (.inl k) (fun z=>z.elim (fun z=>R.nx p (.of hi rfl e1) z) fun z=>(own p z).2 rfl) (al.less less)⟩
    · rw [if_neg c]
      have q:=R.sl j
      cases h:gt e j with
      | un=>trivial
      | dat d2=>
        rw [h] at q
        obtain ⟨w,e1,a1⟩:=q
        exact ⟨w,e1,a1.less less⟩
      | own es=>
        rw [h] at q
        obtain ⟨q2,ys,e1,k1,a1⟩:=q
        exact ⟨q2,ys,e1,k1,a1.less less⟩
      | xc y=>
        rw [h] at q
        exact q
      | gh y=>
        rw [h] at q
        exact q
      | owd t ks vs=>
        rw [h] at q
        obtain ⟨q2,us,e1,k1,a1⟩:=q
        exact ⟨q2,us,e1,k1.less less,a1.less less⟩
  · rw [ZaO] at h1 h2
    by_cases c:j=i∧i < e.length
    · rw [if_pos c] at h1
      cases h1
    · by_cases c2:k2=i∧i < e.length
      · rw [if_pos c2] at h2
        cases h2
      · rw [if_neg c] at h1
        rw [if_neg c2] at h2
        exact R.inj j k2 q h1 h2 h3 h4
theorem ZhV {A:Act γ ι} {e:Env} {g:γ} {σ:L2.St} {H:Hp} (R:Rep A e g σ H) {i:Nat} {tt:Bool} {ks vs:List D} (hi:gt e i = .owd tt ks vs):Rep A (st e i (.dat (.dct tt ks vs))) g σ H∧Stp A e σ H (st e i (.dat (.dct tt ks vs))) σ H:=by
  have q:=R.sl i
  rw [hi] at q
  obtain ⟨p,us,e1,k,al⟩:=q
  have own:∀ b,OwnA (st e i (.dat (.dct tt ks vs))) σ b→OwnA e σ b∧b≠p:=fun b ⟨j,h1,h2⟩=>by
    rw [ZaO] at h1
    by_cases c:j=i∧i < e.length
    · rw [if_pos c] at h1
      cases h1
    · rw [if_neg c] at h1
      refine ⟨⟨j,h1,h2⟩,fun z => ?_⟩
      subst z
      have hji:=R.inj j i b h1 (by rw [hi]; rfl) h2 e1
      subst hji
      apply c
      refine ⟨rfl,?_⟩
      by_cases hlt:j < e.length
      · exact hlt
      · rw [ZfK (by omega)] at hi
        cases hi
  have less:∀ a,Om A (st e i (.dat (.dct tt ks vs))) σ a→Om A e σ a:=fun a z=>z.elim .inl fun z=>.inr (own a z).1
  refine ⟨⟨by rw [Zb2,R.len],fun j => ?_,fun j k2 q h1 h2 h3 h4 => ?_,fun a z=>R.nx a (own a z).1,R.gh,R.fx,R.xs⟩,⟨fun _ _ h _=>h,fun b z=>.inl (own b z).1⟩⟩
  · rw [ZaO]
    by_cases c:j=i∧i < e.length
    · rw [if_pos c,c.1,e1]
      exact ⟨_,rfl,.dct (DiR.of (k.less less)) (fun z=>z.elim (fun z=>R.nx p (.of hi rfl e1) z) fun z=>(own p z).2 rfl) (al.less less)⟩
    · rw [if_neg c]
      have q:=R.sl j
      cases h:gt e j with
      | un=>trivial
      | dat d2=>
        rw [h] at q
        obtain ⟨w,e1,a1⟩:=q
        exact ⟨w,e1,a1.less less⟩
      | own es=>
        rw [h] at q
        obtain ⟨q2,ys,e1,k1,a1⟩:=q
        exact ⟨q2,ys,e1,k1,a1.less less⟩
      | xc y=>
        rw [h] at q
        exact q
      | gh y=>
        rw [h] at q
        exact q
      | owd t ks1 vs1=>
        rw [h] at q
        obtain ⟨q2,us,e1,k1,a1⟩:=q
        exact ⟨q2,us,e1,k1.less less,a1.less less⟩
  · rw [ZaO] at h1 h2
    by_cases c:j=i∧i < e.length
    · rw [if_pos c] at h1
      cases h1
    · by_cases c2:k2=i∧i < e.length
      · rw [if_pos c2] at h2
        cases h2
      · rw [if_neg c] at h1
        rw [if_neg c2] at h2
        exact R.inj j k2 q h1 h2 h3 h4
theorem Zc1 (i:Nat) {sts:List Stmt} (h:PSs X sts (RS B W s2)):PSs X sts (RS B W (Zae (ZbE i) s2)):=ZfA h fun Dd σ H ⟨S,e,g,R,h⟩=>by
  unfold Zae ZbE at h
  cases k:gt e i with
  | un=>
    rw [k] at h
    exact ⟨S,e,g,R,h⟩
  | dat d=>
    rw [k] at h
    exact ⟨S,e,g,R,h⟩
  | xc y=>
    rw [k] at h
    exact ⟨S,e,g,R,h⟩
  | gh y=>
    rw [k] at h
    exact ⟨S,e,g,R,h⟩
  | own ds=>
    rw [k] at h
    obtain ⟨R2,s2⟩:=ZhU R k
    exact ⟨S,_,g,R2,RSK.late R2 s2 h⟩
  | owd t ks vs=>
    rw [k] at h
    obtain ⟨R2,s2⟩:=ZhV R k
    exact ⟨S,_,g,R2,RSK.late R2 s2 h⟩
theorem ZhW {A:Act γ ι} {e:Env} {g:γ} {σ:L2.St} {H H':Hp} (R:Rep A e g σ H) {r:Rv} {v:V} (o:VOk A e σ H H' r v):VRet A e σ H H' r v:=by
  cases r with
  | dat d=>exact At.less (fun a z=>.inl z) o
  | own ds=>
    obtain ⟨p,xs,e1,h0,k,a⟩:=o
    exact ⟨p,xs,e1,.inr h0,fun z=>R.xt p z h0,k,a.less fun a z=>z.elim (fun z=>.inl (.inl z)) .inr⟩
  | bor ds=>
    obtain ⟨p,xs,e1,h0,k,a⟩:=o
    exact ⟨p,xs,e1,.inl h0,R.nx p h0,k,a.less fun a z=>z.elim .inl fun z=>by
      rw [z]
      exact .inr h0⟩
  | odt t ks vs=>
    obtain ⟨p,xs,e1,h0,k,a⟩:=o
    have l:∀ a,(A.X a∨a=p)→(Om A e σ a∨a=p):=fun a z=>z.elim (fun z=>.inl (.inl z)) .inr
    exact ⟨p,xs,e1,.inr h0,fun z=>R.xt p z h0,k.less l,a.less l⟩
  | bdt t ks vs=>
    obtain ⟨p,xs,e1,h0,k,a⟩:=o
    have l:∀ a,(A.X a∨a=p)→Om A e σ a:=fun a z=>z.elim .inl fun z=>by
      rw [z]
      exact .inr h0
    exact ⟨p,xs,e1,.inl h0,R.nx p h0,k.less l,a.less l⟩
theorem ZaK (ha:PE X a (RE B W ma)):PS X (.Return (some a) pos) (RS B W (ZaB ma)):=Zc0 (ps_ret ha) fun Dd σ H ⟨S,e,g,R,h⟩=>
  ⟨S,e,g,R,RSK.bind R h fun x g1 v H1 x1 i1 o1 h1=>h1 v H1 (fun b o q n=>x1 b o q fun z=>n (.inl z)) i1 (ZhW R o1)⟩
theorem ZeM {A:Act γ ι} {e:Env} {g g1:γ} {σ:L2.St} {H H1:Hp} {r:Rs γ Fl} (R:Rep A e g σ H) (x1:ExE A H H1) (i1:A.G.I g1 H1) (h:RSK A W e σ H r Dd):RSK A W e σ H1 r Dd:=RSK.late (R.exe x1 i1) (.exe R x1) h
theorem ZaA {c:Expr} {p q:List Stmt} (hc:PT X c (RT B W ta)) (hp:PSs X p (RS B W s1)) (hq:PSs X q (RS B W s2)):PS X (.If c p q pos) (RS B W (Zau ta s1 s2)):=Zc0 (ps_if hc hp hq) fun Dd σ H ⟨S,e,g,R,h⟩=>by
  refine ⟨S,e,g,R,RSK.bind R h fun x g1 v H1 x1 i1 o1 h1 => ?_⟩
  cases o1
  cases x with
  | true=>
    rw [if_pos rfl]
    exact ⟨S,e,g1,R.exe x1 i1,ZeM R x1 i1 h1⟩
  | false=>
    rw [if_neg Bool.false_ne_true]
    exact ⟨S,e,g1,R.exe x1 i1,ZeM R x1 i1 h1⟩
theorem Zaw {i:Nat} {x:Str} {pos':Pos} (hN:X.N.Nodup) (hi:X.N[i]?=some x) (hx:Loc X.env.scope x) (ha:PE X a (RE B W ma)) (hs:swapsWith a (some (.Name x pos')) pos.line X.env=pure false:=by rfl) (hf:X.fn x=true∨X.env.scope.names.lookup x=some .local:=by first | exact .inl rfl | exact .inr rfl | assumption) :
    PS X (.Assign [.Name x pos'] a pos) (RS B W (Zam i ma)):=Zc0 (ps_set hN hi hx ha hs hf) fun Dd σ H ⟨S,e,g,R,h⟩=>by
  refine ⟨S,e,g,R,RSK.bind R h fun r g1 v H1 x1 i1 o1 h1 => ?_⟩
  have R1:=R.exe x1 i1
  cases r with
  | dat d=>
    have o1':At B.K (Om ⟨B,S⟩ e σ) H1 v d:=o1
    exact h1 _ _ (R1.set o1' i) (.trans R1 (.exe R x1) (.set R1 i))
  | own ds=>
    obtain ⟨R2,ow⟩:=Rep.setO R x1 R1 o1 i
    exact h1 _ _ R2 ⟨fun b o q n=>x1 b o q fun z=>n (.inl z),ow⟩
  | bor ds=>exact h1.elim
  | odt t ks vs=>
    obtain ⟨p,us,rfl,h0,k,a⟩:=o1
    obtain ⟨R2,ow⟩:=R.setN (s':=.owd t ks vs) x1 R1 h0 rfl (fun O hO=>⟨p,us,rfl,k.less hO,a.less hO⟩) i
    exact h1 _ _ R2 ⟨fun b o q n=>x1 b o q fun z=>n (.inl z),ow⟩
  | bdt t ks vs=>exact h1.elim
end
end PB
namespace PB
open PySem PySem.Spec PyProof.Rows L2
variable [Kts]
section
variable {γ ι:Type} {B:Bs γ ι} {W:WX} {X:Cx} {pos pz:Pos}
theorem PI.or {tg iter:Expr} {w w':TI} (h:PI X tg iter w) (h':PI X tg iter w'):PI X tg iter (fun σ H R=>w σ H R∨w' σ H R):=⟨fun pins s σ H R I q=>q.elim (h.run pins s σ H R I) (h'.run pins s σ H R I)⟩
def ItOk (A:Act γ ι) (e:Env) (σ:L2.St) (H':Hp) (J:It) (ds:List D):Prop:=∀ H1:Hp,(∀ b o,H' b=some o→¬ Mu A e σ b→H1 b=some o) →
  (∀ i,ds.length≤i→J.stop i H1)∧∀ i d,ds[i]?=some d→J.go i H1∧∀ x H2,J.yld i H1 x H2→Nw H1 H2∧∀ O':Addr→Prop,(∀ a,O' a→Om A e σ a∨H' a=none)→(∀ a,O' a→H1 a≠none)→At A.K O' H2 x d
abbrev PIt:Act γ ι→Env→L2.St→Hp→Hp→List D→It→Prop:=fun A e σ _ H' ds J=>ItOk A e σ H' J ds
abbrev RI (B:Bs γ ι) (W:WX) (m:MI γ):TI:=RG PIt B W m
theorem ZdQ {A:Act γ ι} {e:Env} {g:γ} {σ:L2.St} {H0 H' H1:Hp} (R:Rep A e g σ H0) {O':Addr→Prop} (h1:∀ b o,H' b=some o→¬ Mu A e σ b→H1 b=some o) (h2:∀ a,O' a→Om A e σ a∨H' a=none) {v:V} {d:D} (h:At A.K (Om A e σ) H' v d):At A.K O' H1 v d:=
  h.go fun a o q n=>⟨h1 a o q fun z=>n (R.muom z),fun z=>(h2 a z).elim n fun z=>by
    rw [z] at q
    cases q⟩
theorem Zf8 {A:Act γ ι} {e:Env} {g:γ} {σ:L2.St} {H0 H':Hp} (R:Rep A e g σ H0) {p:Addr} {xs:List V} {ds:List D} (hp:Rd H' p (.lst xs)) (np:¬ Mu A e σ p) (al:AtL A.K (Om A e σ) H' xs ds):ItOk A e σ H' (Itl A.K p) ds:=fun H1 h1=>by
  have hp1:SqL A.K H1 p xs:=.inl (hp.elim (fun z=>.inl (h1 p _ z np)) fun ⟨o,z⟩=>.inr ⟨o,h1 p _ z np⟩)
  refine ⟨fun i hi=>⟨xs,hp1,by rw [al.length]; exact hi⟩,fun i d hd => ?_⟩
  obtain ⟨v,hv,av⟩:=al.get hd
  refine ⟨⟨xs,v,hp1,hv⟩,fun x H2 hy => ?_⟩
  obtain ⟨e1,hx⟩:=hy
  subst e1
  have:x=v:=Option.some.inj ((hx xs hp1).symm.trans hv)
  subst this
  exact ⟨.inl rfl,fun O' h2 h3=>ZdQ R h1 h2 av⟩
theorem ZiK {A:Act γ ι} {e:Env} {g:γ} {σ:L2.St} {H0 H':Hp} (R:Rep A e g σ H0) {p:Addr} {xs:List V} {ds:List D} (hp:(H' p=some (.tup xs)∧¬ Om A e σ p)∨KT A.K p xs) (al:AtL A.K (Om A e σ) H' xs ds):ItOk A e σ H' (Itt A.K p) ds:=fun H1 h1=>by
  have hp1:SqT A.K H1 p xs:=by
    rcases hp with ⟨a,b⟩ | k
    · exact SqT.of (h1 p _ a fun z=>b (R.muom z))
    · exact .inr k.2
  refine ⟨fun i hi=>⟨xs,hp1,by rw [al.length]; exact hi⟩,fun i d hd => ?_⟩
  obtain ⟨v,hv,av⟩:=al.get hd
  refine ⟨⟨xs,v,hp1,hv⟩,fun x H2 hy => ?_⟩
  obtain ⟨e1,hx⟩:=hy
  subst e1
  have:x=v:=Option.some.inj ((hx xs hp1).symm.trans hv)
  subst this
  exact ⟨.inl rfl,fun O' h2 h3=>ZdQ R h1 h2 av⟩
variable {a b c e:Expr} {es:List Expr} {ma mb mc:ME γ} {mr:MA γ} {tg:Expr}
theorem Zhb (hK:B.K=X.K) (h:PE X a (RE B W ma)):PI X tg a (RI B W (ZcZ ma)):=by
  refine Zgr (PI.or (pi_list h) (pi_tup h)) fun σ H Q ⟨S,e,g,R,h⟩ => ?_
  cases q:ma e g with
  | no=>
    unfold ZcZ at h
    rw [q] at h
    exact h.elim
  | ex y g1=>
    unfold ZcZ at h
    rw [q] at h
    refine .inl ⟨S,e,g,R,?_⟩
    show RK _ _ _ _ _ _ (ma e g) _
    rw [q]
    exact h
  | ok r g1=>
    unfold ZcZ at h
    rw [q] at h
    obtain ⟨ds,k,h1⟩:=RK.ofO (P:=PIt) (A:=⟨B,S⟩) (o:=seqOf r) (g:=g1) h
    unfold seqOf at k
    split at k
    · cases k
      refine .inr ⟨S,e,g,R,?_⟩
      show RK _ _ _ _ _ _ (ma e g) _
      rw [q]
      intro v H1 x1 i1 o1
      cases o1 with
      | @tup p xs _ k al=>
      exact ⟨p,rfl,⟨xs,by rw [← hK]; exact ZaU k⟩,by rw [← hK]; exact h1 _ H1 x1 i1 (ZiK R k al)⟩
    · cases k
      refine .inl ⟨S,e,g,R,?_⟩
      show RK _ _ _ _ _ _ (ma e g) _
      rw [q]
      intro v H1 x1 i1 o1
      cases o1 with
      | @lst p xs _ k k2 al=>
      exact ⟨p,rfl,⟨xs,.inl k⟩,by rw [← hK]; exact h1 _ H1 x1 i1 (Zf8 R k (fun z=>k2 (R.muom z)) al)⟩
    · cases k
      refine .inl ⟨S,e,g,R,?_⟩
      show RK _ _ _ _ _ _ (ma e g) _
      rw [q]
      intro v H1 x1 i1 o1
      obtain ⟨p,xs,e1,h0,k,al⟩:=o1
      subst e1
      exact ⟨p,rfl,⟨xs,SqL.of k⟩,by rw [← hK]; exact h1 _ H1 x1 i1 (Zf8 R (.inl k) (fun z=>R.omt (R.muom z) h0) (al.less fun a z=>.inl z))⟩
    · cases k
theorem ZhX (lo:Int) (n:Nat):∀ i,(rng lo n)[i]?=if i < n then some (.int (lo + i)) else none:=by
  induction n generalizing lo with
  | zero=>intro i; simp [rng]
  | succ n ih=>
    intro i
    cases i with
    | zero=>simp [rng]
    | succ i=>
      simp only [rng,List.getElem?_cons_succ,ih]
      by_cases h:i < n
      · rw [if_pos h,if_pos (by omega)]
        congr 2
        omega
      · rw [if_neg h,if_neg (by omega)]
theorem ZhY (lo:Int) (n:Nat):(rng lo n).length=n:=by
  induction n generalizing lo with
  | zero=>rfl
  | succ n ih=>simp [rng,ih]
theorem ZiL {A:Act γ ι} {e:Env} {σ:L2.St} {H':Hp} (lo:Int) (n:Nat):ItOk A e σ H' (Itr lo n) (rng lo n):=fun H1 h1=>by
  refine ⟨fun i hi=>by rw [ZhY] at hi; exact hi,fun i d hd => ?_⟩
  rw [ZhX] at hd
  by_cases hi:i < n
  · rw [if_pos hi] at hd
    cases hd
    refine ⟨hi,fun x H2 hy => ?_⟩
    obtain ⟨e1,e2⟩:=hy
    subst e1 e2
    exact ⟨.inl rfl,fun _ _ _=>.int _⟩
  · rw [if_neg hi] at hd
    cases hd
theorem ZfL {n:Int} (h:RngOk n) : -(2 ^ 62)≤n∧n < 2 ^ 62:=by
  by_cases h0:n.natAbs=0
  · omega
  · have:=(Nat.log2_lt h0).mp h
    omega
theorem ZgO {p:Pos} (hg:Gl X "range") (hm:X.mg "range" = none) (ha:PE X a (RE B W ma)) (hs:starEach [a] X.env=[(false,eval a X.env)]:=by rfl):PI X tg (.Call (.Name "range" p) [a] [] pos) (RI B W (ZdB ma)):=by
  refine Zgr (pi_range1 hg hm (pa_cons ha pa_nil (by rw [hs] <;> rfl)) hs) fun σ H Q ⟨S,e,g,R,h⟩ => ?_
  refine ⟨S,e,g,R,RK.bind (.refl H) h fun x g1 vx H1 _ x1 i1 o1 h1 => ?_⟩
  split at h1
  · split at h1
    · rename_i c
      cases o1
      exact ⟨_,rfl,(ZfL c).1,(ZfL c).2,h1 _ H1 x1 i1 (ZiL _ _)⟩
    · exact h1.elim
  · exact h1.elim
theorem Zfi:∀ (xs ys:List D) (i:Nat),(zipD xs ys)[i]?=match xs[i]?,ys[i]? with
    | some x,some y=>some (.tup [x,y])
    | _,_=>none
  | [],ys,i=>by cases ys <;> simp [zipD]
  | x :: xs,[],i=>by
    simp only [zipD,List.getElem?_nil]
    split <;> first | rfl | (rename_i h; cases h)
  | x :: xs,y :: ys,0=>rfl
  | x :: xs,y :: ys,i + 1=>by
    simp only [zipD,List.getElem?_cons_succ]
    exact Zfi xs ys i
theorem Zfj:∀ (xs ys:List D),(zipD xs ys).length=min xs.length ys.length
  | [],ys=>by cases ys <;> simp [zipD]
  | x :: xs,[]=>by simp [zipD]
  | x :: xs,y :: ys=>by
    simp only [zipD,List.length_cons,Zfj xs ys]
    omega
theorem ZiM {A:Act γ ι} {e:Env} {g:γ} {σ:L2.St} {H0 H':Hp} (R:Rep A e g σ H0) {p q:Addr} {xs ys:List V} {ds es:List D} (hp:Rd H' p (.lst xs)) (np:¬ Mu A e σ p) (al:AtL A.K (Om A e σ) H' xs ds) (hq:Rd H' q (.lst ys)) (nq:¬ Mu A e σ q) (al2:AtL A.K (Om A e σ) H' ys es) :
    ItOk A e σ H' (Itz A.K p q) (zipD ds es):=fun H1 h1=>by
  have hp1:SqL A.K H1 p xs:=.inl (hp.elim (fun z=>.inl (h1 p _ z np)) fun ⟨o,z⟩=>.inr ⟨o,h1 p _ z np⟩)
  have hq1:SqL A.K H1 q ys:=.inl (hq.elim (fun z=>.inl (h1 q _ z nq)) fun ⟨o,z⟩=>.inr ⟨o,h1 q _ z nq⟩)
  refine ⟨fun i hi=>⟨xs,ys,hp1,hq1,by rw [Zfj] at hi; rw [al.length,al2.length]; omega⟩,fun i d hd => ?_⟩
  rw [Zfi] at hd
  split at hd
  · rename_i x y hx hy
    cases hd
    obtain ⟨v,hv,av⟩:=al.get hx
    obtain ⟨w,hw,aw⟩:=al2.get hy
    refine ⟨⟨xs,ys,v,w,hp1,hq1,hv,hw⟩,fun z H2 hz => ?_⟩
    obtain ⟨T,x',y',rfl,hT,rfl,f1,f2⟩:=hz
    have:x'=v:=Option.some.inj ((f1 xs (hp1)).symm.trans hv)
    subst this
    have:y'=w:=Option.some.inj ((f2 ys (hq1)).symm.trans hw)
    subst this
    refine ⟨.inr ⟨T,_,hT,rfl⟩,fun O' h2 h3 => ?_⟩
    have up:∀ {v:V} {d:D},At A.K O' H1 v d→At A.K O' (upd H1 T (.tup [x',y'])) v d:=fun h=>h.go fun a o q n=>⟨by rw [upd_ne (ne_of_none q hT)]; exact q,n⟩
    exact .tup (.inl ⟨upd_same,fun z=>h3 T z hT⟩) (.cons (up (ZdQ R h1 h2 av)) (.cons (up (ZdQ R h1 h2 aw)) .nil))
  · cases hd
theorem ZhZ {A:Act γ ι} {e:Env} {g:γ} {σ:L2.St} {H0 H':Hp} (R:Rep A e g σ H0) {p q:Addr} {xs ys:List V} {ds es:List D} (hp:(H' p=some (.tup xs)∧¬ Om A e σ p)∨KT A.K p xs) (al:AtL A.K (Om A e σ) H' xs ds) (hq:(H' q=some (.tup ys)∧¬ Om A e σ q)∨KT A.K q ys) (al2:AtL A.K (Om A e σ) H' ys es) :
    ItOk A e σ H' (RZ.ItzT A.K p q) (zipD ds es):=fun H1 h1=>by
  have hp1:SqT A.K H1 p xs:=by
    rcases hp with ⟨a,b⟩ | k
    · exact SqT.of (h1 p _ a fun z=>b (R.muom z))
    · exact .inr k.2
  have hq1:SqT A.K H1 q ys:=by
    rcases hq with ⟨a,b⟩ | k
    · exact SqT.of (h1 q _ a fun z=>b (R.muom z))
    · exact .inr k.2
  refine ⟨fun i hi=>⟨xs,ys,hp1,hq1,by rw [Zfj] at hi; rw [al.length,al2.length]; omega⟩,fun i d hd => ?_⟩
  rw [Zfi] at hd
  split at hd
  · rename_i x y hx hy
    cases hd
    obtain ⟨v,hv,av⟩:=al.get hx
    obtain ⟨w,hw,aw⟩:=al2.get hy
    refine ⟨⟨xs,ys,v,w,hp1,hq1,hv,hw⟩,fun z H2 hz => ?_⟩
    obtain ⟨T,x',y',rfl,hT,rfl,f1,f2⟩:=hz
    have:x'=v:=Option.some.inj ((f1 xs hp1).symm.trans hv)
    subst this
    have:y'=w:=Option.some.inj ((f2 ys hq1).symm.trans hw)
    subst this
    refine ⟨.inr ⟨T,_,hT,rfl⟩,fun O' h2 h3 => ?_⟩
    have up:∀ {v:V} {d:D},At A.K O' H1 v d→At A.K O' (upd H1 T (.tup [x',y'])) v d:=fun h=>h.go fun a o q n=>⟨by rw [upd_ne (ne_of_none q hT)]; exact q,n⟩
    exact .tup (.inl ⟨upd_same,fun z=>h3 T z hT⟩) (.cons (up (ZdQ R h1 h2 av)) (.cons (up (ZdQ R h1 h2 aw)) .nil))
  · cases hd
/-- where a new list or a datum's list stands,it is not changed by the run -/
theorem Zfk {A:Act γ ι} {e:Env} {g:γ} {σ:L2.St} {H0 H1 H:Hp} (R:Rep A e g σ H0) (x:ExE A H0 H1) {g1:γ} (i:A.G.I g1 H1) {r:Rv} {v:V} {ds:List D} (o:VOk A e σ H1 H r v) (hs:r = .dat (.lst ds)∨r = .own ds):∃ p xs,v = .ref p∧Rd H p (.lst xs)∧¬ Mu A e σ p∧AtL A.K (Om A e σ) H xs ds:=by
  rcases hs with rfl | rfl
  · cases o with
    | @lst p xs _ k k2 al=>exact ⟨p,xs,rfl,k,fun z=>k2 (R.muom z),al⟩
  · obtain ⟨p,xs,e1,h0,k,al⟩:=o
    exact ⟨p,xs,e1,.inl k,fun z=>R.omt (R.muom z) (x.back h0 i),al.less fun a z=>.inl z⟩
theorem ZiN {p tpos:Pos} {elts:List Expr} {kk:Nat} (hK:B.K=X.K) (hg:Gl X "zip") (hm:X.mg "zip" = none) (ha:PE X a (RE B W ma)) (hb:PE X b (RE B W mb)) (hs:starEach [a,b] X.env=(false,eval a X.env) :: starEach [b] X.env:=by rfl) (hs2:starEach [b] X.env=(false,eval b X.env) :: starEach [] X.env:=by rfl)
    (hpl:(backTo pos (starEach [b] X.env)).any (·.1)=false:=by rfl):PI X (.Tuple elts kk tpos) (.Call (.Name "zip" p) [a,b] [] pos) (RI B W (ZeS ma mb)):=by
  refine Zgr (RZ.pi_zipA hg hm (pa_cons ha (pa_cons hb pa_nil hs2) hs) hs hpl) fun σ H Q ⟨S,e,g,R,h⟩ => ?_
  refine ⟨S,e,g,R,RK.bind (.refl H) h fun x g1 vx H1 _ x1 i1 o1 h1 => ?_⟩
  refine ⟨S,e,g1,R.exe x1 i1,RK.bind x1 h1 fun y g2 vy H2 x12 x2 i2 o2 h2 => ?_⟩
  have o1':=o1.step R x12
  have o2':=o2.pre x1 i1
  rw [← hK]
  obtain ⟨zs,k,h2⟩:=h2.ofO
  unfold zip2 at k
  split at k
  · cases k
    cases o1' with
    | @tup p xs _ k al=>
    cases o2' with
    | @tup q ys _ k2 al2=>
    exact ⟨p,q,xs,ys,rfl,.inr ⟨ZaU k,ZaU k2,h2 _ H2 x2 i2 (ZhZ R k al k2 al2)⟩⟩
  all_goals first
    | (cases k; done)
    | (cases k
       obtain ⟨p,xs,e1,k,n,al⟩:=Zfk R (.refl H) R.gh o1' (by first | exact .inl rfl | exact .inr rfl)
       obtain ⟨q,ys,e2,k2,n2,al2⟩:=Zfk R (.refl H) R.gh o2' (by first | exact .inl rfl | exact .inr rfl)
       subst e1 e2
       exact ⟨p,q,xs,ys,rfl,.inl ⟨.inl k,.inl k2,h2 _ H2 x2 i2 (ZiM R k n al k2 n2 al2)⟩⟩)
def TgS (B:Bs γ ι) (g:TG) (tg:MG) (is:List Nat):Prop:=∀ (S:Addr→Prop) (e:Env) (gm:γ) (σ:L2.St) (H:Hp) (v:V) (d:D) (e':Env) (Q:L2.St→Hp→Prop),Rep ⟨B,S⟩ e gm σ H→At B.K (Om ⟨B,S⟩ e σ) H v d→tg d e=some e' →
  (∀ σ',Rep ⟨B,S⟩ e' gm σ' H→Stp ⟨B,S⟩ e σ H e' σ' H→σ'.length=σ.length→(∀ j,j ∉ is→gt e' j=gt e j∧σ'[j]?=σ[j]?)→Q σ' H)→g v σ H Q
theorem Zf9 (i:Nat):TgS B (gName i) (tgN i) [i]:=fun S e gm σ H v d e' Q R a h q=>by
  cases h
  refine q _ (R.set a i) (.set R i) List.length_set fun j hj => ?_
  have hj:j≠i:=by simpa using hj
  rw [ZaO,if_neg (fun z=>hj z.1),List.getElem?_set_ne (Ne.symm hj)]
  exact ⟨rfl,rfl⟩
/-- the targets of a tuple,one after another -/
inductive TgL (B:Bs γ ι):TGs→List Nat→Prop
  | nil:TgL B gNil []
  | cons {u:TGs} {i:Nat} {is:List Nat} (h:TgL B u is):TgL B (gCons (gName i) u) (i :: is)
theorem Zh0 {u:TGs} {is:List Nat} (h:TgL B u is):∀ (S:Addr→Prop) (e:Env) (gm:γ) (σ:L2.St) (H:Hp) (vs:List V) (ds:List D) (e':Env) (Q:L2.St→Hp→Prop),Rep ⟨B,S⟩ e gm σ H→AtL B.K (Om ⟨B,S⟩ e σ) H vs ds→tgL is ds e=some e' →
    (∀ σ',Rep ⟨B,S⟩ e' gm σ' H→Stp ⟨B,S⟩ e σ H e' σ' H→σ'.length=σ.length→(∀ j,j ∉ is→gt e' j=gt e j∧σ'[j]?=σ[j]?)→Q σ' H)→u vs σ H Q:=by
  induction h with
  | nil=>
    intro S e gm σ H vs ds e' Q R a h q
    cases ds with
    | nil=>
      cases a
      cases h
      exact ⟨rfl,q σ R .refl rfl fun _ _=>⟨rfl,rfl⟩⟩
    | cons d ds=>cases h
  | @cons u i is _ ih=>
    intro S e gm σ H vs ds e' Q R a h q
    cases ds with
    | nil=>cases h
    | cons d ds=>
      cases a with
      | @cons v _ vs _ a1 a2=>
      have R1:=R.set a1 i
      have s1:=Stp.set (v:=v) (d:=d) R i
      refine ⟨v,vs,rfl,ih S _ gm _ H vs ds e' Q R1 (a2.go (s1.go R)) h fun σ' R' s' l k=>q σ' R' (.trans R1 s1 s') (by rw [l,List.length_set]) fun j hj => ?_⟩
      have hj1:j≠i:=fun z=>hj (by rw [z]; exact List.mem_cons_self)
      obtain ⟨k1,k2⟩:=k j fun z=>hj (List.mem_cons_of_mem _ z)
      rw [k1,k2,ZaO,if_neg (fun z=>hj1 z.1),List.getElem?_set_ne (Ne.symm hj1)]
      exact ⟨rfl,rfl⟩
theorem Zga:∀ {is:List Nat} {ds:List D} {e e':Env},tgL is ds e=some e'→ds.length=is.length
  | [],[],_,_,_=>rfl
  | [],_ :: _,_,_,h=>by cases h
  | _ :: _,[],_,_,h=>by cases h
  | _ :: is,_ :: ds,_,_,h=>by
    rw [List.length_cons,List.length_cons,Zga (is:=is) (ds:=ds) h]
theorem ZgP {u:TGs} {is:List Nat} {n:Nat} {K:Frag} (hK:B.K=K) (hn:is.length=n) (h:TgL B u is):TgS B (gTup K n u) (tgT is) is:=fun S e gm σ H v d e' Q R a ht q=>by
  subst hn hK
  unfold tgT at ht
  split at ht
  · cases a with
    | @tup p xs _ k al=>
    exact ⟨p,xs,rfl,ZaU k,by rw [al.length]; exact Zga ht,Zh0 h S e gm σ H xs _ e' Q R al ht q⟩
  · cases ht
theorem Zgb {α:Type} {l:List α} {i:Nat} {d:α} (h:l[i]?=some d):l.drop i=d :: l.drop (i + 1):=by
  obtain ⟨hl,e⟩:=List.getElem?_eq_some_iff.mp h
  rw [List.drop_eq_getElem_cons hl,e]
theorem ZiO {iter:Expr} {body:List Stmt} {g:TG} {tgm:MG} {is:List Nat} {mi:MI γ} {sb:MS γ} (hp:PassesOwn (model X.prog X.w) X.A X.env X.xe) (hc:X.calm=true) (hi:PI X tg iter (RI B W mi)) (hg:PG X tg g) (ts:TgS B g tgm is) (hb:PSs X body (RS B W sb))
    (hs:∀ x,foldedSetIterable iter X.env x=pure x:=by intro _; rfl):PS X (.For tg iter body [] pos) (RS B W (ZeH mi tgm sb)):=by
  refine Zc0 (ps_for hp hc hi hg hb hs) fun Dd σ H ⟨S,e,gm,R,h⟩ => ?_
  refine ⟨S,e,gm,R,RSK.bind R h fun ds g1 J H1 x1 i1 it h1 => ?_⟩
  have R1:=R.exe x1 i1
  have h1':=ZeM R x1 i1 h1
  refine ⟨fun i m σ1 H2=>∃ e1 g2,Rep ⟨B,S⟩ e1 g2 σ1 H2∧Stp ⟨B,S⟩ e σ H1 e1 σ1 H2∧m=ds.length - i∧i≤ds.length∧RSK ⟨B,S⟩ W e1 σ1 H2 (forL tgm sb (ds.drop i) e1 g2) Dd,⟨ds.length,e,g1,R1,.refl,by simp,Nat.zero_le _,h1'⟩,?_⟩
  rintro i m σ1 H2 ⟨e1,g2,R2,st2,rfl,hi,h2⟩
  obtain ⟨stop,go⟩:=it H2 st2.keep
  by_cases hlt:i < ds.length
  · obtain ⟨d,hd⟩:∃ d,ds[i]?=some d:=⟨ds[i],by simp [hlt]⟩
    obtain ⟨g1',gy⟩:=go i d hd
    rw [Zgb hd] at h2
    unfold forL at h2
    refine .inr ⟨g1',fun σ' H'=>∃ e3 g3,Rep ⟨B,S⟩ e3 g3 σ' H'∧Stp ⟨B,S⟩ e σ H1 e3 σ' H'∧RSK ⟨B,S⟩ W e3 σ' H' (forL tgm sb (ds.drop (i + 1)) e3 g3) Dd,fun σ' H' ⟨e3,g3,R3,s3,h3⟩=>⟨ds.length - (i + 1),by omega,e3,g3,R3,s3,rfl,hlt,h3⟩,fun x Hy hy => ?_⟩
    obtain ⟨nw,at1⟩:=gy x Hy hy
    have a1:=at1 (Om ⟨B,S⟩ e1 σ1) (fun a z=>z.elim (fun z=>.inl (.inl z)) fun z=>(st2.mu a z).elim (fun z=>.inl (.inr z)) .inr) (fun a z=>R2.omt z)
    have Ry:=R2.exe nw.exe (nw.gh R2.gh)
    have sy:Stp ⟨B,S⟩ e1 σ1 H2 e1 σ1 Hy:=.exe R2 nw.exe
    cases kt:tgm d e1 with
    | none=>
      rw [kt] at h2
      exact h2.elim
    | some e2=>
      rw [kt] at h2
      refine ts S e1 g2 σ1 Hy x d e2 _ Ry a1 kt fun σ2 R3 s3 _ _ => ?_
      have s13:Stp ⟨B,S⟩ e1 σ1 H2 e2 σ2 Hy:=.trans Ry sy s3
      have h3:=RSK.late R3 s13 h2
      have stq:=Stp.trans R2 st2 s13
      refine ⟨S,e2,g2,R3,?_⟩
      simp only at h3
      cases kb:sb e2 g2 with
      | no=>
        rw [kb] at h3
        exact h3
      | ex y g3=>
        rw [kb] at h3
        exact h3
      | ok f g3=>
        rw [kb] at h3
        cases f with
        | nx e3=>exact fun σ' H' R' s'=>⟨e3,g3,R',.trans R3 stq s',RSK.late R' s' h3⟩
        | ct e3=>exact fun σ' H' R' s'=>⟨e3,g3,R',.trans R3 stq s',RSK.late R' s' h3⟩
        | bk e3=>exact h3
        | rt r=>exact h3
  · have e2:i=ds.length:=by omega
    subst e2
    rw [List.drop_length] at h2
    exact .inl ⟨stop _ (Nat.le_refl _),h2 σ1 H2 R2 .refl⟩
theorem Zhc {c:Expr} {body:List Stmt} {tc:MT γ} {sb:MS γ} (n:Nat) (hp:PassesOwn (model X.prog X.w) X.A X.env X.xe) (hc:PT X c (RT B W tc)) (hb:PSs X body (RS B W sb)):PS X (.While c body [] pos) (RS B W (Zbk tc sb n)):=by
  refine Zc0 (ps_while hp hc hb) fun Dd σ H ⟨S,e,g,R,h⟩ => ?_
  refine ⟨fun m σ1 H1=>∃ e1 g1,Rep ⟨B,S⟩ e1 g1 σ1 H1∧RSK ⟨B,S⟩ W e1 σ1 H1 (Zbk tc sb m e1 g1) Dd,⟨n,e,g,R,h⟩,?_⟩
  rintro m σ1 H1 ⟨e1,g1,R1,h1⟩
  cases m with
  | zero=>exact h1.elim
  | succ m=>
    unfold Zbk at h1
    refine ⟨S,e1,g1,R1,?_⟩
    cases kc:tc e1 g1 with
    | no=>
      rw [kc] at h1
      exact h1
    | ex y g2=>
      rw [kc] at h1
      exact fun c od H' x i r=>h1 c od σ1 H' (fun b o q n=>x b o q fun z=>n (.inl z)) i r
    | ok b g2=>
      rw [kc] at h1
      intro b' H2 x2 i2 eb
      cases eb
      have R2:=R1.exe x2 i2
      have s2:Stp ⟨B,S⟩ e1 σ1 H1 e1 σ1 H2:=.exe R1 x2
      cases b with
      | false=>
        rw [if_neg Bool.false_ne_true]
        exact h1 σ1 H2 R2 s2
      | true=>
        rw [if_pos rfl]
        refine ⟨fun σ' H'=>∃ e1 g1,Rep ⟨B,S⟩ e1 g1 σ' H'∧RSK ⟨B,S⟩ W e1 σ' H' (Zbk tc sb m e1 g1) Dd,fun σ' H' q=>⟨m,Nat.lt_succ_self m,q⟩,S,e1,g2,R2,?_⟩
        have h3:=RSK.late R2 s2 h1
        simp only at h3
        cases kb:sb e1 g2 with
        | no=>
          rw [kb] at h3
          exact h3
        | ex y g3=>
          rw [kb] at h3
          exact h3
        | ok f g3=>
          rw [kb] at h3
          cases f with
          | nx e3=>exact fun σ' H' R' s'=>⟨e3,g3,R',RSK.late R' s' h3⟩
          | ct e3=>exact fun σ' H' R' s'=>⟨e3,g3,R',RSK.late R' s' h3⟩
          | bk e3=>exact h3
          | rt r=>exact h3
end
end PB
namespace PB
open PySem PySem.Spec PyProof.Rows L2
variable [Kts]
section
variable {γ ι:Type} {B:Bs γ ι} {W:WX} {X:Cx} {pos:Pos} {a b c e:Expr} {es:List Expr} {ma mb mc:ME γ} {mr:MA γ} {tg:Expr}
theorem Ze2:∀ (is:List Nat) (e:Env) (j:Nat),gt (wp e is) j=if j∈is then .un else gt e j
  | [],e,j=>by simp [wp]
  | i :: is,e,j=>by
    unfold wp
    rw [Ze2 is,ZaO]
    by_cases h:j∈is
    · rw [if_pos h,if_pos (List.mem_cons_of_mem _ h)]
    · rw [if_neg h]
      by_cases h2:j=i
      · subst h2
        rw [if_pos (List.mem_cons_self)]
        by_cases h3:j < e.length
        · rw [if_pos ⟨rfl,h3⟩]
        · rw [if_neg (fun z=>h3 z.2),ZfK (by omega)]
      · rw [if_neg (fun z=>h2 z.1),if_neg (by simp [h2,h])]
theorem ZgQ:∀ (is:List Nat) (e:Env),(wp e is).length=e.length
  | [],e=>rfl
  | i :: is,e=>by
    unfold wp
    rw [ZgQ is,Zb2]
theorem Zcc:∀ (vs:List Nat) (σ:L2.St) (j:Nat),(wipe σ vs)[j]?=if j∈vs then (if j < σ.length then some none else none) else σ[j]?
  | [],σ,j=>by simp [wipe]
  | v :: vs,σ,j=>by
    unfold wipe
    rw [ZaP,wipe_length,Zcc vs σ j]
    by_cases h:j=v
    · subst h
      rw [if_pos List.mem_cons_self]
      by_cases h3:j < σ.length
      · rw [if_pos ⟨rfl,h3⟩,if_pos h3]
      · rw [if_neg (fun z=>h3 z.2),if_neg h3]
        split <;> first | rfl | exact List.getElem?_eq_none (by omega)
    · rw [if_neg (fun z=>h z.1)]
      by_cases h2:j∈vs
      · rw [if_pos h2,if_pos (List.mem_cons_of_mem _ h2)]
      · rw [if_neg h2,if_neg (by simp [h,h2])]
theorem Zfl {σ σ':L2.St} {vs is:List Nat} (hl:σ'.length=σ.length) (hs:∀ i∈is,i∈vs) (h:∀ j,j ∉ is→σ'[j]?=(wipe σ vs)[j]?):wipe σ' vs=wipe σ vs:=by
  apply List.ext_getElem?
  intro j
  rw [Zcc,Zcc,hl]
  by_cases hj:j∈vs
  · rw [if_pos hj,if_pos hj]
  · rw [if_neg hj,if_neg hj,h j (fun z=>hj (hs j z)),Zcc,if_neg hj]
/-- all but what lies beside is kept -/
theorem Rep.exX {A:Act γ ι} {e:Env} {g g':γ} {σ:L2.St} {H H':Hp} (R:Rep A e g σ H) (x:∀ b o,H b=some o→¬ A.X b→H' b=some o) (t:∀ a,A.X a→Stk (H' a)) (i:A.G.I g' H'):Rep A e g' σ H' where
  len:=R.len
  sl:=fun j=>by
    have q:=R.sl j
    cases h:gt e j with
    | un=>trivial
    | dat d=>
      rw [h] at q
      obtain ⟨v,e1,a⟩:=q
      exact ⟨v,e1,a.go fun a o q n=>⟨x a o q fun z=>n (.inl z),n⟩⟩
    | own ds=>
      rw [h] at q
      obtain ⟨p,xs,e1,k,a⟩:=q
      exact ⟨p,xs,e1,x p _ k (R.nx p (.of h rfl e1)),a.go fun a o q n=>⟨x a o q fun z=>n (.inl z),n⟩⟩
    | xc y=>
      rw [h] at q
      exact ⟨q.1,q.2.go fun p fs k=>x p _ k fun z=>R.nxd k (.inl z)⟩
    | gh y=>
      rw [h] at q
      exact q
    | owd tt ks vs=>
      rw [h] at q
      obtain ⟨p,us,e1,k,a⟩:=q
      exact ⟨p,us,e1,k.go (fun a o q n=>⟨x a o q fun z=>n (.inl z),n⟩) fun o e=>x p _ e (R.nx p (.of h rfl e1)),a.go fun a o q n=>⟨x a o q fun z=>n (.inl z),n⟩⟩
  inj:=R.inj
  nx:=R.nx
  gh:=i
  fx:=R.fx
  xs:=t
/-- within a comprehension: the new list lies beside -/
def Bl (A:Act γ ι) (e:Env) (σ:L2.St) (vs:List Nat) (Dp:Addr):Addr→Prop:=fun a=>(Om A e σ a∧¬ OwnA (wp e vs) (wipe σ vs) a)∨a=Dp
theorem ZfM {e:Env} {σ:L2.St} {vs:List Nat} {a:Addr} (h:OwnA (wp e vs) (wipe σ vs) a):OwnA e σ a:=by
  obtain ⟨j,h1,h2⟩:=h
  rw [Ze2] at h1
  rw [Zcc] at h2
  by_cases hj:j∈vs
  · rw [if_pos hj] at h1
    cases h1
  · rw [if_neg hj] at h1 h2
    exact ⟨j,h1,h2⟩
theorem Zgw {A:Act γ ι} {e:Env} {σ:L2.St} {vs:List Nat} {Dp a:Addr}:Om ⟨A.B,Bl A e σ vs Dp⟩ (wp e vs) (wipe σ vs) a ↔ (Om A e σ a∨a=Dp):=by
  constructor
  · rintro (z | z)
    · exact z.elim (fun z=>.inl z.1) .inr
    · exact .inl (.inr (ZfM z))
  · rintro (z | z)
    · by_cases q:OwnA (wp e vs) (wipe σ vs) a
      · exact .inr q
      · exact .inl (.inl ⟨z,q⟩)
    · exact .inl (.inr z)
theorem Rep.blk {A:Act γ ι} {e:Env} {g:γ} {σ:L2.St} {H:Hp} (R:Rep A e g σ H) (vs:List Nat) {Dp:Addr} (hD:H Dp=none) (xs:List V):Rep ⟨A.B,Bl A e σ vs Dp⟩ (wp e vs) g (wipe σ vs) (upd H Dp (.lst xs)) where
  len:=by rw [wipe_length,ZgQ,R.len]
  sl:=fun j=>by
    rw [Ze2,Zcc]
    by_cases hj:j∈vs
    · rw [if_pos hj]
      trivial
    · rw [if_neg hj,if_neg hj]
      have q:=R.sl j
      have go:∀ a o,H a=some o→¬ Om A e σ a→upd H Dp (.lst xs) a=some o∧¬ Om ⟨A.B,Bl A e σ vs Dp⟩ (wp e vs) (wipe σ vs) a:=fun a o q n=>⟨by rw [upd_ne (ne_of_none q hD)]; exact q,fun z=>(Zgw.mp z).elim n fun z=>by
        rw [z,hD] at q
        cases q⟩
      cases h:gt e j with
      | un=>trivial
      | dat d=>
        rw [h] at q
        obtain ⟨v,e1,a⟩:=q
        exact ⟨v,e1,a.go go⟩
      | own ds=>
        rw [h] at q
        obtain ⟨p,ys,e1,k,a⟩:=q
        exact ⟨p,ys,e1,by rw [upd_ne (ne_of_none k hD)]; exact k,a.go go⟩
      | xc y=>
        rw [h] at q
        exact ⟨q.1,q.2.go fun p fs k=>by rw [upd_ne (ne_of_none k hD)]; exact k⟩
      | gh y=>
        rw [h] at q
        exact q
      | owd tt ks us=>
        rw [h] at q
        obtain ⟨p,ys,e1,k,a⟩:=q
        exact ⟨p,ys,e1,k.go go fun o e=>by rw [upd_ne (ne_of_none e hD)]; exact e,a.go go⟩
  inj:=fun i j p h1 h2 h3 h4=>by
    rw [Ze2] at h1 h2
    rw [Zcc] at h3 h4
    by_cases hi:i∈vs
    · rw [if_pos hi] at h1
      cases h1
    · by_cases hj:j∈vs
      · rw [if_pos hj] at h2
        cases h2
      · rw [if_neg hi] at h1 h3
        rw [if_neg hj] at h2 h4
        exact R.inj i j p h1 h2 h3 h4
  nx:=fun a z q=>by
    rcases q with q | q
    · exact q.2 z
    · exact ((ZfM z).stk R).1.1 (by rw [q]; exact hD)
  gh:=Gho.new R.gh hD
  fx:=fun a z=>.inl ⟨.inl (R.fx a z),fun q=>R.nx a (ZfM q) (R.fx a z)⟩
  xs:=fun a z=>by
    rcases z with z | z
    · have:=R.oms z.1
      by_cases q:a=Dp
      · rw [q]
        exact .lst upd_same
      · rw [upd_ne q]
        exact this
    · rw [z]
      exact .lst upd_same
theorem Zfm {X:Cx}:PTs X [] (RT B W0 ZeG):=⟨fun pins s σ H Q I ⟨S,e,g,R,h⟩=>pts_nil.run pins s σ H Q I (h true H (.refl H) R.gh rfl)⟩
theorem Zjx {mi:MI γ} {g:TG} {tgm:MG} {is vs:List Nat} {mt:MT γ} {me:ME γ} (ts:TgS B g tgm is) (hsub:∀ i∈is,i∈vs) {σ:L2.St} {H:Hp} {Q:VK} (h:RE B W (mLc mi tgm mt me vs) σ H Q):tLc (RI B W mi) g (RT B W0 mt) (RE B W0 me) vs σ H Q:=by
  obtain ⟨S,e,gm,R,h⟩:=h
  refine ⟨S,e,gm,R,RK.bind (.refl H) h fun ds g1 J H1 _ x1 i1 it h1=>fun Dp hD => ?_⟩
  have R1:=R.exe x1 i1
  refine ⟨fun i m H2=>∃ gi acc av,Rep ⟨B,Bl ⟨B,S⟩ e σ vs Dp⟩ (wp e vs) gi (wipe σ vs) H2∧(∀ b o,H1 b=some o→¬ (B.fam B.i).F b→H2 b=some o)∧H2 Dp=some (.lst av)∧AtL B.K (fun a=>Om ⟨B,S⟩ e σ a∨a=Dp) H2 av acc∧m=ds.length - i∧i≤ds.length ∧
      RK VOk ⟨B,S⟩ W e σ H (lcL tgm mt me (wp e vs) (ds.drop i) acc gi) Q,⟨ds.length,g1,[],[],R1.blk vs hD [],fun b o q _=>by rw [upd_ne (ne_of_none q hD)]; exact q,upd_same,.nil,by simp,Nat.zero_le _,h1⟩,?_⟩
  rintro i m H2 ⟨gi,acc,av,Ri,kp,hD2,aacc,rfl,hi,hr⟩
  have nF:∀ a,(B.fam B.i).F a→H1 a≠none:=fun a z=>(B.fam B.i).trk _ _ _ i1 z
  have DF:¬ (B.fam B.i).F Dp:=fun z=>nF Dp z hD
  obtain ⟨stop,go⟩:=it H2 fun b o q n=>kp b o q fun z=>n (.inl z)
  by_cases hlt:i < ds.length
  · obtain ⟨d,hd⟩:∃ d,ds[i]?=some d:=⟨ds[i],by simp [hlt]⟩
    obtain ⟨gJ,gy⟩:=go i d hd
    rw [Zgb hd] at hr
    unfold lcL at hr
    refine .inr ⟨gJ,fun H'=>∃ m',m' < ds.length - i∧∃ gi acc av,Rep ⟨B,Bl ⟨B,S⟩ e σ vs Dp⟩ (wp e vs) gi (wipe σ vs) H'∧(∀ b o,H1 b=some o→¬ (B.fam B.i).F b→H' b=some o)∧H' Dp=some (.lst av)∧AtL B.K (fun a=>Om ⟨B,S⟩ e σ a∨a=Dp) H' av acc∧m'=ds.length - (i + 1)∧i + 1≤ds.length ∧
      RK VOk ⟨B,S⟩ W e σ H (lcL tgm mt me (wp e vs) (ds.drop (i + 1)) acc gi) Q,fun H' q=>q,fun x Hy hy => ?_⟩
    obtain ⟨nw,at1⟩:=gy x Hy hy
    have a1:=at1 (Om ⟨B,Bl ⟨B,S⟩ e σ vs Dp⟩ (wp e vs) (wipe σ vs)) (fun a z=>(Zgw.mp z).elim .inl fun z=>.inr (by rw [z]; exact hD)) (fun a z=>Ri.omt z)
    have Ry:=Ri.exe nw.exe (nw.gh Ri.gh)
    cases kt:tgm d (wp e vs) with
    | none=>
      rw [kt] at hr
      exact hr.elim
    | some e2=>
      rw [kt] at hr
      refine ts _ (wp e vs) gi (wipe σ vs) Hy x d e2 _ Ry a1 kt fun σ2 R2 s2 wl kj => ?_
      refine ⟨Zfl (by rw [wl,wipe_length]) hsub fun j hj=>(kj j hj).2,?_⟩
      -- what a name holds around the comprehension is held in the turn
      have own2:∀ a,OwnA (wp e vs) (wipe σ vs) a→OwnA e2 σ2 a:=fun a ⟨j,k1,k2⟩=>by
        have hj:j ∉ is:=fun z=>by
          rw [Ze2,if_pos (hsub j z)] at k1
          cases k1
        obtain ⟨q1,q2⟩:=kj j hj
        exact ⟨j,by rw [q1]; exact k1,by rw [q2]; exact k2⟩
      have om2:∀ a,(Om ⟨B,S⟩ e σ a∨a=Dp)→Om ⟨B,Bl ⟨B,S⟩ e σ vs Dp⟩ e2 σ2 a:=fun a z=>by
        rcases Zgw.mpr z with q | q
        · exact .inl q
        · exact .inr (own2 a q)
      have nxD:∀ b,(B.fam B.i).F b→Bl ⟨B,S⟩ e σ vs Dp b:=fun b z=>R2.fx b z
      refine ⟨_,e2,gi,R2,?_⟩
      have hr2:RK VOk ⟨B,S⟩ W e σ H (match mt e2 gi with
        | .ok true g1=>match me e2 g1 with
          | .ok r g2=>match r.sto with
            | some y=>if acc.length < SZ then lcL tgm mt me (wp e vs) (ds.drop (i + 1)) (acc ++ [y]) g2 else .no
            | none=>.no
          | _=>.no
        | .ok false g1=>lcL tgm mt me (wp e vs) (ds.drop (i + 1)) acc g1
        | _=>.no) Q:=hr
      cases km:mt e2 gi with
      | no=>
        rw [km] at hr2
        exact hr2.elim
      | ex y g3=>
        rw [km] at hr2
        exact hr2.elim
      | ok b g3=>
        rw [km] at hr2
        intro b' H3 x3 i3 eb
        cases eb
        have R3:=R2.exe x3 i3
        have kp3:∀ b o,H1 b=some o→¬ (B.fam B.i).F b→H3 b=some o:=fun b o q n=>x3 b o (nw.exe (A:=⟨B,S⟩) b o (kp b o q n) n) n
        have hDy:Hy Dp=some (.lst av):=nw.exe (A:=⟨B,S⟩) Dp _ hD2 DF
        have hD3:H3 Dp=some (.lst av):=x3 Dp _ hDy DF
        have goD:∀ {Ha Hb:Hp},(∀ b o,Ha b=some o→¬ (B.fam B.i).F b→Hb b=some o)→∀ a o,Ha a=some o→¬ (Om ⟨B,S⟩ e σ a∨a=Dp)→Hb a=some o∧¬ (Om ⟨B,S⟩ e σ a∨a=Dp):=fun {Ha Hb} k a o q n=>⟨k a o q fun z=>n (.inl (.inl (R.fx a z))),n⟩
        have acc3:AtL B.K (fun a=>Om ⟨B,S⟩ e σ a∨a=Dp) H3 av acc:=(aacc.go (goD (nw.exe (A:=⟨B,S⟩)))).go (goD x3)
        cases b with
        | false=>
          rw [if_neg Bool.false_ne_true]
          exact ⟨ds.length - (i + 1),by omega,g3,acc,av,(Ry.exe x3 i3),kp3,hD3,acc3,rfl,hlt,hr2⟩
        | true=>
          rw [if_pos rfl]
          refine ⟨_,e2,g3,R3,?_⟩
          have hr3:RK VOk ⟨B,S⟩ W e σ H (match me e2 g3 with
            | .ok r g2=>match r.sto with
              | some y=>if acc.length < SZ then lcL tgm mt me (wp e vs) (ds.drop (i + 1)) (acc ++ [y]) g2 else .no
              | none=>.no
            | _=>.no) Q:=hr2
          cases ke:me e2 g3 with
          | no=>
            rw [ke] at hr3
            exact hr3.elim
          | ex y g4=>
            rw [ke] at hr3
            exact hr3.elim
          | ok r g4=>
            rw [ke] at hr3
            intro yv H4 x4 i4 oy
            have hr4:RK VOk ⟨B,S⟩ W e σ H (match r.sto with
              | some y=>if acc.length < SZ then lcL tgm mt me (wp e vs) (ds.drop (i + 1)) (acc ++ [y]) g4 else .no
              | none=>.no) Q:=hr3
            cases ks:r.sto with
            | none=>
              rw [ks] at hr4
              exact hr4.elim
            | some y=>
              rw [ks] at hr4
              have hr5:RK VOk ⟨B,S⟩ W e σ H (if acc.length < SZ then lcL tgm mt me (wp e vs) (ds.drop (i + 1)) (acc ++ [y]) g4 else .no) Q:=hr4
              by_cases hz:acc.length < SZ
              · rw [if_pos hz] at hr5
                have ay:At B.K (fun a=>Om ⟨B,S⟩ e σ a∨a=Dp) H4 yv y:=(oy.sto R3 ks).less om2
                have hD4:H4 Dp=some (.lst av):=x4 Dp _ hD3 DF
                have acc4:AtL B.K (fun a=>Om ⟨B,S⟩ e σ a∨a=Dp) H4 av acc:=acc3.go (goD x4)
                refine ⟨av,hD4,by rw [acc4.length]; exact szlt hz,ds.length - (i + 1),by omega,g4,acc ++ [y],av ++ [yv],?_,fun b o q n => ?_,upd_same,?_,rfl,hlt,hr5⟩
                · have R4:=(Ry.exe x3 i3).exe x4 i4
                  refine R4.exX (fun b o q n => ?_) (fun a z => ?_) ((B.fam B.i).stab _ _ _ i4 (fun a z => ?_) (fun a u hu q=>by rw [upd_ne (fun z=>by rw [z,hD4] at q; cases q; exact hu)]; exact q))
                  · have:b≠Dp:=fun z=>n (.inr z)
                    rw [upd_ne this]
                    exact q
                  · by_cases q:a=Dp
                    · rw [q]
                      exact .lst upd_same
                    · rw [upd_ne q]
                      exact R4.xs a z
                  · have:a≠Dp:=fun q=>DF (by rw [← q]; exact z)
                    rw [upd_ne this]
                · have:b≠Dp:=ne_of_none q hD
                  rw [upd_ne this]
                  exact x4 b o (kp3 b o q n) n
                · have go:∀ a o,H4 a=some o→¬ (Om ⟨B,S⟩ e σ a∨a=Dp)→upd H4 Dp (.lst (av ++ [yv])) a=some o∧¬ (Om ⟨B,S⟩ e σ a∨a=Dp):=fun a o q n=>⟨by rw [upd_ne (fun z=>n (.inr z))]; exact q,n⟩
                  exact (acc4.go go).app (.cons (ay.go go) .nil)
              · rw [if_neg hz] at hr5
                exact hr5.elim
  · have e2:i=ds.length:=by omega
    subst e2
    rw [List.drop_length] at hr
    refine .inl ⟨stop _ (Nat.le_refl _),hr (.ref Dp) H2 (fun b o q n=>kp b o (x1 b o q n) n) Ri.gh ⟨Dp,av,rfl,x1.back hD i1,hD2,aacc⟩⟩
theorem Zgx {elt iter:Expr} {ifs:List Expr} {scope:Scope} {own:List (Str×Nat)} {mi:MI γ} {g:TG} {tgm:MG} {is:List Nat} {mt:MT γ} {me:ME γ} (hc:X.calm=true) (hN:X.N.Nodup) (hi:PI X tg iter (RI B W mi)) (ok:BlkOk X.N X.env.scope scope own)
    (hg:∀ (s:Shared) (H:Hp) (C:Addr) (cl:List (Str×Addr)) (fp:List Addr),PG (X.blk s H scope (compEnvC scope cl C X.env) fp) tg g) (ts:TgS B g tgm is) (hsub:∀ i∈is,i∈own.map (·.2)) (ht:∀ (s:Shared) (H:Hp) (C:Addr) (cl:List (Str×Addr)) (fp:List Addr),PTs (X.blk s H scope (compEnvC scope cl C X.env) fp) ifs (RT B W0 mt))
    (he:∀ (s:Shared) (H:Hp) (C:Addr) (cl:List (Str×Addr)) (fp:List Addr),PE (X.blk s H scope (compEnvC scope cl C X.env) fp) elt (RE B W0 me)) (hs:∀ x,foldedSetIterable iter X.env x=pure x:=by intro _; rfl) :
    PE X (.ListComp elt [⟨tg,iter,ifs,0⟩] scope pos) (RE B W (mLc mi tgm mt me (own.map (·.2)))):=ZaS (pe_lc hc hN hi ok hg ht he hs) fun _ _ _=>Zjx ts hsub
end
end PB
namespace PB
open PySem PySem.Spec PyProof.Rows L2
variable [Kts]
section
variable {γ ι:Type} {B:Bs γ ι} {W:WX} {X:Cx} {pos:Pos} {a b c e:Expr} {es:List Expr} {ma mb mc:ME γ} {mr:MA γ} {tg:Expr}
theorem ZgR:OpS1 B oIsN (fun x H Q=>Q (.bl (decide (x = .non))) H):=by
  intro S e g g1 σ H0 H x z vx Q R x0 i1 ox hz hq
  have key:∀ {v:V} {d:D},At B.K S H v d→(∀ n,d ≠ .ref n)→decide (v = .non)=isNon d:=by
    intro v d h hd
    cases h <;> first | rfl | (simp; done) | exact absurd rfl (hd _)
  have w:=ox.weak R
  unfold oIsN at hz
  split at hz
  · cases hz
  · cases hz
  · cases hz
  · rename_i hn h2 h3
    cases hz
    have e1:decide (vx = .non)=isNon x.val:=by
      cases x with
      | dat d=>exact key w fun n z=>hn n (by rw [show d = .ref n from z])
      | own ds=>exact key w fun n z=>by cases z
      | bor ds=>exact key w fun n z=>by cases z
      | odt t ks vs=>exact absurd rfl (h2 t ks vs)
      | bdt t ks vs=>exact absurd rfl (h3 t ks vs)
    rw [e1]
    exact hq _ H (.inl rfl) (.bl _)
theorem ZiP {j pos'} (ha:PE X a (RE B W ma)):PE X (.Compare a [.Is] [.Constant .none j pos'] pos) (RE B W (ZaY oIsN ma)):=ZaS (pe_cmp (pc_isN ha) rfl) fun _ _ _=>ZgG ZgR
theorem Zh1 {j pos'} (ha:PE X a (RE B W ma)):PT X (.Compare a [.Is] [.Constant .none j pos'] pos) (RT B W (Zan (ZaY oIsN ma))):=Zff (pt_cmp (pc_isN ha) rfl) fun _ _ _ h=>ZgG ZgR (Zfh h)
/-- isinstance of a built-in class -/
def Ty.nm:Ty→String
  | .int => "int" | .bool => "bool" | .str => "str" | .tuple => "tuple" | .list => "list"
theorem ZcY (K:Frag) (t n:String) (b:Bool) (h:(t = "NoneType" ∨ t = "int" ∨ t = "bool" ∨ t = "str" ∨ t = "tuple" ∨ t = "list")∧(n = "int" ∨ n = "bool" ∨ n = "str" ∨ n = "tuple" ∨ n = "list")) (hb:b=(t == n || (t == "bool" && n == "int"))):PySem.W.kitOne K (.type t) (.type n)=some b:=by
  subst hb
  obtain ⟨h1,h2⟩:=h
  rcases h1 with rfl | rfl | rfl | rfl | rfl | rfl <;> rcases h2 with rfl | rfl | rfl | rfl | rfl <;> exact kit_ty (by decide +kernel)
theorem Zjy {K:Frag} {O:Addr→Prop} {H:Hp} {v:V} {d:D} (h:At K O H v d) (hd:∀ n,d ≠ .ref n) (hd2:∀ t ks vs,d ≠ .dct t ks vs) (T:Ty):∃ t,TyX K H v t∧PySem.W.kitOne K t (.type T.nm)=some (isTy T d):=by
  cases h with
  | non=>exact ⟨_,.base .non,by cases T <;> exact ZcY K "NoneType" _ _ (by simp [Ty.nm]) (by simp [Ty.nm])⟩
  | bl b=>exact ⟨_,.base (.bl b),by cases T <;> exact ZcY K "bool" _ _ (by simp [Ty.nm]) (by simp [Ty.nm])⟩
  | int i=>exact ⟨_,.base (.int i),by cases T <;> exact ZcY K "int" _ _ (by simp [Ty.nm]) (by simp [Ty.nm])⟩
  | str l h1 h2=>exact ⟨_,.base (.str _),by cases T <;> exact ZcY K "str" _ _ (by simp [Ty.nm]) (by simp [Ty.nm])⟩
  | @tup a xs ds h1 h2=>
    refine ⟨.type "tuple",?_,by cases T <;> exact ZcY K "tuple" _ _ (by simp [Ty.nm]) (by simp [Ty.nm])⟩
    rcases h1 with ⟨k,_⟩ | ⟨_,o,its,n,k,hc,_⟩
    · exact .base (.tup k)
    · exact .kTuple k hc
  | @lst a xs ds h1 h2 h3=>exact ⟨_,h1.elim (fun z=>.base (.lst z)) fun ⟨_,z⟩=>.base (.frz z),by cases T <;> exact ZcY K "list" _ _ (by simp [Ty.nm]) (by simp [Ty.nm])⟩
  | ref a=>exact absurd rfl (hd a)
  | dct _ _ _=>exact absurd rfl (hd2 _ _ _)
/-- isinstance(x,T): the class is no datum -/
theorem Zc2 {p p2:Pos} {T:Str} (t:Ty) (hK:B.K=X.K) (hg:Gl X "isinstance") (hm:X.mg "isinstance" = none) (hgT:Gl X T) (hmT:X.mg T=none) (hvT:bootBuiltins T=some (.type t.nm)) (ha:PE X a (RE B W ma))
    (hnT:T ≠ "__name__" := by decide) (hdT:(T == ("__debug__" : Str))=false:=by decide)
    (hs:starEach [a,.Name T p2] X.env=(false,eval a X.env) :: starEach [.Name T p2] X.env:=by rfl) (hs2:starEach [.Name T p2] X.env=(false,eval (.Name T p2) X.env) :: starEach [] X.env:=by rfl) (hpl:(backTo pos (starEach [.Name T p2] X.env)).any (·.1)=false:=by rfl) :
    PE X (.Call (.Name "isinstance" p) [a,.Name T p2] [] pos) (RE B W (ZaY (oIs t) ma)):=by
  refine ZaS (pe_callB call_isi hg hm (by decide +kernel) (pa_cons ha (pa_cons (pe_bltn (v:=.ty t.nm) hgT hmT hvT rfl hnT hdT) pa_nil hs2) hs) (by decide) (by decide) hs hpl) fun σ H Q ⟨S,e,g,R,h⟩ => ?_
  refine ⟨S,e,g,R,RK.bind (.refl H) h fun x g1 vx H1 _ x1 i1 o1 h1 => ?_⟩
  obtain ⟨z,ez,q⟩:=h1.ofO
  have w:=o1.weak R
  unfold oIs at ez
  split at ez
  · cases ez
  · cases ez
  · cases ez
  · cases ez
  · rename_i hn hn2 hn3 hn4
    cases ez
    obtain ⟨ty,h2,h3⟩:=Zjy w (by
      cases x with
      | dat d=>exact fun n z=>hn n (by rw [show d = .ref n from z])
      | own ds=>exact fun n z=>by cases z
      | bor ds=>exact fun n z=>by cases z
      | odt t ks vs=>exact absurd rfl (hn3 t ks vs)
      | bdt t ks vs=>exact absurd rfl (hn4 t ks vs)) (by
      cases x with
      | dat d=>exact fun t ks vs z=>hn2 t ks vs (by rw [show d = .dct t ks vs from z])
      | own ds=>exact fun t ks vs z=>by cases z
      | bor ds=>exact fun t ks vs z=>by cases z
      | odt t ks vs=>exact absurd rfl (hn3 t ks vs)
      | bdt t ks vs=>exact absurd rfl (hn4 t ks vs)) t
    rw [← hK]
    exact ⟨vx,.ty t.nm,ty,.type t.nm,_,rfl,.ty _,h2,h3,q _ H1 x1 i1 (.bl _)⟩
theorem ZfN (s:List Nat):∀ l,PB.joinL s l=TL.joinL s l
  | []=>rfl
  | [x]=>rfl
  | x :: y :: r=>by
    show x ++ s ++ PB.joinL s (y :: r)=x ++ (s ++ TL.joinL s (y :: r))
    rw [ZfN s (y :: r),List.append_assoc]
theorem Zfs (s:List Nat):∀ l:List (List Nat),(PB.joinL s l).length≤(l.map List.length).sum + s.length * l.length
  | []=>Nat.zero_le _
  | [x]=>by simp [PB.joinL]
  | x :: y :: r=>by
    have:=Zfs s (y :: r)
    simp only [PB.joinL,List.length_append,List.map_cons,List.sum_cons,List.length_cons] at this ⊢
    rw [Nat.mul_add s.length (r.length + 1) 1]
    omega
theorem Zft {p:Nat→Bool} {s:List Nat} (hs:s.all p=true):∀ l:List (List Nat),(∀ x∈l,x.all p=true)→(PB.joinL s l).all p=true
  | [],_=>rfl
  | [x],h=>h x List.mem_cons_self
  | x :: y :: r,h=>by
    simp only [PB.joinL,List.all_append,Bool.and_eq_true]
    exact ⟨⟨h x List.mem_cons_self,hs⟩,Zft hs (y :: r) fun z hz=>h z (List.mem_cons_of_mem _ hz)⟩
theorem Zh2 {apos:Pos} (ha:PE X a (RE B W ma)) (hb:PE X b (RE B W mb)) (hK:B.K=X.K) (hs:starEach [b] X.env=[(false,eval b X.env)]:=by rfl) (hbase:attributeBase a "join" X.env (eval a X.env)=eval a X.env:=by rfl) (hline:(apos.endLine == pos.line)=true:=by rfl) :
    PE X (.Call (.Attribute a "join" apos) [b] [] pos) (RE B W (mS1 oJoin ma mb)):=by
  refine ZaS (pe_join ha hb hs hbase hline) fun σ H Q ⟨S,e,g,R,h⟩ => ?_
  refine ⟨S,e,g,R,RK.bind (.refl H) h fun x g1 vx H1 _ x1 i1 o1 h1 => ?_⟩
  split at h1
  · rename_i sep
    cases o1 with
    | str _ k1 k2=>
    refine ⟨⟨_,rfl⟩,S,e,g1,R.exe x1 i1,RK.bind x1 h1 fun y g2 vy H2 x12 x2 i2 o2 h2 => ?_⟩
    obtain ⟨z,ez,q⟩:=h2.ofO
    have o2':=o2.pre x1 i1
    unfold oJoin at ez
    split at ez
    · rename_i ds kd
      split at ez
      · rename_i ss ks
        split at ez
        · rename_i hl
          cases ez
          obtain ⟨p,xs,rfl,hp,ap⟩:=o2'.items R kd
          obtain ⟨e1,hs'⟩:=ap.dStrs ks
          subst e1
          have e2:ss.map (fun l=>V.str (mkS l))=(ss.map mkS).map V.str:=by simp
          rw [e2] at hp
          refine ⟨mkS sep,p,ss.map mkS,rfl,rfl,.inl ((.inl hp)),?_,?_⟩
          · rw [List.map_map,List.length_map,ZbD]
            have e3:((fun x=>x.length) ∘ mkS)=(fun l:List Nat=>l.length):=by
              funext l
              exact ZbD l
            rw [e3,Nat.mul_comm ss.length]
            exact hl
          · have e4:Txt.join (mkS sep) (ss.map mkS)=mkS (PB.joinL sep ss):=by
              apply TL.ext_tl
              rw [TL.join_eq,TL.tl_join,ZfN]
              have:(ss.map mkS).map TL.tl=ss:=by
                rw [List.map_map]
                have:TL.tl ∘ mkS=id:=by
                  funext l
                  exact ZeI l
                rw [this,List.map_id]
              rw [this]
              rfl
            rw [e4]
            exact q _ H2 x2 i2 (.str _ (Nat.le_trans (Zfs sep ss) hl) (Zft k2 ss fun x hx=>(hs' x hx).2))
        · cases ez
      · cases ez
    · cases ez
  · exact h1.elim
theorem Zgc {o:Option Expr} {m:Option (ME γ)} (h:match o,m with
    | none,none=>True
    | some e,some m=>PE X e (RE B W m)
    | _,_=>False):PO X o (fun σ H Q=>∃ (S:Addr→Prop) (e:Env) (g:γ),Rep ⟨B,S⟩ e g σ H∧RK (fun _ _ _ _ _ a b=>a=b) ⟨B,S⟩ W e σ H (Zgn m e g) Q):=by
  cases o with
  | none=>
    cases m with
    | none=>exact po_w po_none fun σ H Q ⟨S,e,g,R,h⟩=>h none H (.refl H) R.gh rfl
    | some m=>exact h.elim
  | some a=>
    cases m with
    | none=>exact h.elim
    | some m=>
      refine po_w (po_some h) fun σ H Q ⟨S,e,g,R,h⟩ => ?_
      refine ⟨S,e,g,R,RK.bind (.refl H) h fun x g1 vx H1 _ x1 i1 o1 h1 => ?_⟩
      split at h1
      · cases o1
        exact ⟨_,rfl,h1 _ H1 x1 i1 rfl⟩
      · exact h1.elim
theorem Zh3 {α:Type} (xs:List α) (lo hi:Option Int):(PB.cut xs lo hi).length≤xs.length:=by
  unfold PB.cut
  rw [List.length_take,List.length_drop]
  omega
theorem Zhd {lo hi:Option Expr} {ml mh:Option (ME γ)} {p2:Pos} (hK:B.K=X.K) (ha:PE X a (RE B W ma)) (hl:match lo,ml with
    | none,none=>True
    | some e,some m=>PE X e (RE B W m)
    | _,_=>False) (hh:match hi,mh with
    | none,none=>True
    | some e,some m=>PE X e (RE B W m)
    | _,_=>False):PE X (.Subscript a (.Slice lo hi none p2) pos) (RE B W (ZeE ma ml mh)):=by
  refine ZaS (pe_slice (SlR.or sl_list (SlR.or sl_tupA sl_str)) ha (Zgc hl) (Zgc hh)) fun σ H Q ⟨S,e,g,R,h⟩ => ?_
  refine ⟨S,e,g,R,RK.bind (.refl H) h fun x g1 vx H1 _ x1 i1 o1 h1 => ?_⟩
  refine ⟨S,e,g1,R.exe x1 i1,RK.bind x1 h1 fun l g2 l' H2 x12 x2 i2 o2 h2 => ?_⟩
  cases o2
  refine ⟨S,e,g2,R.exe x2 i2,RK.bind x2 h2 fun u g3 u' H3 x23 x3 i3 o3 h3 => ?_⟩
  cases o3
  obtain ⟨z,ez,q⟩:=h3.ofO
  have o1':=(o1.step R x12).step R x23
  rw [← hK]
  unfold oCut at ez
  split at ez
  · rename_i ds
    cases ez
    cases o1' with
    | @tup p xs _ k al=>
    refine .inr (.inl ⟨p,xs,rfl,ZaU k,fun hw => ?_,fun hw r hr => ?_⟩)
    · have:PB.cut ds l u=ds:=by
        have hw':PB.sIx ds.length 0 l=0∧PB.sIx ds.length ds.length u=ds.length:=by
          rw [← al.length]
          exact hw
        unfold PB.cut
        rw [hw'.1,hw'.2]
        simp
      rw [this] at q
      exact q _ H3 x3 i3 (.tup k al)
    · have q2:=At.mkT (A:=⟨B,S⟩) R x3 i3 (al.cut l u) hr
      exact q _ _ (x3.trans (.new hr)) (Gho.new i3 hr) q2
  · rename_i s
    cases ez
    cases o1' with
    | str _ k1 k2=>
    refine .inr (.inr ⟨mkS s,rfl,by rw [ZbD]; exact szle k1,?_⟩)
    have:cutS (mkS s) l u=mkS (PB.cut s l u):=by
      unfold cutS
      rw [ZbD,ZeI]
      rfl
    rw [this]
    exact q _ H3 x3 i3 (.str _ (Nat.le_trans (Zh3 s l u) k1) (ZhR k2 l u))
  · split at ez
    · rename_i ds kd
      cases ez
      obtain ⟨p,xs,rfl,hp,al⟩:=o1'.items R kd
      exact .inl ⟨p,xs,rfl,(.inl hp),fun r hr=>q _ _ (x3.trans (.new hr)) (Gho.new i3 hr) (VOk.mk x3 i3 (al.cut l u) hr)⟩
    · cases ez
theorem Zfu {A:Act γ ι} {N:List Str} {vs:List V} {ds:List D} {g:γ} {H:Hp} (fx:∀ a,A.G.F a→A.X a) (xt:∀ a,A.X a→Stk (H a)) (al:AtL A.K A.X H vs ds) (gh:A.G.I g H) (hn:vs.length≤N.length) :
    Rep A (ds.map Sl.dat ++ List.replicate (N.length - ds.length) .un) g (L2.start N vs) H:=by
  have hl:=al.length
  have gtm:∀ (ds:List D) (m j:Nat),gt (ds.map Sl.dat ++ List.replicate m .un) j=match ds[j]? with
      | some d=>.dat d
      | none=>.un:=by
    intro ds m
    induction ds with
    | nil=>
      intro j
      simp only [List.map_nil,List.nil_append,List.getElem?_nil]
      induction m generalizing j with
      | zero=>rfl
      | succ m ih=>
        rw [List.replicate_succ]
        cases j with
        | zero=>rfl
        | succ j=>exact ih j
    | cons d ds ih=>
      intro j
      cases j with
      | zero=>rfl
      | succ j=>exact ih j
  have nown:∀ σ a,¬ OwnA (ds.map Sl.dat ++ List.replicate (N.length - ds.length) .un) σ a:=fun σ a ⟨j,h1,_⟩=>by
    rw [gtm] at h1
    split at h1 <;> cases h1
  refine ⟨?_,fun j => ?_,fun i j p h1 _ _ _ => ?_,fun a z=>absurd z (nown _ a),gh,fx,xt⟩
  · unfold L2.start
    simp only [List.length_append,List.length_map,List.length_replicate]
    omega
  · rw [gtm]
    cases k:ds[j]? with
    | none=>trivial
    | some d=>
      obtain ⟨v,hv,av⟩:=al.get k
      refine ⟨v,?_,av.less fun a z=>z.elim id fun z=>absurd z (nown _ a)⟩
      have hj:j < vs.length:=(List.getElem?_eq_some_iff.mp hv).1
      unfold L2.start
      rw [List.getElem?_append_left (by simpa using hj),List.getElem?_map,hv]
      rfl
  · rw [gtm] at h1
    split at h1 <;> cases h1
section
variable {P:Program} {w:World} {K:Frag} {mg:Str→Option Value} {base:Heap} {Tx:XT} {xa:Addr×Value×Option Addr} {fam:ι→Gho γ}
/-- THE RULE for a def that no exception leaves -/
theorem Zjz {x qual:Str} {st:Stmt} {f:Addr} {fd:FuncData} {N ps:List Str} {k:Nat} {m:MS γ} {dvs:List V} (F:FunD K x qual (defArgs st) (defBody st) (defScope st) dvs [] f fd) (Sc:FnScope N ps (defScope st)) (hn:ps.length≤N.length)
    (hb:∀ (i:ι) (cdv:Value) (A:Around) (outer:List PySem.Env) (s:Shared) (H:Hp) (E:XK),Room k (A.deeper (envOfC qual (defScope st) s.heap.objs.size f cdv)) →
      PSs (cxOf CX0 P w K mg base N qual (defScope st) f cdv A outer s H E).nox (defBody st) (RS ⟨K,Tx,fam,i,xa⟩ W0 m)) :
    FnOk P w K mg base CX0 (k + 1) f fd ps (spOf K fam ps.length (Zbh N.length ps.length m)):=by
  refine F.ok Sc (fun vs H Q E h => ?_) (fun cdv A outer s H vs Q E hr h => ?_)
  · obtain ⟨i,S,ds,g,hl,_⟩:=h
    exact hl
  · obtain ⟨i,S,ds,g,hl,fx,xt,al,gh,hq⟩:=h
    refine ⟨_,(hb i cdv A outer s H E hr).nox,S,_,g,Zfu (A:=⟨⟨K,Tx,fam,i,xa⟩,S⟩) (N:=N) fx xt al gh (by omega),?_⟩
    have nown:∀ a,¬ OwnA (ds.map Sl.dat ++ List.replicate (N.length - ds.length) .un) (L2.start N vs) a:=fun a ⟨j,h1,h2⟩=>by
      have gtm:∀ (ds:List D) (m j:Nat),gt (ds.map Sl.dat ++ List.replicate m .un) j=match ds[j]? with
          | some d=>.dat d
          | none=>.un:=by
        intro ds m
        induction ds with
        | nil=>
          intro j
          simp only [List.map_nil,List.nil_append,List.getElem?_nil]
          induction m generalizing j with
          | zero=>rfl
          | succ m ih=>
            rw [List.replicate_succ]
            cases j with
            | zero=>rfl
            | succ j=>exact ih j
        | cons d ds ih=>
          intro j
          cases j with
          | zero=>rfl
          | succ j=>exact ih j
      rw [gtm] at h1
      split at h1 <;> cases h1
    have nmu:∀ b,¬ (fam i).F b→¬ Mu (⟨⟨K,Tx,fam,i,xa⟩,S⟩:Act γ ι) (ds.map Sl.dat ++ List.replicate (N.length - ds.length) .un) (L2.start N vs) b:=fun b n z=>z.elim n (nown b)
    have hdl:ds.length=ps.length:=by rw [← al.length]; exact hl
    unfold Zbh at hq
    rw [if_pos hdl] at hq
    rw [hdl]
    rw [hdl] at nmu nown
    cases km:m (ds.map Sl.dat ++ List.replicate (N.length - ps.length) .un) g with
    | no=>
      rw [km] at hq
      exact hq
    | ex y g1=>
      rw [km] at hq
      exact hq.elim
    | ok f g1=>
      rw [km] at hq
      cases f with
      | nx e'=>exact fun σ' H' R' s'=>hq .non H' (fun b o q n=>s'.keep b o q (nmu b n)) R'.gh .non
      | bk e'=>exact hq.elim
      | ct e'=>exact hq.elim
      | rt r=>
        intro v H' kp i' vr
        refine hq v H' (fun b o q n=>kp b o q (nmu b n)) i' ?_
        have vr':VRet (⟨⟨K,Tx,fam,i,xa⟩,S⟩:Act γ ι) _ _ H H' r v:=vr
        unfold VRet at vr'
        show FRet K S H H' r.ret v
        cases kr:r.ret with
        | dat d=>
          rw [kr] at vr'
          exact vr'
        | own es=>
          rw [kr] at vr'
          obtain ⟨p,xs,e1,h0,nx,k1,a1⟩:=vr'
          exact ⟨p,xs,e1,h0.elim (fun z=>absurd z (nown p)) id,k1,a1⟩
        | bor es=>
          rw [kr] at vr'
          exact vr'.elim
        | odt t ks vs=>
          rw [kr] at vr'
          obtain ⟨p,xs,e1,h0,nx,k1,a1⟩:=vr'
          exact ⟨p,xs,e1,h0.elim (fun z=>absurd z (nown p)) id,k1,a1⟩
        | bdt t ks vs=>
          rw [kr] at vr'
          exact vr'.elim
end
end
end PB
namespace PB
open PySem PySem.Spec PyProof.Rows L2
variable [Kts]
abbrev LI:=Addr×Addr×Addr
structure LsAt (i:LI) (s:LS) (H:Hp):Prop where
  ea:s.a=i.1
  ha:H i.1=some (.lst [.ref i.2.1,.int s.told,.ref i.2.2,.int (s.cnt:Int)])
  hg:H i.2.1=some (.lst (s.gr.map V.int))
  hc:H i.2.2=some (.lst (s.cs.map V.int))
  n1:i.1≠i.2.1
  n2:i.1≠i.2.2
  n3:i.2.1≠i.2.2
def lsG (i:LI):Gho LS where
  F:=fun a=>a=i.1∨a=i.2.1∨a=i.2.2
  I:=fun s H=>LsAt i s H
  stab:=fun s H H' h k _=>⟨h.ea,by rw [k _ (.inl rfl)]; exact h.ha,by rw [k _ (.inr (.inl rfl))]; exact h.hg,by rw [k _ (.inr (.inr rfl))]; exact h.hc,h.n1,h.n2,h.n3⟩
  lsts:=fun s H a h k=>by
    rcases k with rfl | rfl | rfl
    · exact .lst h.ha
    · exact .lst h.hg
    · exact .lst h.hc
  ad:=fun _=>i.1
section
variable {K:Frag} {Tx:XT} {xa:Addr×Value×Option Addr} {ii:LI} {W:WX} {X:Cx} {pos:Pos} {a:Expr} {ma mk:ME LS}
abbrev LB (K:Frag) (Tx:XT) (ii:LI) (xa:Addr×Value×Option Addr):Bs LS LI:=⟨K,Tx,lsG,ii,xa⟩
theorem Zcy {S:Addr→Prop} {e:Env} {s:LS} {σ:L2.St} {H:Hp} {i:Nat} (R:Rep ⟨LB K Tx ii xa,S⟩ e s σ H) (h:isSt e i s=true):σ[i]?=some (some (.ref ii.1))∧LsAt ii s H:=by
  have L:LsAt ii s H:=R.gh
  unfold isSt at h
  split at h
  · rename_i a0 hk
    have q:=R.sl i
    rw [hk] at q
    obtain ⟨v,e1,av⟩:=q
    have ea:a0=s.a:=eq_of_beq h
    cases av
    rw [e1,ea,L.ea]
    exact ⟨rfl,L⟩
  · cases h
theorem ifst {α β:Type} {P:Act LS LI→Env→L2.St→Hp→Hp→α→β→Prop} {A:Act LS LI} {e:Env} {σ:L2.St} {H:Hp} {c:Bool} {r:Rs LS α} {Q:β→Hp→Prop} (h:RK P A W e σ H (if c=true then r else .no) Q):c=true∧RK P A W e σ H r Q:=by
  by_cases hc:c=true
  · rw [if_pos hc] at h
    exact ⟨hc,h⟩
  · rw [if_neg hc] at h
    exact h.elim
theorem Zew (i:Nat) {x:Str} {px:Pos} {j:Nat} {pj:Pos} (hN:X.N[i]?=some x) (hv:Vis X.env.scope x:=by first | exact Or.inl rfl | exact Or.inr (Or.inl rfl)) (hd:(x == ("__debug__" : Str))=false:=by decide) (hcd:(x == ("__classdict__" : Str))=false:=by decide) :
    PE X (.Subscript (.Name x px) (.Constant (.int 1) j pj) pos) (RE (LB K Tx ii xa) W (Za7 i)):=by
  refine ZaS (pe_ix ix_list (pe_var hN hv hd hcd) pe_int (fun _ _=>rfl)) fun σ H Q ⟨S,e,s,R,h⟩ => ?_
  obtain ⟨hst,h⟩:=ifst h
  obtain ⟨e1,L⟩:=Zcy R hst
  exact ⟨_,e1,ii.1,_,1,_,rfl,rfl,SqL.of L.ha,rfl,h _ H (.refl H) L (.int _)⟩
theorem ZiQ (i:Nat) {x:Str} {px:Pos} {j:Nat} {pj:Pos} (hN:X.N[i]?=some x) (hv:Vis X.env.scope x:=by first | exact Or.inl rfl | exact Or.inr (Or.inl rfl)) (hd:(x == ("__debug__" : Str))=false:=by decide) (hcd:(x == ("__classdict__" : Str))=false:=by decide) :
    PE X (.Subscript (.Name x px) (.Constant (.int 3) j pj) pos) (RE (LB K Tx ii xa) W (ZfD i)):=by
  refine ZaS (pe_ix ix_list (pe_var hN hv hd hcd) pe_int (fun _ _=>rfl)) fun σ H Q ⟨S,e,s,R,h⟩ => ?_
  obtain ⟨hst,h⟩:=ifst h
  obtain ⟨e1,L⟩:=Zcy R hst
  exact ⟨_,e1,ii.1,_,3,_,rfl,rfl,SqL.of L.ha,rfl,h _ H (.refl H) L (.int _)⟩
theorem Zgd (l:List Int):(!(l.map V.int).isEmpty) = !l.isEmpty:=by cases l <;> rfl
theorem Zh4 (i:Nat) {x:Str} {px:Pos} {j:Nat} {pj:Pos} (hN:X.N[i]?=some x) (hv:Vis X.env.scope x:=by first | exact Or.inl rfl | exact Or.inr (Or.inl rfl)) (hd:(x == ("__debug__" : Str))=false:=by decide) (hcd:(x == ("__classdict__" : Str))=false:=by decide)
    (he:∀ whole,isTrue (.Subscript (.Name x px) (.Constant (.int 0) j pj) pos) X.env whole=(do let v ← whole; standAt (Expr.pos (.Subscript (.Name x px) (.Constant (.int 0) j pj) pos)); holding [v] (truthy v)):=by intro _; rfl) :
    PT X (.Subscript (.Name x px) (.Constant (.int 0) j pj) pos) (RT (LB K Tx ii xa) W (ZeU i)):=by
  refine Zff (pt_truth (pe_ix ix_list (pe_var hN hv hd hcd) pe_int (fun _ _=>rfl)) he) fun σ H Q ⟨S,e,s,R,h⟩ => ?_
  obtain ⟨hst,h⟩:=ifst h
  obtain ⟨e1,L⟩:=Zcy R hst
  exact ⟨_,e1,ii.1,_,0,_,rfl,rfl,SqL.of L.ha,rfl,_,.inl ⟨_,SqL.of L.hg,(Zgd _).symm⟩,h _ H (.refl H) L rfl⟩
theorem Zh5 (i:Nat) {x:Str} {px:Pos} {j:Nat} {pj:Pos} (hN:X.N[i]?=some x) (hv:Vis X.env.scope x:=by first | exact Or.inl rfl | exact Or.inr (Or.inl rfl)) (hd:(x == ("__debug__" : Str))=false:=by decide) (hcd:(x == ("__classdict__" : Str))=false:=by decide)
    (he:∀ whole,isTrue (.Subscript (.Name x px) (.Constant (.int 2) j pj) pos) X.env whole=(do let v ← whole; standAt (Expr.pos (.Subscript (.Name x px) (.Constant (.int 2) j pj) pos)); holding [v] (truthy v)):=by intro _; rfl) :
    PT X (.Subscript (.Name x px) (.Constant (.int 2) j pj) pos) (RT (LB K Tx ii xa) W (ZeV i)):=by
  refine Zff (pt_truth (pe_ix ix_list (pe_var hN hv hd hcd) pe_int (fun _ _=>rfl)) he) fun σ H Q ⟨S,e,s,R,h⟩ => ?_
  obtain ⟨hst,h⟩:=ifst h
  obtain ⟨e1,L⟩:=Zcy R hst
  exact ⟨_,e1,ii.1,_,2,_,rfl,rfl,SqL.of L.ha,rfl,_,.inl ⟨_,SqL.of L.hc,(Zgd _).symm⟩,h _ H (.refl H) L rfl⟩
theorem Zh6 (i:Nat) {x:Str} {px p pl:Pos} {j:Nat} {pj:Pos} (hN:X.N[i]?=some x) (hg:Gl X "len") (hm:X.mg "len" = none) (hv:Vis X.env.scope x:=by first | exact Or.inl rfl | exact Or.inr (Or.inl rfl)) (hd:(x == ("__debug__" : Str))=false:=by decide) (hcd:(x == ("__classdict__" : Str))=false:=by decide)
    (hs:starEach [.Subscript (.Name x px) (.Constant (.int 2) j pj) p] X.env=(false,eval (.Subscript (.Name x px) (.Constant (.int 2) j pj) p) X.env) :: starEach [] X.env:=by rfl) (hpl:(backTo pos (starEach [] X.env)).any (·.1)=false:=by rfl) :
    PE X (.Call (.Name "len" pl) [.Subscript (.Name x px) (.Constant (.int 2) j pj) p] [] pos) (RE (LB K Tx ii xa) W (Zes i)):=by
  refine ZaS (pe_callB call_len_seq hg hm PySem.boot_len (pa_cons (pe_ix ix_list (pe_var hN hv hd hcd) pe_int (fun _ _=>rfl)) pa_nil hs) (by decide) (by decide) hs hpl) fun σ H Q ⟨S,e,s,R,h⟩ => ?_
  obtain ⟨hst,h⟩:=ifst h
  obtain ⟨e1,L⟩:=Zcy R hst
  refine ⟨_,e1,ii.1,_,2,_,rfl,rfl,SqL.of L.ha,rfl,ii.2.2,_,rfl,.inl (SqL.of L.hc),?_⟩
  rw [List.length_map]
  exact h _ H (.refl H) L (.int _)
theorem Zh7 (l:List Int) (n:Int):L2.atI (l.map V.int) n=(PB.atI l n).map V.int:=by
  unfold L2.atI PB.atI
  rw [List.length_map,ZgJ]
  cases L2.ixN l.length n with
  | none=>rfl
  | some j=>simp
theorem ZiR (i:Nat) {x:Str} {px p:Pos} {j:Nat} {pj:Pos} {k:Expr} (hN:X.N[i]?=some x) (hk:PE X k (RE (LB K Tx ii xa) W mk)) (hp:PlainIx k) (hv:Vis X.env.scope x:=by first | exact Or.inl rfl | exact Or.inr (Or.inl rfl)) (hd:(x == ("__debug__" : Str))=false:=by decide) (hcd:(x == ("__classdict__" : Str))=false:=by decide) :
    PE X (.Subscript (.Subscript (.Name x px) (.Constant (.int 2) j pj) p) k pos) (RE (LB K Tx ii xa) W (Zfd i mk)):=by
  refine ZaS (pe_ix ix_list (pe_ix ix_list (pe_var hN hv hd hcd) pe_int (fun _ _=>rfl)) hk hp) fun σ H Q ⟨S,e,s,R,h⟩ => ?_
  obtain ⟨hst,h⟩:=ifst h
  obtain ⟨e1,L⟩:=Zcy R hst
  refine ⟨_,e1,ii.1,_,2,_,rfl,rfl,SqL.of L.ha,rfl,S,e,s,R,RK.bind (.refl H) h fun y s1 vy H1 _ x1 i1 o1 h1 => ?_⟩
  split at h1
  · rename_i n
    obtain ⟨hst1,h1⟩:=ifst h1
    obtain ⟨v,ev,q⟩:=h1.ofO
    obtain ⟨_,L1⟩:=Zcy (R.exe x1 i1) hst1
    cases o1
    cases k2:PB.atI s1.cs n with
    | none=>
      rw [k2] at ev
      cases ev
    | some z=>
      rw [k2] at ev
      cases ev
      exact ⟨ii.2.2,_,n,.int z,rfl,rfl,SqL.of L1.hc,by rw [Zh7,k2]; rfl,q _ H1 x1 i1 (.int _)⟩
  · exact h1.elim
/-- the state changes -/
theorem Zfn {S:Addr→Prop} {e:Env} {s s':LS} {σ:L2.St} {H H':Hp} (R:Rep ⟨LB K Tx ii xa,S⟩ e s σ H) (k:∀ a,a≠ii.1→a≠ii.2.1→H' a=H a) (L:LsAt ii s' H'):Rep ⟨LB K Tx ii xa,S⟩ e s' σ H'∧Stp ⟨LB K Tx ii xa,S⟩ e σ H e σ H':=by
  have x:ExE (⟨LB K Tx ii xa,S⟩:Act LS LI) H H':=fun b o q n=>by
    rw [k b (fun z=>n (.inl z)) (fun z=>n (.inr (.inl z)))]
    exact q
  exact ⟨R.exe x L,.exe R x⟩
theorem Zgy (i:Nat) {x:Str} {px:Pos} {j:Nat} {pj tp:Pos} (hN:X.N[i]?=some x) (ha:PE X a (RE (LB K Tx ii xa) W ma)) (hv:Vis X.env.scope x:=by first | exact Or.inl rfl | exact Or.inr (Or.inl rfl)) (hd:(x == ("__debug__" : Str))=false:=by decide) (hcd:(x == ("__classdict__" : Str))=false:=by decide)
    (hasg:∀ v,assign (.Subscript (.Name x px) (.Constant (.int 1) j pj) tp) X.env v=(do
      let ov ← holding [v] (eval (.Name x px) X.env)
      let iv ← holding [v,ov] (eval (.Constant (.int 1) j pj) X.env)
      standAt tp
      holding [v,ov,iv] (setItem ov iv v)
      release [v,ov,iv] []):=by intro _; rfl)
    (hs:swapsWithSole [.Subscript (.Name x px) (.Constant (.int 1) j pj) tp] a pos.line X.env=pure false:=by rfl) (hw:swappedStores [.Subscript (.Name x px) (.Constant (.int 1) j pj) tp] a X.env=pure none:=by rfl)
    (h1:(assignEach [.Subscript (.Name x px) (.Constant (.int 1) j pj) tp] X.env).map (·.2)=[assign (.Subscript (.Name x px) (.Constant (.int 1) j pj) tp) X.env]:=by rfl) :
    PS X (.Assign [.Subscript (.Name x px) (.Constant (.int 1) j pj) tp] a pos) (RS (LB K Tx ii xa) W (Zcb i ma)):=by
  refine Zc0 (ps_asg ha (pg_sub (pe_var hN hv hd hcd) pe_int set_list hasg) hs hw h1) fun Dd σ H ⟨S,e,s,R,h⟩ => ?_
  refine ⟨S,e,s,R,RSK.bind R h fun y s1 vy H1 x1 i1 o1 h1 => ?_⟩
  have R1:=R.exe x1 i1
  split at h1
  · rename_i n
    by_cases hst:isSt e i s1=true
    · rw [if_pos hst] at h1
      obtain ⟨e1,L⟩:=Zcy R1 hst
      cases o1
      refine ⟨_,e1,ii.1,_,1,1,rfl,rfl,L.ha,rfl,?_⟩
      obtain ⟨R2,s2⟩:=Zfn (s':={ s1 with told:=n }) R1 (fun b n1 n2=>upd_ne n1) ⟨L.ea,upd_same,by rw [upd_ne (Ne.symm L.n1)]; exact L.hg,by rw [upd_ne (Ne.symm L.n2)]; exact L.hc,L.n1,L.n2,L.n3⟩
      exact h1 σ _ R2 (.trans R1 (.exe R x1) s2)
    · rw [if_neg hst] at h1
      exact h1.elim
  · exact h1.elim
theorem Zh8 (i:Nat) {x:Str} {px px2:Pos} {j j0 jz:Nat} {pj pj0 pjz tp p0 apos cpos:Pos} (hN:X.N[i]?=some x) (hv:Vis X.env.scope x:=by first | exact Or.inl rfl | exact Or.inr (Or.inl rfl)) (hd:(x == ("__debug__" : Str))=false:=by decide) (hcd:(x == ("__classdict__" : Str))=false:=by decide)
    (hasg:∀ v,assign (.Subscript (.Name x px) (.Constant (.int 1) j pj) tp) X.env v=(do
      let ov ← holding [v] (eval (.Name x px) X.env)
      let iv ← holding [v,ov] (eval (.Constant (.int 1) j pj) X.env)
      standAt tp
      holding [v,ov,iv] (setItem ov iv v)
      release [v,ov,iv] []):=by intro _; rfl)
    (hbase:attributeBase (.Subscript (.Name x px2) (.Constant (.int 0) j0 pj0) p0) "pop" X.env (eval (.Subscript (.Name x px2) (.Constant (.int 0) j0 pj0) p0) X.env)=eval (.Subscript (.Name x px2) (.Constant (.int 0) j0 pj0) p0) X.env:=by rfl)
    (hfew:((backTo cpos (starEach [.Constant (.int 0) jz pjz] X.env)).all (fun x => !x.1) && (backToKw cpos (keywordEach [] X.env)).all (fun x=>x.1.isSome)
      && decide ([Expr.Constant (.int 0) jz pjz].length + ([]:List Keyword).length + (if ([]:List Keyword).isEmpty then 0 else 1) < 30))=true:=by rfl)
    (hline:(apos.endLine == cpos.line)=true:=by rfl) (hsa:starEach [.Constant (.int 0) jz pjz] X.env=(false,eval (.Constant (.int 0) jz pjz) X.env) :: starEach [] X.env:=by rfl) (hplain:(backTo cpos (starEach [] X.env)).any (·.1)=false:=by rfl)
    (hs:swapsWithSole [.Subscript (.Name x px) (.Constant (.int 1) j pj) tp] (.Call (.Attribute (.Subscript (.Name x px2) (.Constant (.int 0) j0 pj0) p0) "pop" apos) [.Constant (.int 0) jz pjz] [] cpos) pos.line X.env=pure false:=by rfl)
    (hw:swappedStores [.Subscript (.Name x px) (.Constant (.int 1) j pj) tp] (.Call (.Attribute (.Subscript (.Name x px2) (.Constant (.int 0) j0 pj0) p0) "pop" apos) [.Constant (.int 0) jz pjz] [] cpos) X.env=pure none:=by rfl)
    (h1:(assignEach [.Subscript (.Name x px) (.Constant (.int 1) j pj) tp] X.env).map (·.2)=[assign (.Subscript (.Name x px) (.Constant (.int 1) j pj) tp) X.env]:=by rfl) :
    PS X (.Assign [.Subscript (.Name x px) (.Constant (.int 1) j pj) tp] (.Call (.Attribute (.Subscript (.Name x px2) (.Constant (.int 0) j0 pj0) p0) "pop" apos) [.Constant (.int 0) jz pjz] [] cpos) pos) (RS (LB K Tx ii xa) W (ZdM i)):=by
  refine Zc0 (ps_asg (pe_bm PySem.F.plainAttrs_list PySem.F.slot_list_pop PySem.F.type_list_pop mt_popAt (pe_ix ix_list (pe_var hN hv hd hcd) pe_int (fun _ _=>rfl)) (pa_cons pe_int pa_nil hsa) hbase hfew hline hsa hplain) (pg_sub (pe_var hN hv hd hcd) pe_int set_list hasg) hs hw h1) fun Dd σ H ⟨S,e,s,R,h⟩ => ?_
  unfold ZdM at h
  by_cases hst:isSt e i s=true
  · rw [if_pos hst] at h
    obtain ⟨e1,L⟩:=Zcy R hst
    split at h
    · rename_i y r hgr
      have hg:=L.hg
      rw [hgr] at hg
      refine ⟨_,e1,ii.1,_,0,_,rfl,rfl,SqL.of L.ha,rfl,.inl ⟨rfl,_,SqL.of hg⟩,ii.2.1,_,0,0,.int y,rfl,rfl,hg,by decide,by decide,by simp [seqIndex?],rfl,?_⟩
      have ha2:upd H ii.2.1 (.lst ((List.map V.int (y :: r)).eraseIdx 0)) ii.1=_:=(upd_ne L.n1).trans L.ha
      refine ⟨_,e1,ii.1,_,1,1,rfl,rfl,ha2,rfl,?_⟩
      obtain ⟨R2,s2⟩:=Zfn (s':={ s with gr:=r,told:=y }) (H':=upd (upd H ii.2.1 (.lst ((List.map V.int (y :: r)).eraseIdx 0))) ii.1 (.lst ([V.ref ii.2.1,.int s.told,.ref ii.2.2,.int (s.cnt:Int)].set 1 (.int y)))) R (fun b n1 n2=>by rw [upd_ne n1,upd_ne n2]) ⟨L.ea,upd_same,by rw [upd_ne (Ne.symm L.n1),upd_same]; rfl,by rw [upd_ne (Ne.symm L.n2),upd_ne (Ne.symm L.n3)]; exact L.hc,L.n1,L.n2,L.n3⟩
      exact h σ _ R2 s2
    · exact h.elim
  · rw [if_neg hst] at h
    exact h.elim
theorem Zhe:PGet X (rIxL X.K):=by
  intro pins s σ H o i ov iv Q I ro ri h
  obtain ⟨p,xs,k,z,rfl,rfl,hq,he,q⟩:=h
  cases ro
  obtain ⟨t,rfl⟩:=ri
  obtain ⟨its,r,pl,hz⟩:=I.list hq
  obtain ⟨j,h1,h2,h3,h4,h5⟩:=atI_get he
  obtain ⟨w,ew,rw'⟩:=r.get h2
  have hl:=r.length
  have hn:=line63
  have fin:EP X pins σ Q w s:=⟨z,H,I,rw',q⟩
  by_cases h0:0≤k
  · have hj:k.toNat=j:=by
      rw [seqIndex_of h0 h5] at h1
      exact Option.some.inj h1
    exact wpAny_getItem_list pl.isList h0 (by omega) (by rw [hj]; simpa using ew) fin
  · have hj:(k + (its.toArray.size:Int)).toNat=j:=by
      rw [seqIndex_neg (by omega) h4] at h1
      rw [List.size_toArray,← hl]
      exact Option.some.inj h1
    exact wpAny_getItem_list_neg pl.isList (by omega) (by rw [List.size_toArray] <;> omega) (by omega) (by rw [hj]; simpa using ew) fin
theorem Zh9 (i:Nat) {x:Str} {px:Pos} {j jz:Nat} {pj pjz tp:Pos} (hN:X.N[i]?=some x) (hv:Vis X.env.scope x:=by first | exact Or.inl rfl | exact Or.inr (Or.inl rfl)) (hd:(x == ("__debug__" : Str))=false:=by decide) (hcd:(x == ("__classdict__" : Str))=false:=by decide)
    (hau:∀ ov iv new,augStore (.Constant (.int 3) j pj) ov iv new=(do holding [new,ov,iv] (setItem ov iv new); release [new,ov,iv] []; pure .next):=by intros; rfl) :
    PS X (.AugAssign (.Subscript (.Name x px) (.Constant (.int 3) j pj) tp) .Add (.Constant (.int 1) jz pjz) pos) (RS (LB K Tx ii xa) W (Zet i)):=by
  refine Zc0 (ps_augS (pe_var hN hv hd hcd) pe_int Zhe pe_int ip_add set_list hau) fun Dd σ H ⟨S,e,s,R,h⟩ => ?_
  unfold Zet at h
  by_cases hst:isSt e i s=true
  · rw [if_pos hst] at h
    obtain ⟨e1,L⟩:=Zcy R hst
    refine ⟨_,e1,ii.1,_,3,_,rfl,rfl,SqL.of L.ha,rfl,_,1,rfl,rfl,ii.1,_,3,3,rfl,rfl,L.ha,rfl,?_⟩
    obtain ⟨R2,s2⟩:=Zfn (s':={ s with cnt:=s.cnt + 1 }) R (fun b n1 n2=>upd_ne n1) ⟨L.ea,upd_same,by rw [upd_ne (Ne.symm L.n1)]; exact L.hg,by rw [upd_ne (Ne.symm L.n2)]; exact L.hc,L.n1,L.n2,L.n3⟩
    exact h σ _ R2 s2
  · rw [if_neg hst] at h
    exact h.elim
end
end PB
namespace PB
open PySem PySem.Spec PyProof.Rows L2
variable [Kts]
theorem hu65 {k:Nat} {A:Around} (h:Room k A):A.units + 65 < cLine:=by
  have:=h.un
  omega
theorem ZaQ (b:Expr):behindInMarks .Eq b=false:=nomark b
theorem Zhf (b:Expr):behindInMarks .NotEq b=false:=nomark b
theorem ZjA (b:Expr):behindInMarks .Lt b=false:=nomark b
theorem ZjB (b:Expr):behindInMarks .Gt b=false:=nomark b
theorem ZdC {γ ι:Type} {P:Program} {w:World} {K:Frag} {mg:Str→Option Value} {base:Heap} {Tx:XT} {xa:Addr×Value×Option Addr} {fam:ι→Gho γ} {x qual:Str} {st:Stmt} {f:Addr} {fd:FuncData} {N ps:List Str} {k:Nat} {dvs:List V} (m:MS γ) (a b:Nat) (F:FunD K x qual (defArgs st) (defBody st) (defScope st) dvs [] f fd) (Sc:FnScope N ps (defScope st)) (ha:N.length=a) (hb':ps.length=b) (hn:b≤a)
    (hb:∀ (i:ι) (cdv:Value) (A:Around) (outer:List PySem.Env) (s:Shared) (H:Hp) (E:XK),Room k (A.deeper (envOfC qual (defScope st) s.heap.objs.size f cdv)) →
      PSs (cxOf CX0 P w K mg base N qual (defScope st) f cdv A outer s H E).nox (defBody st) (RS ⟨K,Tx,fam,i,xa⟩ W0 m)) :
    FnOk P w K mg base CX0 (k + 1) f fd ps (spOf K fam b (Zbh a b m)):=by
  subst ha hb'
  exact Zjz F Sc hn hb
abbrev FnP (K:Frag) (x:Str) (st:Stmt) (f:Addr) (fd:FuncData):Prop:=FunD K x x (defArgs st) (defBody st) (defScope st) [] [] f fd
theorem FnP.fun {K:Frag} {x:Str} {st:Stmt} {f:Addr} {fd:FuncData} (F:FnP K x st f fd):Fun K x x st f fd:=by
  obtain ⟨oc,od,dV,kV,doc,pm,an,cdv,ct,osl,e,lk,hcd,hD,hK⟩:=F.ex
  rcases hD with ⟨_,rfl⟩ | ⟨e,_⟩
  · exact ⟨⟨oc,od,kV,doc,pm,an,cdv,ct,osl,e,lk,hcd⟩,F.kp⟩
  · exact absurd rfl e
/-- a def as callers know it -/
structure Cal (K:Frag) (mg:Str→Option Value) (x:Str) (st:Stmt) (ps:List Str) (f:Addr) (fd:FuncData):Prop where
  F:FnP K x st f fd
  g:mg x=some (.ref f)
  b:Binds K fd ps []
theorem ZiS {ι:Type} {X:Cx} {sts:List Stmt} {t:ι→TS} (h:∀ i,PSs X sts (t i)):PSs X sts (fun D σ H=>∃ i,t i D σ H):=⟨fun pins s σ H D I ⟨i,q⟩=>(h i).run pins s σ H D I q⟩
def spStart (K:Frag):Sp:=fun vs H Q _=>∃ (a0:Addr) (ns:List Int),vs=[.ref a0]∧SqL K H a0 (ns.map V.int)∧ns.length≤63 ∧
  ∀ (i:LI) (s:LS) (H':Hp),s.Ok→s.cnt=0→LsAt i s H'→(∀ b o,H b=some o→H' b=some o)→H i.1=none→H i.2.1=none→H i.2.2=none→Q (.ref i.1) H'
def spLaw (K:Frag):Sp:=fun vs H Q _=>∃ (a0:Addr) (ns:List Int),vs=[.ref a0]∧SqL K H a0 (ns.map V.int)∧ns.length≤63∧∀ H',Q (.bl true) H'
theorem Zf1 {p:Int→Bool} {l:List Int} {i:Nat} {x:Int} (h:l[i]?=some x):(l.take (i + 1)).filter p=(l.take i).filter p ++ (if p x=true then [x] else []):=by
  rw [List.take_add_one,h,List.filter_append]
  congr 1
  cases hp:p x <;> simp [hp]
theorem Zhg {f:Int→Int} {l:List Int} {i:Nat} {x:Int} (h:l[i]?=some x):(l.take (i + 1)).map f=(l.take i).map f ++ [f x]:=by
  rw [List.take_add_one,h,List.map_append]
  rfl
/-- what the readings of the two comprehensions ask -/
theorem Zhh {K:Frag} {a:Addr} {ns:List Int} {σ:L2.St} {H1:Hp} {Dp:Addr} {Qd:Hp→Prop} {vi:Nat} (hv:vi < σ.length) (hD:H1 Dp=none) (hS:SqL K H1 a (ns.map V.int)) (hl:ns.length≤63) (hd:Qd (upd H1 Dp (.lst ((ns.filter fun x=>decide (10 ^ 18≤x)).map V.int)))) :
    ∃ W:Nat→Nat→Hp→Prop,(∃ m,W 0 m (upd H1 Dp (.lst [])))∧∀ i m H,W i m H →
      ((Itl K a).stop i H∧Qd H)∨((Itl K a).go i H∧∃ Nx:Hp→Prop,(∀ H',Nx H'→∃ m',m' < m∧W (i + 1) m' H')∧∀ x H',(Itl K a).yld i H x H'→gName vi x (wipe σ [vi]) H' fun σ2 H2=>wipe σ2 [vi]=wipe σ [vi]∧tTest (tOp (rI0 fun i j=>.bl (decide (j≤i))) (tVar vi) (tOp (rI CPow fun i j=>.int (i ^ j.toNat)) (tC (.int 10)) (tC (.int 18)))) σ2 H2 fun b H3=>
        if b=true then tVar vi σ2 H3 fun y H4=>∃ acc,H4 Dp=some (.lst acc)∧acc.length < sizeLine∧Nx (upd H4 Dp (.lst (acc ++ [y]))) else Nx H3):=by
  have fr:∀ {o:HO},SqL K (upd H1 Dp o) a (ns.map V.int):=fun {o}=>by
    rcases hS with (h | ⟨u,h⟩) | h
    · exact .inl (.inl (by rw [upd_ne (ne_of_none h hD)]; exact h))
    · exact .inl (.inr ⟨u,by rw [upd_ne (ne_of_none h hD)]; exact h⟩)
    · exact .inr h
  refine lc_list (K:=K) (a:=a) (xs:=ns.map V.int) (fun i H=>H=upd H1 Dp (.lst (((ns.take i).filter fun x=>decide (10 ^ 18≤x)).map V.int))) rfl (fun i H _ e=>by rw [e]; exact fr) (fun i x H hx e => ?_) (fun H e => ?_)
  · subst e
    rw [List.getElem?_map] at hx
    cases q:ns[i]? with
    | none=>
      rw [q] at hx
      cases hx
    | some z=>
      rw [q] at hx
      cases hx
      have hw:((wipe σ [vi]).set vi (some (V.int z)))[vi]?=some (some (V.int z)):=by
        rw [ZaP,if_pos ⟨rfl,by rw [wipe_length]; exact hv⟩]
      refine ⟨Zfl (is:=[vi]) (by rw [List.length_set,wipe_length]) (fun i hi=>hi) (fun j hj=>by rw [List.getElem?_set_ne (fun z=>hj (by simp [z]))]),_,hw,_,_,rfl,rfl,⟨by decide,by decide,by decide⟩,_,_,rfl,rfl,_,rfl,?_⟩
      have e2:=Zf1 (p:=fun x=>decide (10 ^ 18≤x)) q
      have e3:(decide (10 ^ (18:Int).toNat≤z))=decide ((10:Int) ^ 18≤z):=rfl
      by_cases hz:(10:Int) ^ 18≤z
      · dsimp only
        rw [e3,if_pos (decide_eq_true hz)]
        refine ⟨_,hw,_,upd_same,?_,?_⟩
        · rw [List.length_map]
          refine Nat.lt_of_le_of_lt (List.length_filter_le _ _) ?_
          rw [List.length_take]
          exact szlt (by show _ < 16777216; omega)
        · rw [upd_upd,e2,if_pos (decide_eq_true hz),List.map_append]
          rfl
      · dsimp only
        rw [e3,if_neg (by rw [decide_eq_false hz]; exact Bool.false_ne_true)]
        rw [e2,if_neg (by rw [decide_eq_false hz]; exact Bool.false_ne_true),List.append_nil]
  · rw [e,List.length_map,List.take_length]
    exact hd
theorem Zhi {K:Frag} {a:Addr} {ns:List Int} {σ:L2.St} {H1:Hp} {Dp:Addr} {Qd:Hp→Prop} {vi:Nat} (hv:vi < σ.length) (hD:H1 Dp=none) (hS:SqL K H1 a (ns.map V.int)) (hl:ns.length≤63) (hd:Qd (upd H1 Dp (.lst ((ns.map fun x=>x % 2147483629).map V.int)))) :
    ∃ W:Nat→Nat→Hp→Prop,(∃ m,W 0 m (upd H1 Dp (.lst [])))∧∀ i m H,W i m H →
      ((Itl K a).stop i H∧Qd H)∨((Itl K a).go i H∧∃ Nx:Hp→Prop,(∀ H',Nx H'→∃ m',m' < m∧W (i + 1) m' H')∧∀ x H',(Itl K a).yld i H x H'→gName vi x (wipe σ [vi]) H' fun σ2 H2=>wipe σ2 [vi]=wipe σ [vi]∧tYes σ2 H2 fun b H3=>
        if b=true then tOp (rI (fun _ j=>0 < j) fun i j=>.int (i % j)) (tVar vi) (tC (.int 2147483629)) σ2 H3 fun y H4=>∃ acc,H4 Dp=some (.lst acc)∧acc.length < sizeLine∧Nx (upd H4 Dp (.lst (acc ++ [y]))) else Nx H3):=by
  have fr:∀ {o:HO},SqL K (upd H1 Dp o) a (ns.map V.int):=fun {o}=>by
    rcases hS with (h | ⟨u,h⟩) | h
    · exact .inl (.inl (by rw [upd_ne (ne_of_none h hD)]; exact h))
    · exact .inl (.inr ⟨u,by rw [upd_ne (ne_of_none h hD)]; exact h⟩)
    · exact .inr h
  refine lc_list (K:=K) (a:=a) (xs:=ns.map V.int) (fun i H=>H=upd H1 Dp (.lst (((ns.take i).map fun x=>x % 2147483629).map V.int))) rfl (fun i H _ e=>by rw [e]; exact fr) (fun i x H hx e => ?_) (fun H e => ?_)
  · subst e
    rw [List.getElem?_map] at hx
    cases q:ns[i]? with
    | none=>
      rw [q] at hx
      cases hx
    | some z=>
      rw [q] at hx
      cases hx
      have hw:((wipe σ [vi]).set vi (some (V.int z)))[vi]?=some (some (V.int z)):=by
        rw [ZaP,if_pos ⟨rfl,by rw [wipe_length]; exact hv⟩]
      refine ⟨Zfl (is:=[vi]) (by rw [List.length_set,wipe_length]) (fun i hi=>hi) (fun j hj=>by rw [List.getElem?_set_ne (fun z=>hj (by simp [z]))]),?_⟩
      unfold tYes
      dsimp only
      rw [if_pos rfl]
      refine ⟨_,hw,_,_,rfl,rfl,(by show (0:Int) < 2147483629; decide),_,upd_same,?_,?_⟩
      · rw [List.length_map,List.length_map,List.length_take]
        exact szlt (by show _ < 16777216; omega)
      · rw [upd_upd,Zhg q,List.map_append]
        rfl
  · rw [e,List.length_map,List.take_length]
    exact hd
theorem Zhj {H:Hp} {p:Addr} {o:HO} (h:H p=none):∀ b u,H b=some u→upd H p o b=some u:=fun b u e=>by
  rw [upd_ne (ne_of_none e h)]
  exact e
/-- the four of a new state,laid one after another -/
theorem Zia {ns:List Int} {H:Hp} {g c a:Addr} (hg:H g=none) (hc:(upd H g (.lst ((ns.filter fun x=>decide (10 ^ 18≤x)).map V.int))) c=none)
    (ha:(upd (upd H g (.lst ((ns.filter fun x=>decide (10 ^ 18≤x)).map V.int))) c (.lst ((ns.map fun x=>x % 2147483629).map V.int))) a=none) :
    let H3:=upd (upd (upd H g (.lst ((ns.filter fun x=>decide (10 ^ 18≤x)).map V.int))) c (.lst ((ns.map fun x=>x % 2147483629).map V.int))) a (.lst [.ref g,.int 0,.ref c,.int 0])
    let s:LS:=⟨a,ns.filter fun x=>decide (10 ^ 18≤x),0,ns.map fun x=>x % 2147483629,0⟩
    s.Ok∧s.cnt=0∧LsAt (a,g,c) s H3∧(∀ b o,H b=some o→H3 b=some o)∧H a=none∧H g=none∧H c=none:=by
  intro H3 s
  have hcg:c≠g:=fun z=>by
    rw [z,upd_same] at hc
    cases hc
  have hc0:H c=none:=by
    rw [upd_ne hcg] at hc
    exact hc
  have hac:a≠c:=fun z=>by
    rw [z,upd_same] at ha
    cases ha
  rw [upd_ne hac] at ha
  have hag:a≠g:=fun z=>by
    rw [z,upd_same] at ha
    cases ha
  rw [upd_ne hag] at ha
  refine ⟨⟨Int.le_refl 0,fun x hx => ?_,fun x hx => ?_⟩,rfl,⟨rfl,upd_same,?_,?_,hag,hac,hcg.symm⟩,fun b o e => ?_,ha,hg,hc0⟩
  · have h1:=of_decide_eq_true (List.mem_filter.mp hx).2
    have h2:(0:Int) < 10 ^ 18:=by decide
    omega
  · obtain ⟨y,_,rfl⟩:=List.mem_map.mp hx
    exact ⟨Int.emod_nonneg _ (by decide),Int.emod_lt_of_pos _ (by decide)⟩
  · show H3 g=_
    show upd _ a _ g=_
    rw [upd_ne (Ne.symm hag),upd_ne (Ne.symm hcg),upd_same]
  · show upd _ a _ c=_
    rw [upd_ne (Ne.symm hac),upd_same]
  · show upd _ a _ b=_
    rw [upd_ne (ne_of_none e ha),upd_ne (ne_of_none e hc0),upd_ne (ne_of_none e hg)]
    exact e
theorem ZiT (n j:Nat):gt (List.replicate n .un) j = .un:=by
  induction n generalizing j with
  | zero=>rfl
  | succ n ih=>
    cases j with
    | zero=>rfl
    | succ j=>exact ih j
theorem ZfO (d:D) (n j:Nat):gt (.un :: .dat d :: List.replicate n .un) j=if j=1 then .dat d else .un:=by
  match j with
  | 0=>rfl
  | 1=>rfl
  | j + 2=>
    rw [if_neg (by omega)]
    exact ZiT n j
/-- the rest of a law,from its state on -/
theorem Zhk {K:Frag} {Tx:XT} {xa:Addr×Value×Option Addr} {m:MS LS} {n:Nat} {i:LI} {s:LS} {H:Hp} {a0:V} {Dd:Ends} (hL:LsAt i s H) (hp:∃ g',m (.un :: .dat (.ref s.a) :: List.replicate n .un) s = .ok (.rt (.dat (.bl true))) g') (hQ:∀ H',Dd.rt (.bl true) H') :
    RS ⟨K,Tx,lsG,i,xa⟩ W0 m Dd (some a0 :: some (.ref i.1) :: List.replicate n none) H:=by
  obtain ⟨g',hp⟩:=hp
  refine ⟨(lsG i).F,.un :: .dat (.ref s.a) :: List.replicate n .un,s,⟨by simp,fun j => ?_,fun j k p h1 => ?_,fun a ⟨j,h1,_⟩ => ?_,hL,fun a z=>z,fun a z=>(lsG i).stk _ _ _ hL z⟩,?_⟩
  · rw [ZfO]
    by_cases hj:j=1
    · rw [if_pos hj,hj]
      refine ⟨.ref i.1,rfl,?_⟩
      rw [hL.ea]
      exact .ref _
    · rw [if_neg hj]
      trivial
  · rw [ZfO] at h1
    split at h1 <;> cases h1
  · rw [ZfO] at h1
    split at h1 <;> cases h1
  · rw [hp]
    intro v H' _ _ vr
    have vr':At K _ H' v (.bl true):=vr
    cases vr'
    exact hQ H'
end PB
namespace PB
open PySem PySem.Spec PyProof.Rows L2
end PB
namespace PB
open PySem PySem.Spec PyProof.Rows L2
end PB
namespace PB
open PySem PySem.Spec PyProof.Rows L2
end PB
namespace PB
open PySem PySem.Spec PyProof.Rows L2
end PB
namespace PB
open PySem PySem.Spec PyProof.Rows L2
variable [Kts]
section
variable {γ ι:Type} {B:Bs γ ι} {W:WX} {X:Cx} {pos:Pos} {a:Expr} {ma:ME γ}
theorem PE.or {e:Expr} {t t':TE} (h:PE X e t) (h':PE X e t'):PE X e (fun σ H Q=>t σ H Q∨t' σ H Q):=
  ⟨fun pins s σ H Q I q=>q.elim (h.run pins s σ H Q I) (h'.run pins s σ H Q I)⟩
end
end PB
namespace PB
open PySem PySem.Spec PyProof.Rows L2
end PB
namespace PB
open PySem PySem.Spec PyProof.Rows L2
variable [Kts]
section
variable {γ ι:Type}
/-- the promise of a def that an exception may leave -/
def spOfX (K:Frag) (T:XT) (fam:ι→Gho γ) (n:Nat) (F:MF γ):Sp:=fun vs H Q E=>∃ (i:ι) (S:Addr→Prop) (ds:List D) (g:γ),vs.length=n∧(∀ a,(fam i).F a→S a)∧(∀ a,S a→Stk (H a))∧AtL K S H vs ds∧(fam i).I g H ∧
  match F ds g with
  | .ok r g'=>∀ v H',(∀ b o,H b=some o→¬ (fam i).F b→H' b=some o)→(fam i).I g' H'→FRet K S H H' r v→Q v H'
  | .ex x g'=>∀ c od H',(∀ b o,H b=some o→¬ (fam i).F b→H' b=some o)→(fam i).I g' H'→XOk T x c od H'→E c od H'
  | .no=>False
variable {B:Bs γ ι} {W:WX} {X:Cx} {pos pz:Pos} {e:Expr} {es:List Expr} {mr:MA γ} {F:MF γ}
theorem Zhl {n:Nat} {σ:L2.St} {H:Hp} {Q:VK} (h:RE B W (ZeT F mr) σ H Q) (hl:∀ e g rs g',mr e g = .ok rs g'→rs.length=n):tCallS (spOfX B.K B.T B.fam n F) (WE W) (RA B W mr) σ H Q:=by
  obtain ⟨S,e,g,R,h⟩:=h
  refine ⟨S,e,g,R,?_⟩
  have hl':=hl e g
  unfold ZeT at h
  cases q:mr e g with
  | no=>
    rw [q] at h
    exact h
  | ex y g1=>
    rw [q] at h
    exact h
  | ok rs g1=>
    rw [q] at h
    intro vs H1 x1 i1 o1
    have h1:RK VOk ⟨B,S⟩ W e σ H (match stoL rs with | some ds=>F ds g1 | none=>.no) Q:=h
    cases ks:stoL rs with
    | none=>
      rw [ks] at h1
      exact h1.elim
    | some ds=>
      rw [ks] at h1
      have al:=o1.sto R ks
      have R1:=R.exe x1 i1
      have hn:rs.length=n:=hl' _ _ q
      have hvl:vs.length=n:=by rw [← hn,o1.length]
      have h1:RK VOk ⟨B,S⟩ W e σ H (F ds g1) Q:=h1
      refine ⟨B.i,Om ⟨B,S⟩ e σ,ds,g1,hvl,fun a z=>.inl (R.fx a z),fun a z=>R1.oms z,al,i1,?_⟩
      cases kf:F ds g1 with
      | no=>
        rw [kf] at h1
        exact h1
      | ex y g2=>
        rw [kf] at h1
        exact fun c od H' x' i' r'=>h1 c od H' (x1.trans x') i' r'
      | ok r g2=>
        rw [kf] at h1
        exact fun v H' x' i' o'=>h1 v H' (x1.trans x') i' (ZdP R x1 i1 o')
/-- f(..),an exception may leave f -/
theorem Zhm {k:Nat} {n:Nat} {f:Addr} {fd:FuncData} {ps:List Str} {x:Str} (G:FnOk X.prog X.w X.K X.mg X.base (L2N.CX X.prog X.w) k f fd ps (spOfX B.K B.T B.fam n F)) (tk:L2N.Takes X W) (hr:Room k X.A) (hg:Gl X x) (hm:X.mg x=some (.ref f)) (hk:PySem.W.keepIn X.K (.ref f)=true) (hb:Binds X.K fd ps [])
    (ha:PA X (e :: es) (RA B W mr)) (hl:∀ e g rs g',mr e g = .ok rs g'→rs.length=n) (hdb:(x == ("__debug__" : Str))=false:=by decide) (he:starEach (e :: es) X.env=(false,eval e X.env) :: starEach es X.env:=by rfl) (hpl:(backTo pos (starEach es X.env)).any (·.1)=false:=by rfl) :
    PE X (.Call (.Name x pz) (e :: es) [] pos) (RE B W (ZeT F mr)):=
  ZaS (pe_callS G hr hg hm hk hb (fun σ=>L2N.passAt tk σ) ha hdb he hpl) fun σ H Q h=>Zhl h hl
end
section
variable {γ ι:Type} {P:Program} {w:World} {K:Frag} {mg:Str→Option Value} {base:Heap} {Tx:XT} {xa:Addr×Value×Option Addr} {fam:ι→Gho γ}
/-- THE RULE for a def that exceptions may leave -/
theorem ZiU {x qual:Str} {st:Stmt} {f:Addr} {fd:FuncData} {N ps:List Str} {k:Nat} {dvs:List V} (m:MS γ) (a b:Nat) (F:FunD K x qual (defArgs st) (defBody st) (defScope st) dvs [] f fd) (Sc:FnScope N ps (defScope st)) (ha:N.length=a) (hb':ps.length=b) (hn:b≤a)
    (hb:∀ (i:ι) (cdv:Value) (A:Around) (outer:List PySem.Env) (s:Shared) (H:Hp) (E:XK),Room k (A.deeper (envOfC qual (defScope st) s.heap.objs.size f cdv)) →
      L2N.Takes (cxOf (L2N.CX P w) P w K mg base N qual (defScope st) f cdv A outer s H E) (fun c d _ H=>E c d H) →
      PassesOwn (model P w) (cxOf (L2N.CX P w) P w K mg base N qual (defScope st) f cdv A outer s H E).A (cxOf (L2N.CX P w) P w K mg base N qual (defScope st) f cdv A outer s H E).env (cxOf (L2N.CX P w) P w K mg base N qual (defScope st) f cdv A outer s H E).xe →
      PSs (cxOf (L2N.CX P w) P w K mg base N qual (defScope st) f cdv A outer s H E) (defBody st) (RS ⟨K,Tx,fam,i,xa⟩ (fun c d _ H=>E c d H) m)) :
    FnOk P w K mg base (L2N.CX P w) (k + 1) f fd ps (spOfX K Tx fam b (Zbh a b m)):=by
  subst ha hb'
  refine F.ok Sc (fun vs H Q E h => ?_) (fun cdv A outer s H vs Q E hr h => ?_)
  · obtain ⟨i,S,ds,g,hl,_⟩:=h
    exact hl
  · obtain ⟨i,S,ds,g,hl,fx,xt,al,gh,hq⟩:=h
    refine ⟨_,hb i cdv A outer s H E hr (L2N.takes_of rfl rfl rfl rfl) (passes_of rfl),S,_,g,Zfu (A:=⟨⟨K,Tx,fam,i,xa⟩,S⟩) (N:=N) fx xt al gh (by omega),?_⟩
    have gtm:∀ (ds:List D) (m j:Nat),gt (ds.map Sl.dat ++ List.replicate m .un) j=match ds[j]? with
        | some d=>.dat d
        | none=>.un:=by
      intro ds m
      induction ds with
      | nil=>
        intro j
        simp only [List.map_nil,List.nil_append,List.getElem?_nil]
        induction m generalizing j with
        | zero=>rfl
        | succ m ih=>
          rw [List.replicate_succ]
          cases j with
          | zero=>rfl
          | succ j=>exact ih j
      | cons d ds ih=>
        intro j
        cases j with
        | zero=>rfl
        | succ j=>exact ih j
    have nown:∀ a,¬ OwnA (ds.map Sl.dat ++ List.replicate (N.length - ds.length) .un) (L2.start N vs) a:=fun a ⟨j,h1,h2⟩=>by
      rw [gtm] at h1
      split at h1 <;> cases h1
    have nmu:∀ b,¬ (fam i).F b→¬ Mu (⟨⟨K,Tx,fam,i,xa⟩,S⟩:Act γ ι) (ds.map Sl.dat ++ List.replicate (N.length - ds.length) .un) (L2.start N vs) b:=fun b n z=>z.elim n (nown b)
    have hdl:ds.length=ps.length:=by rw [← al.length]; exact hl
    unfold Zbh at hq
    rw [if_pos hdl] at hq
    rw [hdl]
    rw [hdl] at nmu nown
    cases km:m (ds.map Sl.dat ++ List.replicate (N.length - ps.length) .un) g with
    | no=>
      rw [km] at hq
      exact hq
    | ex y g1=>
      rw [km] at hq
      exact fun c od σ' H' kp i' r'=>hq c od H' (fun b o q n=>kp b o q (nmu b n)) i' r'
    | ok f g1=>
      rw [km] at hq
      cases f with
      | nx e'=>exact fun σ' H' R' s'=>hq .non H' (fun b o q n=>s'.keep b o q (nmu b n)) R'.gh .non
      | bk e'=>exact hq.elim
      | ct e'=>exact hq.elim
      | rt r=>
        intro v H' kp i' vr
        refine hq v H' (fun b o q n=>kp b o q (nmu b n)) i' ?_
        have vr':VRet (⟨⟨K,Tx,fam,i,xa⟩,S⟩:Act γ ι) _ _ H H' r v:=vr
        unfold VRet at vr'
        show FRet K S H H' r.ret v
        cases kr:r.ret with
        | dat d=>
          rw [kr] at vr'
          exact vr'
        | own es=>
          rw [kr] at vr'
          obtain ⟨p,xs,e1,h0,nx,k1,a1⟩:=vr'
          exact ⟨p,xs,e1,h0.elim (fun z=>absurd z (nown p)) id,k1,a1⟩
        | bor es=>
          rw [kr] at vr'
          exact vr'.elim
        | odt t ks vs=>
          rw [kr] at vr'
          obtain ⟨p,xs,e1,h0,nx,k1,a1⟩:=vr'
          exact ⟨p,xs,e1,h0.elim (fun z=>absurd z (nown p)) id,k1,a1⟩
        | bdt t ks vs=>
          rw [kr] at vr'
          exact vr'.elim
end
section
variable {X:Cx} {C:Addr} {bmB:List Value} {BB newId initId:String}
/-- C(e),a class without an own __init__ -/
theorem ZgS {x:Str} {e:Expr} {te:TE} {p pos:Pos} (F:ExcBaseFacts BB newId initId bmB) (ex:PySem.W.excIn X.K C bmB newId=true) (gC:X.mg x=some (.ref C)) (kC:PySem.W.keepIn X.K (.ref C)=true) (rs:Raises X (.ref C)) (hg:Gl X x) (he:PE X e te)
    (hdb:(x == ("__debug__" : Str))=false:=by decide) (hst:starEach [e] X.env=(false,eval e X.env) :: starEach [] X.env:=by rfl) (hpl:(backTo pos (starEach [] X.env)).any (·.1)=false:=by rfl) :
    L2N.PMk X (.Call (.Name x p) [e] [] pos) (fun σ H Q=>te σ H fun _ H1=>Q (.ref C) none H1):=by
  intro pins s σ H Q I h
  refine wpAny_Call_Name_kw (ld_glob I hg gC ?_ hdb)
  have pa:PA X [e] (tCons te tNil):=pa_cons he pa_nil hst
  refine PySem.W.callWith_K (h₀:=X.base) I.ok.mod.kin kC (thn (pa.run pos pins s σ H (fun vs H1=>vs.length=1∧Q (.ref C) none H1) I ?_) fun us s1 hh => ?_) hst hpl
  · show te σ H fun v H1=>[v].length=1∧Q (.ref C) none H1
    have:(fun (v:V) (H1:Hp)=>[v].length=1∧Q (.ref C) none H1)=fun _ H1=>Q (.ref C) none H1:=by
      funext v H1
      exact propext ⟨fun z=>z.2,fun z=>⟨rfl,z⟩⟩
    rw [this]
    exact h
  · obtain ⟨vs,H1,I1,r1,hl,q⟩:=hh
    refine ⟨I1.kIn,?_⟩
    have hu:us.length=1:=by rw [← r1.length]; exact hl
    obtain ⟨u,rfl⟩:=List.length_eq_one_iff.mp hu
    show wpAny _ _ (call (.ref C) [u]) _ _ _
    obtain ⟨bm,N,nm,qn,bs,hdct,sn,sub,ab,col,dd,k0,k1,k2,k3,k5,mN,hC,hN,hni,T⟩:=exc_obj I1.kIn ex
    refine wpAny_call_exc_subT F T hC hN hni (fun h2 a hm => ?_) (by show 1≤sizeLine; rw [sizeLine_eq]; omega)
    exact L2N.mk_of I1 hm rs q (I1.hok.gone hm.new)
/-- C(e),an own __init__ that keeps it -/
theorem Zhn {CX:CXT} {x:Str} {e:Expr} {es:List Expr} {ta:TA} {p pos:Pos} {fI:Addr} {k:Nat} {fd:FuncData} {ps:List Str} {sp:Sp} {ds:List Value} {dvs:List V} (T:OexC X.K C) (iC:PySem.W.findIn X.K (.ref C) "__init__" = some (some (.ref fI))) (tI:PySem.W.typeIn X.K (.ref fI)=some (.type "function"))
    (F1:FnOk X.prog X.w X.K X.mg X.base CX k fI fd ps sp) (hr:Room (k + 1) X.A) (hb:Binds X.K fd ps ds) (hd:Vals dvs ds) (hx:Passes CX X (fun _ _ _=>False)) (hg:Gl X x) (hm:X.mg x=some (.ref C)) (ha:PA X (e :: es) ta)
    (hdb:(x == ("__debug__" : Str))=false:=by decide) (hst:starEach (e :: es) X.env=(false,eval e X.env) :: starEach es X.env:=by rfl) (hpl:(backTo pos (starEach es X.env)).any (·.1)=false:=by rfl) :
    L2N.PMk X (.Call (.Name x p) (e :: es) [] pos) (tMkO C sp dvs ta):=by
  intro pins s σ H Q I h
  obtain ⟨nm,q,N,bs,bm,sn,sub,ab,col,dd,k0,k1,k2,k3,k5,hC,hbm⟩:=T.cls
  refine wpAny_Call_Name_kw (ld_glob I hg hm ?_ hdb)
  refine PySem.W.callWith_K (h₀:=X.base) I.ok.mod.kin T.kC (thn (ha.run pos pins s σ H _ I h) fun us s1 ⟨vs,H1,I1,r1,hz,q1⟩=>⟨I1.kIn,?_⟩) hst hpl
  show wpAny _ _ (call (.ref C) us) _ _ _
  obtain ⟨hp,g,dr,tk,os⟩:=s1
  have sz:hp.objs.size≤hp.objs.size + 1:=Nat.le_succ _
  have hq:=q1 (hp.objs.size + 1) (I1.hok.fresh sz)
  have kk:∀ b o,hp.get? b=some o→((hp.push (PySem.W.kdv_tup us)).push (PySem.HandSPX.excO C hp.objs.size)).get? b=some o:=fun b o e=>Heap.get?_push_of_some _ (Heap.get?_push_of_some _ e)
  have hget:((hp.push (PySem.W.kdv_tup us)).push (PySem.HandSPX.excO C hp.objs.size)).get? (hp.objs.size + 1)=some (PySem.HandSPX.excO C hp.objs.size):=by heap_get
  have I2:Inv X pins σ (upd H1 (hp.objs.size + 1) (exo (hp.objs.size + 1) C none)) ⟨(hp.push (PySem.W.kdv_tup us)).push (PySem.HandSPX.excO C hp.objs.size),g,dr,tk,os⟩:=
    I1.laid (t':=tk) (a:=hp.objs.size + 1) (o:=exo (hp.objs.size + 1) C none) (h':=(hp.push (PySem.W.kdv_tup us)).push (PySem.HandSPX.excO C hp.objs.size)) kk sz (exo_ok hget)
  have r2:Vals (V.ref (hp.objs.size + 1) :: (vs ++ dvs)) (Value.ref (hp.objs.size + 1) :: (us ++ ds)):=.cons rfl (r1.append hd)
  have hl:(Value.ref (hp.objs.size + 1) :: us ++ ds).length=ps.length:=by
    have e:=r2.length
    rw [F1.len _ _ _ _ hq] at e
    exact e.symm
  have hus:us.length≤sizeLine:=by
    rw [← Paired.length r1,sizeLine_eq]
    omega
  refine wpAny_call (PySem.HandSPX.call_own F.excBase_ValueError (fun Y=>PySem.HandSPX.refsVE_contains Y bm hbm) (I1.kIn _ _ hC) (PySem.W.looks_findIn I1.kIn iC) (fun self=>PySem.W.bind_fn I1.kIn self tI) hus
    (codeAny_mono (F1.run _ X.stack _ _ ⟨Value.ref (hp.objs.size + 1) :: us,[]⟩ (Value.ref (hp.objs.size + 1) :: (us ++ ds)) _ _ (fun _ _ _=>False) (hr.make C us []) (I2.env0.make C us []) (hb _ (Value.ref (hp.objs.size + 1) :: us) I2.kIn hl) r2 hq) fun r t hq' => ?_))
  cases r with
  | error er=>exact hx pins σ _ _ er t I2 hq'
  | ok fl=>
    cases fl with
    | ret u=>
      obtain ⟨v,H2,os2,bare2,un2,hok2,rv,ev,d,fs,ea,ed,hd1,q2⟩:=hq'
      subst ev
      obtain ⟨h2,g2,d2,t2,os'⟩:=t
      obtain ⟨t0,G,J,kG,ge,hoe,na⟩:=mk_end0 (d2:=d2) (t2:=t2) I1 sz kk un2 hok2 os2 bare2 ea ed hd1
      refine ⟨rv,hp.objs.size + 1,_,_,⟨G,g2,d2,t2,os'⟩,_,.ref C,some d,rfl,J,kG,ge,hoe,⟨rfl,rfl,fun vs hv => ?_⟩,rfl,rfl,na,rfl,bare2,raises_own T.exC T.tyC,q2⟩
      cases hv
      rfl
    | next=>exact False.elim hq'
    | brk=>exact False.elim hq'
    | cont=>exact False.elim hq'
end
/-- a class of exceptions without a def of its own -/
structure ExN (K:Frag) (mg:Str→Option Value) (x:Str) (C:Addr):Prop where
  g:mg x=some (.ref C)
  e:PySem.W.excIn K C He.veBase "ValueError.__new__" = true
  k:PySem.W.keepIn K (.ref C)=true
  sb:PySem.W.subIn K (.ref C) (.type "BaseException")=some true
  ty:PySem.W.typeIn K (.ref C)=some (.type "type")
/-- the promise of such a def: __init__ of a class at C that keeps its one argument in f -/
def spInit (C:Addr) (f:Str):Sp:=fun vs H Q _=>∃ (a:Addr) (v:V),vs=[.ref a,v]∧H a=some (exo a C none)∧∀ d,H d=none→d≠a→Q .non (upd (upd H d (exd d [(f,v)])) a (exo a C (some d)))
/-- a class of exceptions whose __init__ keeps its one argument -/
structure ExF (K:Frag) (mg:Str→Option Value) (x f:Str) (C fI:Addr) (fd:FuncData) (ps:List Str):Prop where
  g:mg x=some (.ref C)
  o:OexC K C
  no:PySem.W.findIn K (.ref C) f=some none
  i:PySem.W.findIn K (.ref C) "__init__" = some (some (.ref fI))
  t:PySem.W.typeIn K (.ref fI)=some (.type "function")
  b:Binds K fd ps []
section
variable {γ ι:Type} {B:Bs γ ι} {W:WX} {X:Cx} {pos:Pos} {a:Expr} {ma:ME γ}
theorem ZcB {x f:Str} {C fI:Addr} {fd:FuncData} {ps:List Str} {n k:Nat} {p p1:Pos} (E:ExF X.K X.mg x f C fI fd ps) (hn:B.T.cl n = .ref C) (hf:B.T.fn n=f) (F1:FnOk X.prog X.w X.K X.mg X.base CX0 k fI fd ps (spInit C f)) (hr:Room (k + 1) X.A) (hc:X.calm=true) (tk:L2N.Takes X W) (hg:Gl X x)
    (ha:PE X a (RE B W ma)) (hdb:(x == ("__debug__" : Str))=false:=by decide) (he:starEach [a] X.env=(false,eval a X.env) :: starEach [] X.env:=by rfl) (hpl:(backTo p1 (starEach [] X.env)).any (·.1)=false:=by rfl) :
    PS X (.Raise (some (.Call (.Name x p) [a] [] p1)) none pos) (RS B W (Zcw n ma)):=by
  refine Zc0 (L2N.ps_raise hc tk (Zhn (dvs:=[]) E.o E.i E.t F1 hr E.b .nil (fun _ _ _ _ _ _ _ z=>z.elim) hg E.g (pa_cons ha pa_nil he) hdb he hpl)) fun Dd σ H ⟨S,e,g,R,h⟩ => ?_
  refine ⟨S,e,g,R,RSK.bind R h fun y g1 vy H1 x1 i1 o1 h1 => ?_⟩
  refine ⟨by show 1≤1000; decide,fun b hb=>⟨b,vy,rfl,upd_same,fun d hd hdb=>⟨rfl,d,[(f,vy)],upd_same,?_,?_,?_⟩⟩⟩
  · rw [upd_ne hdb,upd_same]
  · rw [upd_ne hdb] at hd
    exact hd
  · rw [upd_ne hdb] at hd
    split at h1
    · rename_i dd
      split at h1
      · rename_i hs
        have e1:upd (del (upd (upd (upd H1 b (exo b C none)) d (exd d [(f,vy)])) b (exo b C (some d))) b) d (.xd [(f,vy)])=upd H1 d (.xd [(f,vy)]):=by
          funext c
          by_cases hcd:c=d
          · rw [hcd,upd_same,upd_same]
          · rw [upd_ne hcd,upd_ne hcd]
            by_cases hcb:c=b
            · rw [hcb,del_same,hb]
            · rw [del_ne hcb,upd_ne hcb,upd_ne hcd,upd_ne hcb]
        rw [e1]
        refine h1 (.ref C) (some d) σ _ (fun c o q n => ?_) (Gho.new i1 hd) ⟨hn.symm,d,vy,rfl,?_,ZfH o1 hs⟩
        · have q1:=x1 c o q fun z=>n (.inl z)
          rw [upd_ne (ne_of_none q1 hd)]
          exact q1
        · show upd H1 d _ d=some (.xd [(B.T.fn n,vy)])
          rw [upd_same,hf]
      · exact h1.elim
    · exact h1.elim
end
end PB
namespace PB
open PySem PySem.Spec PyProof.Rows L2
variable [Kts]
/-- what the text says of the class beneath,whose __init__ is ValueError's -/
structure ExB (K:Frag) (mg:Str→Option Value) (x:Str) (C:Addr):Prop where
  g:mg x=some (.ref C)
  r:PySem.W.readsIn K C (.type "type")=true
  s:PySem.W.specialIn K (.ref C) "__getattribute__" = some (some (.builtin "type.__getattribute__"))
  f:PySem.W.findCls K (.ref C) (.type "type") "__init__" = some (.val (.builtin "ValueError.__init__"))
section
variable {X:Cx} {e:Expr} {es:List Expr} {ta:TA} {p1 p2 pos:Pos}
theorem Zc3 {x:Str} {C:Addr} {pl:Sem Bool} (E:ExB X.K X.mg x C) (hg:Gl X x) (ha:PA X (e :: es) ta)
    (hc:eval (.Call (.Attribute (.Name x p1) "__init__" p2) (e :: es) [] pos) X.env=(do
      let ov ← eval (.Name x p1) X.env
      standAt p2.atName
      let (f,first) ← holding [ov] (getMethod ov "__init__" pl)
      callWith pos f first (backTo pos (starEach (e :: es) X.env)) (backToKw pos (keywordEach [] X.env))):=by rfl)
    (he:starEach (e :: es) X.env=(false,eval e X.env) :: starEach es X.env:=by rfl) (hpl:(backTo pos (starEach es X.env)).any (·.1)=false:=by rfl) (hdb:(x == ("__debug__" : Str))=false:=by decide) :
    PE X (.Call (.Attribute (.Name x p1) "__init__" p2) (e :: es) [] pos) (tVeI X.K ta):=by
  refine ⟨fun pins s σ H Q I h => ?_⟩
  refine PySem.W.methodCall_KW (ld_glob I hg E.g ?_ hdb) hc
  refine PySem.W.method_cls I.kIn E.s (PySem.W.cls_value I.kIn E.r E.f (by decide +kernel) ?_)
  show wpAny _ _ (callWith pos (Value.builtin "ValueError.__init__") [] (backTo pos (starEach (e :: es) X.env)) []) _ _ _
  refine PyProof.Rows.callWith_method1 (thn (ha.run pos pins _ σ H _ (I.tok _) h) fun us s1 hh => ?_) he hpl
  obtain ⟨vs,H1,I1,r1,a,D,ws,ev,hl,T,ea,q⟩:=hh
  subst ev
  cases r1 with
  | @cons _ v0 _ vr rv rw'=>
    obtain rfl:v0=Value.ref a:=rv
    have hlen:vr.length≤sizeLine:=by
      rw [← Paired.length rw',sizeLine_eq]
      omega
    exact oinit_ok T I1 ea hlen fun s' J=>⟨.non,H1,J,rfl,q⟩
end
theorem Ze3 {K:Frag} {x q:Str} {st:Stmt} {f:Addr} {fd:FuncData} (F:FunD K x q (defArgs st) (defBody st) (defScope st) [] [] f fd):Fun K x q st f fd:=by
  obtain ⟨oc,od,dV,kV,doc,pm,an,cdv,ct,osl,e,lk,hcd,hD,hK⟩:=F.ex
  rcases hD with ⟨_,rfl⟩ | ⟨e,_⟩
  · exact ⟨⟨oc,od,kV,doc,pm,an,cdv,ct,osl,e,lk,hcd⟩,F.kp⟩
  · exact absurd rfl e
end PB
namespace PB
open PySem PySem.Spec PyProof.Rows L2
variable [Kts]
/-- what is wished at a clause's end: the name is gone -/
def gone (i:Nat) (Dd:Ends):Ends:={ nx:=fun σ H=>Dd.nx (σ.set i none) H,rt:=Dd.rt,bk:=fun σ H=>Dd.bk (σ.set i none) H,ct:=fun σ H=>Dd.ct (σ.set i none) H }
abbrev XTS:=Addr→Value→Option Addr→TS
/-- what the clauses wish,from the first on; n slots -/
def wCl (K:Frag) (n i:Nat) (Wo:WX) (Dd:Ends):List (Value×XTS)→WX
  | []=>Wo
  | (k,u) :: more=>fun cls d σ H=>∃ yes,PySem.W.exmOne K cls k=some yes∧(yes=true→∀ x,H x=none→σ.length=n→u x cls d (gone i Dd) (σ.set i (some (.ref x))) H)∧(yes=false→wCl K n i Wo Dd more cls d σ H)
inductive Clauses (X:Cx) (nm:Str):List ExceptHandler→List (Value×XTS)→Prop
  | nil:Clauses X nm [] []
  | cons {y:Str} {k:Value} {u:XTS} {s0:Stmt} {ss:List Stmt} {q1 q2:Pos} {rest:List ExceptHandler} {more:List (Value×XTS)} (hk:Names X y k)
      (hu:∀ (x:Addr) (ox:Obj) (cls:Value) (d:Option Addr) (pn:List (Addr×Obj)),L2N.Zn cls d ox→(∃ fs,ox.data = .fields fs)→PSs (X.suite x ((x,ox) :: pn)) (s0 :: ss) (u x cls d)) (hm:Clauses X nm rest more) :
      Clauses X nm (.ExceptHandler (some (.Name y q1)) (some nm) (s0 :: ss) q2 :: rest) ((k,u) :: more)
section
variable {X:Cx} {nm:Str} {i:Nat} {sts:List Stmt} {c0:ExceptHandler} {cs:List ExceptHandler} {us:List (Value×XTS)} {pos:Pos} {tb:WX→TS} {Wo:WX}
theorem Zgz (h1:X.stack=X.env :: X.outer) (h2:X.env.frame=some X.env.locals) (hN:X.N.Nodup) (hi:X.N[i]?=some nm) (hl:X.env.kindOf nm=some .local) (tk:L2N.Takes X Wo)
    (body:∀ (W1:WX) (pn:List (Addr×Obj)) (xe:Value→Shared→Prop),L2N.Takes (X.tr pn xe) W1→PassesOwn (model X.prog X.w) X.A X.env xe→PSs (X.tr pn xe) sts (tb W1))
    (C:Clauses X nm (c0 :: cs) us):PS X (.Try sts (c0 :: cs) [] [] pos) (fun Dd σ H=>tb (wCl X.K X.N.length i Wo Dd us) Dd σ H):=by
  refine ⟨fun pins s σ H Dd I0 hh => ?_⟩
  have ok:=I0.ok
  have hfs:X.A.frames=some (X.env :: X.outer):=ok.frames.trans (by rw [h1])
  refine wpAny_Try_except ?_
  have inner:=body (wCl X.K X.N.length i Wo Dd us) (X.pn ++ pins)
    (fun v t1=>wpAny (model X.prog X.w) X.A (noteFrame v X.env)
      (fun _ t2=>wpAny (model X.prog X.w) X.A (setFlight v none)
        (fun _ t3=>wpAny (model X.prog X.w) X.A (handleBy v X.env (c0 :: cs)) (SP X pins Dd) X.xe t3) X.xe t2) X.xe t1)
  refine wpAny_mono ((inner (fun v t xx => ?_) PassesOwn.looking).run [] s σ H Dd (I0.toTry _) hh) (fun fl t q => ?_) (fun _ _ z=>z)
  · obtain ⟨x,G,tI,pins1,σ1,H1,cls,d,rfl,Ji,ng,up,sk,nx,os,ag,wi⟩:=xx
    have J:=Ji.ofTry ok (pins:=pins)
    have sk1:Sky G (X.env :: X.outer) x (L2N.Zn cls d) X.env.locals t.heap:=by rw [← h1]; exact sk
    show wpAny (model X.prog X.w) X.A (noteFrame (.ref x) X.env) _ _ _
    refine L2N.Sky.land L2N.Zn.steady hfs h2 sk1 fun ha fa ua => ?_
    have Ja:=J.landed (s':={ t with heap:=ha }) ng fa.1 (up.trans ua) os ag
    obtain ⟨oa,va,ga,za,da⟩:=fa.there
    have noFrame:x ∉ frs (X.env :: X.outer):=fun hm=>by
      obtain ⟨_,o1,g1,nf⟩:=fa.2.2.1.mem hm
      rw [ga] at g1
      exact nf va (by rw [← Option.some.inj g1]; exact da)
    have xL:x≠X.env.locals:=fun z=>noFrame (List.mem_filterMap.mpr ⟨X.env,List.mem_cons_self,by rw [h2,z]⟩)
    have xF:x ∉ X.fs:=fun hm=>by
      obtain ⟨v,hv,e⟩:=List.mem_filterMap.mp hm
      exact noFrame (List.mem_filterMap.mpr ⟨v,List.mem_cons_of_mem _ hv,e⟩)
    have Sa:=Ja.suite ga da nx xL xF
    have lx:σ1.length=X.N.length:=J.len
    -- one clause after another
    have go:∀ {cs1:List ExceptHandler} {us1:List (Value×XTS)},Clauses X nm cs1 us1→wCl X.K X.N.length i Wo Dd us1 cls d σ1 H1 →
        wpAny (model X.prog X.w) X.A (handleBy (.ref x) X.env cs1) (SP X pins Dd) X.xe { t with heap:=ha }:=by
      intro cs1 us1 hc
      induction hc with
      | nil=>
        intro wo
        refine wpAny_handleBy_nil ?_
        obtain ⟨_,_,_,ob,vb,T,_,_,gb,_,db,b1,_⟩:=id fa
        have out:wpAny (model X.prog X.w) X.A (setFlight (.ref x) X.env.frame) (fun _ t4=>wpAny (model X.prog X.w) X.A (throw (.ref x):Sem Flow) (SP X pins Dd) X.xe t4) X.xe { t with heap:=ha }:=by
          rw [h2]
          exact HandSPX.setFlight_upZ fa fun hb fb ub=>wpAny_throw (tk _ _ ⟨x,G,tI,pins,σ1,H1,cls,d,rfl,J,ng,(up.trans ua).trans ub,.inr (.inr (by rw [h1]; exact fb)),nx,os,ag,wo⟩)
        unfold PySem.passOn
        refine wpAny_bind (wpAny_field gb db b1 ?_)
        have nt:¬ ((Value.ref T == Value.none)=true):=by simp
        rw [if_neg nt]
        first
          | exact wpAny_bind (wpAny_pure (wpAny_bind out))
          | exact wpAny_bind out
      | @cons y k u s0 ss q1 q2 rest more hk hu hm ih=>
        intro wo
        obtain ⟨yes,e1,wy,wn⟩:=wo
        refine wpAny_handleBy_cons (codeAny_handlers_test ?_) (fun z=>nomatch z)
        have ty:PySem.W.Looks (model X.prog X.w) ha (typeOf (.ref x)) cls:=fun A1 Q1 E1 s1 k1 z=>wpAny_typeOf_ref (k1 _ _ ga) (by rw [za.1]; exact z)
        have mt:=PySem.W.exm_one (M:=model X.prog X.w) Ja.kIn ty e1
        have named:∀ {Q1:Value→Shared→Prop} {E1:Value→Shared→Prop},Q1 k { t with heap:=ha }→wpAny (model X.prog X.w) (X.A.mark (some (.ref x))) (eval (.Name y q1) X.env) Q1 E1 { t with heap:=ha }:=fun {Q1 E1} z=>by
          obtain ⟨g1,g2,g3 | ⟨g3,g4,g5⟩⟩:=hk
          · exact ld_glob (X:=X.suite x ((x,oa) :: (X.pn ++ pins))) Sa g1 g3 z g2
          · exact ld_blt (X:=X.suite x ((x,oa) :: (X.pn ++ pins))) Sa g1 g3 g4 z g5 g2
        refine named (mt.here ?_)
        cases yes with
        | false=>exact ih (wn rfl)
        | true=>
          refine codeAny_handlers_suite_as (HandSPX.lands_againZ fa fun hb fb ub => ?_)
          have Jb:=J.landed (s':={ t with heap:=hb }) ng fb.1 ((up.trans ua).trans ub) os ag
          obtain ⟨ob,vb,gb,zb,db⟩:=fb.there
          have Sb:=Jb.suite gb db nx xL xF
          refine store_ok (X:=X.suite x ((x,ob) :: (X.pn ++ pins))) (v:=.ref x) Sb hN hi (.inl hl) rfl (fun s5 S5 => ?_) (.inr hl)
          refine wpAny_mono ((hu x ob cls d (X.pn ++ pins) zb ⟨_,db⟩).run [] s5 _ H1 _ S5 (wy rfl x nx lx)) (fun fl s6 q6 => ?_) (fun _ _ z=>False.elim z)
          have close:∀ {σ6:L2.St} {H6:Hp} {Q1:Shared→Prop},Inv (X.suite x ((x,ob) :: (X.pn ++ pins))) [] σ6 H6 s6→(∀ s7,Inv X pins (σ6.set i none) H6 s7→Q1 s7) →
              wpAny (model X.prog X.w) X.A (do bindName X.env nm .none; unbindBehindTheSuite X.env nm q2) (fun _ s7=>Q1 s7) X.xe s6:=fun {σ6 H6 Q1} S6 z=>gone_ok (S6.unsuite ok) hN hi hl z
          cases fl with
          | next=>
            obtain ⟨σ6,H6,S6,z⟩:=q6
            exact close S6 fun _ J7=>⟨_,_,J7,z⟩
          | ret u6=>
            obtain ⟨v6,σ6,H6,S6,r6,z⟩:=q6
            exact close S6 fun _ J7=>⟨_,_,_,J7,r6,z⟩
          | brk=>
            obtain ⟨σ6,H6,S6,z⟩:=q6
            exact close S6 fun _ J7=>⟨_,_,J7,z⟩
          | cont=>
            obtain ⟨σ6,H6,S6,z⟩:=q6
            exact close S6 fun _ J7=>⟨_,_,J7,z⟩
    exact go C wi
  · cases fl with
    | next=>
      obtain ⟨σ1,H1,J1,z⟩:=q
      exact wpAny_execs_nil ⟨σ1,H1,J1.ofTry ok,z⟩
    | ret u=>
      obtain ⟨v,σ1,H1,J1,r,z⟩:=q
      exact ⟨v,σ1,H1,J1.ofTry ok,r,z⟩
    | brk=>
      obtain ⟨σ1,H1,J1,z⟩:=q
      exact ⟨σ1,H1,J1.ofTry ok,z⟩
    | cont=>
      obtain ⟨σ1,H1,J1,z⟩:=q
      exact ⟨σ1,H1,J1.ofTry ok,z⟩
end
end PB
namespace PB
open PySem PySem.Spec PyProof.Rows L2
variable [Kts]
/-- in a suite: the caught exception's address,class,dict -/
abbrev Bs.at {γ ι:Type} (B:Bs γ ι) (xa:Addr×Value×Option Addr):Bs γ ι:=⟨B.K,B.T,B.fam,B.i,xa⟩
section
variable {γ ι:Type} {B:Bs γ ι} {W:WX} {X:Cx} {pos:Pos}
theorem Zex (n i j:Nat) (s:Sl):gt (st (List.replicate n .un) i s) j=if j=i∧i < n then s else .un:=by
  have rep:∀ n j,gt (List.replicate n Sl.un) j = .un:=by
    intro n
    induction n with
    | zero=>intro j; rfl
    | succ n ih=>
      intro j
      rw [List.replicate_succ]
      cases j with
      | zero=>rfl
      | succ j=>exact ih j
  rw [ZaO,List.length_replicate,rep]
theorem Zd9 (f:Sl→Sl) (hf:f .un = .un):∀ (e:Env) (j:Nat),gt (e.map f) j=f (gt e j)
  | [],j=>hf.symm
  | s :: r,0=>rfl
  | s :: r,j + 1=>Zd9 f hf r j
/-- the suite's beginning -/
theorem Rep.suite {S:Addr→Prop} {e:Env} {g g1:γ} {σ σ1:L2.St} {H H1:Hp} {n i:Nat} {x:Xn} {a:Addr} {c:Value} {d:Option Addr} (R:Rep ⟨B,S⟩ e g σ H) (kp:∀ b o,H b=some o→¬ Mu (⟨B,S⟩:Act γ ι) e σ b→H1 b=some o) (gh:(B.fam B.i).I g1 H1) (ok:XOk B.T x c d H1) (hl:σ1.length=n) (hi:i < n) :
    Rep ⟨B.at (a,c,d),S⟩ (st (List.replicate n .un) i (.xc x)) g1 (σ1.set i (some (.ref a))) H1 where
  len:=by rw [List.length_set,Zb2,List.length_replicate,hl]
  sl:=fun j=>by
    rw [Zex]
    by_cases h:j=i∧i < n
    · rw [if_pos h,ZaP,if_pos ⟨h.1,by rw [hl]; exact h.2⟩]
      exact ⟨rfl,ok⟩
    · rw [if_neg h]
      trivial
  inj:=fun j k p h1 h2 _ _=>by
    rw [Zex] at h1
    split at h1 <;> cases h1
  nx:=fun b z=>by
    obtain ⟨j,h1,_⟩:=z
    rw [Zex] at h1
    split at h1 <;> cases h1
  gh:=gh
  fx:=R.fx
  xs:=fun b z=>by
    by_cases f:(B.fam B.i).F b
    · exact (B.fam B.i).stk _ _ _ gh f
    · exact (R.xs b z).same fun u q=>kp b u q fun y=>y.elim f fun y=>R.nx b y z
theorem ZgT {n i:Nat} {x:Xn} {σ:L2.St} {b:Addr}:¬ OwnA (st (List.replicate n .un) i (.xc x)) σ b:=fun ⟨j,h1,_⟩=>by
  rw [Zex] at h1
  split at h1 <;> cases h1
/-- the suite's end -/
theorem ZeN {e1:Env} {σ2:L2.St} {i:Nat} {b:Addr} (hl:σ2.length=e1.length) (h:OwnA ((st e1 i .un).map noX) (σ2.set i none) b):OwnA e1 σ2 b:=by
  obtain ⟨j,h1,h2⟩:=h
  rw [Zd9 noX rfl,ZaO] at h1
  rw [ZaP] at h2
  by_cases q:j=i∧i < e1.length
  · rw [if_pos q] at h1
    cases h1
  · rw [if_neg q] at h1
    rw [hl,if_neg q] at h2
    refine ⟨j,?_,h2⟩
    cases k:gt e1 j with
    | own es=>rfl
    | owd t ks vs=>rfl
    | _=>
      rw [k] at h1
      cases h1
theorem Rep.gone {S:Addr→Prop} {e1:Env} {g2:γ} {σ2:L2.St} {H2:Hp} {i:Nat} {xa:Addr×Value×Option Addr} (R:Rep ⟨B.at xa,S⟩ e1 g2 σ2 H2):Rep ⟨B,S⟩ ((st e1 i .un).map noX) g2 (σ2.set i none) H2 where
  len:=by rw [List.length_set,List.length_map,Zb2,R.len]
  sl:=fun j=>by
    rw [Zd9 noX rfl,ZaO,ZaP,R.len]
    by_cases q:j=i∧i < e1.length
    · rw [if_pos q]
      trivial
    · rw [if_neg q,if_neg q]
      have sl:=R.sl j
      have less:∀ b,Om (⟨B,S⟩:Act γ ι) ((st e1 i .un).map noX) (σ2.set i none) b→Om (⟨B.at xa,S⟩:Act γ ι) e1 σ2 b:=fun b z=>z.elim .inl fun z=>.inr (ZeN R.len z)
      cases k:gt e1 j with
      | un=>trivial
      | dat d=>
        rw [k] at sl
        obtain ⟨v,e,a⟩:=sl
        exact ⟨v,e,a.less less⟩
      | own ds=>
        rw [k] at sl
        obtain ⟨p,xs,e,q2,a⟩:=sl
        exact ⟨p,xs,e,q2,a.less less⟩
      | xc y=>trivial
      | gh y=>
        rw [k] at sl
        exact sl
      | owd tt ks vs=>
        rw [k] at sl
        obtain ⟨p,us,e,q2,a⟩:=sl
        exact ⟨p,us,e,q2.less less,a.less less⟩
  inj:=fun j k p h1 h2 h3 h4=>by
    rw [Zd9 noX rfl,ZaO] at h1 h2
    rw [ZaP,R.len] at h3 h4
    have rd:∀ {l},(noX (gt e1 l)).hs=true→(gt e1 l).hs=true:=fun {l} z=>by
      cases k:gt e1 l with
      | own es=>rfl
      | owd t ks vs=>rfl
      | _=>
        rw [k] at z
        cases z
    by_cases q1:j=i∧i < e1.length
    · rw [if_pos q1] at h1
      cases h1
    · by_cases q2:k=i∧i < e1.length
      · rw [if_pos q2] at h2
        cases h2
      · rw [if_neg q1] at h1 h3
        rw [if_neg q2] at h2 h4
        exact R.inj j k p (rd h1) (rd h2) h3 h4
  nx:=fun b z=>R.nx b (ZeN R.len z)
  gh:=R.gh
  fx:=R.fx
  xs:=R.xs
/-- a clause: the class it names,the numbers of the classes that it takes among al,its suite -/
inductive Hds (B:Bs γ ι) (X:Cx) (al:List Nat) (nm:Str):List ExceptHandler→List (List Nat×MS γ)→Prop
  | nil:Hds B X al nm [] []
  | cons {y:Str} {k:Value} {cs:List Nat} {m:MS γ} {s0:Stmt} {ss:List Stmt} {q1 q2:Pos} {rest:List ExceptHandler} {more:List (List Nat×MS γ)} (hk:Names X y k) (hx:∀ z∈al,PySem.W.exmOne X.K (B.T.cl z) k=some (cs.contains z))
      (hu:∀ (x:Addr) (ox:Obj) (cls:Value) (d:Option Addr) (pn:List (Addr×Obj)),L2N.Zn cls d ox→(∃ fs,ox.data = .fields fs)→PSs (X.suite x ((x,ox) :: pn)) (s0 :: ss) (RS (B.at (x,cls,d)) W0 m)) (hm:Hds B X al nm rest more) :
      Hds B X al nm (.ExceptHandler (some (.Name y q1)) (some nm) (s0 :: ss) q2 :: rest) ((cs,m) :: more)
end
end PB
namespace PB
open PySem PySem.Spec PyProof.Rows L2
variable [Kts]
section
variable {γ ι:Type}
/-- such a def,called in a suite -/
structure FnK (P:Program) (w:World) (K:Frag) (mg:Str→Option Value) (base:Heap) (T:XT) (fam:ι→Gho γ) (k:Nat) (f:Addr) (fd:FuncData) (ps:List Str) (F:MX γ):Prop where
  len:ps.length=1
  run:∀ (A:Around) (outer:List PySem.Env) (s:Shared) (H:Hp) (args:Args) (us:List Value) (Q:VK) (a:Addr) (ox:Obj) (c:Value) (d:Option Addr) (x:Xn) (i:ι) (S:Addr→Prop) (g:γ),L2H.RoomH k A→L2H.Hot1 A (a,ox)→L2H.PinOk outer H s (a,ox)→L2N.Zn c d ox→(∃ fs,ox.data = .fields fs)→Env0 P w K mg base A outer s H →
    BindsTo s fd args (ps.zip us)→Vals [.ref a] us→(∀ b,(fam i).F b→S b)→(∀ b,S b→Stk (H b))→XOk T x c d H→(fam i).I g H →
    (match F x g with
      | .ok r g'=>∀ v H',(∀ b o,H b=some o→¬ (fam i).F b→H' b=some o)→(fam i).I g' H'→FRet K S H H' r v→Q v H'
      | _=>False)→codeAny (model P w) A (.call (.ref f) args) (CR CX0 outer P w H s Q E0) s
end
section
variable {γ ι:Type} {P:Program} {w:World} {K:Frag} {mg:Str→Option Value} {base:Heap} {Tx:XT} {fam:ι→Gho γ}
theorem ZiV {x qual:Str} {sm:Stmt} {f:Addr} {fd:FuncData} {N:List Str} {y:Str} {k:Nat} (m:MS γ) (n:Nat) (F:Fun K x qual sm f fd) (Sc:FnScope N [y] (defScope sm)) (hn:N.length=n + 1)
    (hb:∀ (i:ι) (cdv:Value) (A:Around) (outer:List PySem.Env) (s:Shared) (H:Hp) (a:Addr) (ox:Obj) (c:Value) (d:Option Addr),L2H.RoomH k (A.deeper (envOfC qual (defScope sm) s.heap.objs.size f cdv))→L2H.Hot1 A (a,ox)→L2N.Zn c d ox→(∃ fs,ox.data = .fields fs) →
      PSs (L2H.cxH CX0 P w K mg base N qual (defScope sm) f cdv A outer s H E0 (a,ox)).nox (defBody sm) (RS ⟨K,Tx,fam,i,(a,c,d)⟩ W0 m)) :
    FnK P w K mg base Tx fam (k + 1) f fd [y] (Zgo n m):=by
  obtain ⟨oc,od,kV,doc,pm,an,cdv,ct,osl,rfl,lk,hcd⟩:=F.ex
  refine ⟨rfl,fun A outer s H args us Q a ox c d xx i S g hr hot hpin hz hf e0 hbi r fx xs ok gh hq => ?_⟩
  have KX:K.In s.heap:=e0.mod.kin.keeps fun b o z=>(e0.bs b o z).1
  have lim:s.heap.NoLimit:=e0.mod.nolimit.keeps fun b o z=>(e0.bs b o z).1
  have knd:∀ z∈[y].zip us,(defScope sm).names.lookup z.1=some .local∨((defScope sm).names.lookup z.1=some .cell∧((cellsFrom (s.heap.objs.size + 1) (defScope sm).names []).lookup z.1).isSome=true):=fun ⟨z,v⟩ hz'=>by
    rcases Sc.par z (List.of_mem_zip hz').1 with q | q
    · exact .inl q
    · exact .inr ⟨q,PySem.W.cellsFrom_some _ _ _ (.inl q)⟩
  refine codeAny_call_function hr.depth (KX _ _ lk) rfl Sc.co Sc.gen rfl (PySem.W.codeRec_of KX hcd) (hbi _ _ _ _ ?_)
  refine wpAny_newFunctionEnv_cells Sc.kind knd fun env he s1 start => ?_
  subst he
  refine ⟨lim.keeps start.toInCall.keep,codeAny_func ?_⟩
  have hl:([V.ref a]:List V).length=[y].length:=rfl
  have I:Inv (L2H.cxH CX0 P w K mg base N qual (defScope sm) f cdv A outer s H E0 (a,ox)) [] (L2.start N [.ref a]) H s1:=L2H.inv_startH Sc hpin e0 hl r start
  have es:L2.start N [V.ref a]=(List.replicate N.length none).set 0 (some (V.ref a)):=by
    unfold L2.start
    rw [hn]
    rfl
  have ee:(Sl.xc xx :: List.replicate n .un)=PB.st (List.replicate (n + 1) .un) 0 (.xc xx):=rfl
  have R:Rep (⟨⟨K,Tx,fam,i,(a,c,d)⟩,S⟩:Act γ ι) (Sl.xc xx :: List.replicate n .un) g (L2.start N [.ref a]) H:=by
    rw [es,ee]
    exact {
      len:=by rw [List.length_set,Zb2,List.length_replicate,List.length_replicate,hn]
      sl:=fun j=>by
        rw [Zex,ZaP,List.length_replicate,hn]
        by_cases h:j=0∧0 < n + 1
        · rw [if_pos h,if_pos h]
          exact ⟨rfl,ok⟩
        · rw [if_neg h]
          trivial
      inj:=fun j k p h1 _ _ _=>by
        rw [Zex] at h1
        split at h1 <;> cases h1
      nx:=fun b z=>absurd z ZgT
      gh:=gh
      fx:=fx
      xs:=xs }
  have nown:∀ b,¬ OwnA (Sl.xc xx :: List.replicate n .un) (L2.start N [.ref a]) b:=fun b=>by
    rw [ee]
    exact ZgT
  have nmu:∀ b,¬ (fam i).F b→¬ Mu (⟨⟨K,Tx,fam,i,(a,c,d)⟩,S⟩:Act γ ι) (Sl.xc xx :: List.replicate n .un) (L2.start N [.ref a]) b:=fun b z y=>y.elim z (nown b)
  have body:RSK (⟨⟨K,Tx,fam,i,(a,c,d)⟩,S⟩:Act γ ι) W0 (Sl.xc xx :: List.replicate n .un) (L2.start N [.ref a]) H (m (Sl.xc xx :: List.replicate n .un) g) { nx:=fun _ H'=>Q .non H',rt:=Q }:=by
    unfold Zgo at hq
    cases km:m (Sl.xc xx :: List.replicate n .un) g with
    | no=>
      rw [km] at hq
      exact hq
    | ex z g1=>
      rw [km] at hq
      exact hq.elim
    | ok fl g1=>
      rw [km] at hq
      cases fl with
      | nx e'=>exact fun σ' H' R' s'=>hq .non H' (fun b o q z=>s'.keep b o q (nmu b z)) R'.gh .non
      | bk e'=>exact hq.elim
      | ct e'=>exact hq.elim
      | rt r=>
        intro v H' kp i' vr
        refine hq v H' (fun b o q z=>kp b o q (nmu b z)) i' ?_
        unfold VRet at vr
        show FRet K S H H' r.ret v
        cases kr:r.ret with
        | dat dd=>
          rw [kr] at vr
          exact vr
        | own es=>
          rw [kr] at vr
          obtain ⟨p,ys,e1,h0,_,k1,a1⟩:=vr
          exact ⟨p,ys,e1,h0.elim (fun z=>absurd z (nown p)) id,k1,a1⟩
        | bor es=>
          rw [kr] at vr
          exact vr.elim
        | odt t ks vs=>
          rw [kr] at vr
          obtain ⟨p,ys,e1,h0,_,k1,a1⟩:=vr
          exact ⟨p,ys,e1,h0.elim (fun z=>absurd z (nown p)) id,k1,a1⟩
        | bdt t ks vs=>
          rw [kr] at vr
          exact vr.elim
  have ht:=(hb i cdv A outer s H a ox c d (hr.deeper _) hot hz hf).nox
  refine wpAny_mono (ht.run [] s1 (L2.start N [.ref a]) H _ I ⟨S,_,g,R,body⟩) (fun fl s' hs => ?_) fun _ _ hs=>hs
  have fin:∀ {σ':L2.St} {H':Hp} {v:V} {u:Value},Inv (L2H.cxH CX0 P w K mg base N qual (defScope sm) f cdv A outer s H E0 (a,ox)) [] σ' H' s'→RelV v u→Q v H'→CE outer P w H s Q u s':=
    fun {σ' H' v u} J rv q=>⟨v,H',J.os,J.bare,J.base,J.hok,rv,q⟩
  cases fl with
  | ret u=>
    obtain ⟨v,σ',H',J,rv,q⟩:=hs
    exact fin J rv q
  | next=>
    obtain ⟨σ',H',J,q⟩:=hs
    exact fin (v:=V.non) (u:=Value.none) J rfl q
  | brk=>
    obtain ⟨_,_,_,q⟩:=hs
    exact q.elim
  | cont=>
    obtain ⟨_,_,_,q⟩:=hs
    exact q.elim
end
def rIsK (K:Frag) (a:Addr) (c:Value) (d:Option Addr):List V→Hp→VK→Prop:=fun xs H Q=>∃ (D:Addr) (k:V) (kv:Value) (b:Bool),c = .ref D∧L2.ExcC K D∧xs=[.ref a,k]∧(∀ u,RelV k u→u=kv)∧PySem.W.kitOne K (.ref D) kv=some b∧(∀ p,d=some p→∃ fs,H p=some (.xd fs))∧Q (.bl b) H
theorem Zho {X:Cx} {a:Addr} {ox:Obj} {c:Value} {d:Option Addr} (hp:(a,ox)∈X.pn) (hz:L2N.Zn c d ox) (hf:∃ fs,ox.data = .fields fs):CallR X (.builtin "isinstance") (rIsK X.K a c d):=by
  intro pins s σ H xs us Q I r h
  obtain ⟨D,k,kv,b,rfl,C,rfl,hk,e,hd,q⟩:=h
  cases r with
  | cons ra rr=>
    cases rr with
    | cons rk rr=>
      cases rr
      cases ra
      have ek:=hk _ rk
      subst ek
      obtain ⟨hget,_⟩:=I.pin (a,ox) (List.mem_append_left _ hp)
      obtain ⟨fs,hv⟩:=hf
      have J:∃ od,PySem.W.InstAt s.heap a ox D od:=by
        obtain ⟨oc,o2,oda,osl⟩:=ox
        obtain ⟨z1,z2,_⟩:=hz
        dsimp only at z1 z2 hv
        subst z1 z2 hv
        cases o2 with
        | none=>exact ⟨none,hget,rfl,rfl,trivial⟩
        | some p=>
          obtain ⟨gs,hg⟩:=hd p rfl
          obtain ⟨mA,hns,_⟩:=(I.hok p _ hg:ObjOk X.prog X.w H s.heap p (.xd gs))
          obtain ⟨ob,hob,_⟩:=lookIn_ns hns
          exact ⟨some ob,hget,rfl,rfl,hob⟩
      obtain ⟨od,J⟩:=J
      have hcl:(PySem.W.clsIn X.K D).isSome=true:=by
        obtain ⟨cd,hcd,_⟩:=PySem.W.any_some C.hd
        rw [hcd]
        rfl
      exact PySem.W.kia_one (PySem.W.kitx_exc hcl C.hg C.hk C.hs C.ha C.hn C.ht C.hm) I.kIn J e (fun z=>nomatch z) fun tk=>⟨.bl b,H,I.kept (t':=tk) fun _ _ z=>z,rfl,q⟩
section
variable {γ ι:Type} {B:Bs γ ι} {W:WX} {X:Cx} {pos:Pos}
/-- isinstance(x,T): T an expression that is a class -/
theorem Zba {i:Nat} {x:Str} {al cs:List Nat} {tv:V} {tu:Value} {te:Expr} {a:Addr} {ox:Obj} {c:Value} {d:Option Addr} {p p2:Pos} (hB:B.xa=(a,c,d)) (hp:(a,ox)∈X.pn) (hz:L2N.Zn c d ox) (hf:∃ fs,ox.data = .fields fs) (hN:X.N[i]?=some x) (hg:Gl X "isinstance") (hm:X.mg "isinstance" = none)
    (ht:PE X te (tC tv)) (hr:∀ u,RelV tv u→u=tu) (hC:∀ n∈al,∃ D,B.T.cl n = .ref D∧L2.ExcC X.K D∧PySem.W.kitOne X.K (.ref D) tu=some (cs.contains n))
    (hv:Vis X.env.scope x:=by first | exact Or.inl rfl | exact Or.inr (Or.inl rfl)) (hdb:(x == ("__debug__" : Str))=false:=by decide) (hcd:(x == ("__classdict__" : Str))=false:=by decide)
    (hs:starEach [.Name x p2,te] X.env=(false,eval (.Name x p2) X.env) :: starEach [te] X.env:=by rfl) (hs2:starEach [te] X.env=(false,eval te X.env) :: starEach [] X.env:=by rfl) (hpl:(backTo pos (starEach [te] X.env)).any (·.1)=false:=by rfl) :
    PE X (.Call (.Name "isinstance" p) [.Name x p2,te] [] pos) (RE B W (Zb1 al cs i)):=by
  refine ZaS (pe_callB (Zho hp hz hf) hg hm (by decide +kernel) (pa_cons (pe_var hN hv hdb hcd) (pa_cons ht pa_nil hs2) hs) (by decide) (by decide) hs hpl) fun σ H Q ⟨S,e,g,R,h⟩ => ?_
  unfold Zb1 at h
  split at h
  · rename_i y hy
    split at h
    · rename_i ha
      have sl:=R.sl i
      rw [hy] at sl
      obtain ⟨s1,ok⟩:=sl
      have s1:σ[i]?=some (some (.ref B.xa.1)):=s1
      have ok:XOk B.T y B.xa.2.1 B.xa.2.2 H:=ok
      rw [hB] at s1 ok
      obtain ⟨D,e1,C,e2⟩:=hC y.cls (by simpa using ha)
      have ec:c = .ref D:=ok.1.trans e1
      refine ⟨.ref a,s1,D,tv,tu,_,ec,C,rfl,hr,e2,fun q hq => ?_,h _ H (.refl H) R.gh (.bl _)⟩
      have ok2:=ok.2
      cases hfl:y.fld with
      | none=>
        rw [hfl] at ok2
        have:d=none:=ok2
        rw [this] at hq
        cases hq
      | some dd=>
        rw [hfl] at ok2
        obtain ⟨q2,v,e3,e4,_⟩:=ok2
        have:d=some q2:=e3
        rw [this] at hq
        cases hq
        exact ⟨_,e4⟩
    · exact h.elim
  · exact h.elim
/-- x.f -/
theorem ZjC {i n:Nat} {x f:Str} {C a:Addr} {ox:Obj} {c:Value} {d:Option Addr} {pn:List (Addr×Obj)} {p2:Pos} (E:XfC X.K C) (hno:PySem.W.findIn X.K (.ref C) f=some none) (hB:B.xa=(a,c,d)) (hn:B.T.cl n = .ref C) (hf':B.T.fn n=f) (hz:L2N.Zn c d ox) (hf:∃ fs,ox.data = .fields fs) (hN:X.N[i]?=some x)
    (hv:Vis X.env.scope x:=by first | exact Or.inl rfl | exact Or.inr (Or.inl rfl)) (hdb:(x == ("__debug__" : Str))=false:=by decide) (hcd:(x == ("__classdict__" : Str))=false:=by decide) (hb:attributeBase (.Name x p2) f X.env (eval (.Name x p2) X.env)=eval (.Name x p2) X.env:=by rfl) :
    PE (X.suite a ((a,ox) :: pn)) (.Attribute (.Name x p2) f pos) (RE B W (mXf n i)):=by
  refine ZaS (pe_xf E hno hz.zc hf (pe_var (X:=X.suite a ((a,ox) :: pn)) hN hv hdb hcd) hb) fun σ H Q ⟨S,e,g,R,h⟩ => ?_
  unfold mXf at h
  split at h
  · rename_i y hy
    have sl:=R.sl i
    rw [hy] at sl
    obtain ⟨s1,ok⟩:=sl
    have s1:σ[i]?=some (some (.ref B.xa.1)):=s1
    have ok:XOk B.T y B.xa.2.1 B.xa.2.2 H:=ok
    rw [hB] at s1 ok
    have ok2:=ok.2
    split at h
    · rename_i dd hfl
      split at h
      · rename_i hc
        rw [hfl] at ok2
        obtain ⟨q,v,e3,e4,sv⟩:=ok2
        have e4:H q=some (.xd [(B.T.fn y.cls,v)]):=e4
        rw [hc,hf'] at e4
        refine ⟨.ref a,s1,rfl,ok.1.trans (by rw [hc,hn]),q,_,v,e3,e4,by simp [List.lookup],h v H (.refl H) R.gh sv.at⟩
      · exact h.elim
    · exact h.elim
  · exact h.elim
theorem Zfv {X:Cx} {a:Addr} {ox:Obj} {c:Value} {d:Option Addr} {pn:List (Addr×Obj)} (hz:L2N.Zn c d ox) (hf:∃ fs,ox.data = .fields fs):L2H.Hot1 (X.suite a ((a,ox) :: pn)).A (a,ox):=by
  obtain ⟨fs,e⟩:=hf
  exact ⟨rfl,fs,e,hz.2.2 fs e⟩
/-- f(x) -/
theorem Zhp {i k:Nat} {f:Addr} {fd:FuncData} {ps:List Str} {F:MX γ} {fx x:Str} {a:Addr} {ox:Obj} {c:Value} {d:Option Addr} {pn:List (Addr×Obj)} {pz p2:Pos} (G:FnK X.prog X.w X.K X.mg X.base B.T B.fam k f fd ps F) (hK:B.K=X.K) (hB:B.xa=(a,c,d)) (hz:L2N.Zn c d ox) (hf:∃ fs,ox.data = .fields fs) (hr:Room k X.A) (hg:Gl X fx) (hm:X.mg fx=some (.ref f)) (hk:PySem.W.keepIn X.K (.ref f)=true) (hbi:Binds X.K fd ps []) (hN:X.N[i]?=some x)
    (hv:Vis X.env.scope x:=by first | exact Or.inl rfl | exact Or.inr (Or.inl rfl)) (hdb:(x == ("__debug__" : Str))=false:=by decide) (hcd:(x == ("__classdict__" : Str))=false:=by decide) (hdf:(fx == ("__debug__" : Str))=false:=by decide)
    (he:starEach [.Name x p2] X.env=(false,eval (.Name x p2) X.env) :: starEach [] X.env:=by rfl) (hpl:(backTo pos (starEach [] X.env)).any (·.1)=false:=by rfl) :
    PE (X.suite a ((a,ox) :: pn)) (.Call (.Name fx pz) [.Name x p2] [] pos) (RE B W (ZfC F i)):=by
  refine ⟨fun pins s σ H Q I ⟨S,e,g,R,h⟩ => ?_⟩
  unfold ZfC at h
  split at h
  · rename_i y hy
    have sl:=R.sl i
    rw [hy] at sl
    obtain ⟨s1,ok⟩:=sl
    have s1:σ[i]?=some (some (.ref B.xa.1)):=s1
    have ok:XOk B.T y B.xa.2.1 B.xa.2.2 H:=ok
    rw [hB] at s1 ok
    have av:PA (X.suite a ((a,ox) :: pn)) [.Name x p2] (tCons (tVar i) tNil):=pa_cons (pe_var (X:=X.suite a ((a,ox) :: pn)) hN hv hdb hcd) pa_nil he
    refine wpAny_Call_Name_kw (ld_glob (X:=X.suite a ((a,ox) :: pn)) I hg hm ?_ hdf)
    refine PySem.W.callWith_K (h₀:=X.base) I.ok.mod.kin hk (thn (av.run pos pins s σ H (fun vs H1=>vs=[V.ref a]∧H1=H) I ⟨.ref a,s1,rfl,rfl⟩) fun us s2 ⟨vs,H2,I2,r,ev,eH⟩=>⟨I2.kIn,?_⟩) he hpl
    subst ev eH
    have hl:us.length=ps.length:=by rw [← r.length,G.len]; rfl
    have bi:=hbi s2 us I2.kIn (by rw [List.append_nil]; exact hl)
    rw [List.append_nil] at bi
    have P1:=I2.pin (a,ox) (List.mem_append_left _ List.mem_cons_self)
    have hpin:L2H.PinOk (X.suite a ((a,ox) :: pn)).stack H2 s2 (a,ox):=⟨P1.1,P1.2.1,fun hm=>(List.mem_cons.mp (I2.stkSub a hm)).elim P1.2.2.1 P1.2.2.2.1,P1.2.2.2.2⟩
    refine wpAny_call (codeAny_mono (G.run (X.suite a ((a,ox) :: pn)).A (X.suite a ((a,ox) :: pn)).stack s2 H2 ⟨us,[]⟩ us Q a ox c d y B.i (Om ⟨B,S⟩ e σ) g ⟨hr.dp,hr.un⟩ (Zfv hz hf) hpin hz hf I2.env0 bi r (fun b z=>.inl (R.fx b z)) (fun b z=>R.oms z) ok R.gh ?_) fun r2 s3 hq => ?_)
    · cases kf:F y g with
      | ok r g2=>
        rw [kf] at h
        intro v H' x' i' o'
        refine h v H' x' i' ?_
        have o2:FRet B.K (Om ⟨B,S⟩ e σ) H2 H' r v:=by rw [hK]; exact o'
        exact ZdP R (.refl H2) R.gh o2
      | ex z g2=>
        rw [kf] at h
        exact h.elim
      | no=>
        rw [kf] at h
        exact h.elim
    · cases r2 with
      | error er=>exact hq.elim
      | ok fl=>
        cases fl with
        | ret u=>exact I2.after hq
        | next=>exact hq.elim
        | brk=>exact hq.elim
        | cont=>exact hq.elim
  · exact h.elim
end
end PB
namespace PB
open PySem PySem.Spec PyProof.Rows L2
variable [Kts]
def exName:Nat→Str
  | 0 => "BendError" | 1 => "NoWord" | 2 => "NoText" | 3 => "NoFraction" | 4 => "NoPrice" | 5 => "NoPoint" | 6 => "NotLeast" | 7 => "NoLine" | 8 => "NothingDone"
  | 9 => "NotOn" | 10 => "TooLong" | 11 => "TooMany" | 12 => "NoNumber" | _ => "NoName"
def exFld:Nat→Str
  | 9 => "word" | 10 => "letters" | 11 => "many" | 12 => "number" | _ => "name"
def exT (K:Frag):XT:=⟨fun n=>.ref (He.ga K (exName n)),exFld⟩
def clsAt (K:Frag) (x:Str):Bool:=He.eqO (PySem.W.nsIn K mainGlobals x) (some (some (.ref (He.ga K x))))
theorem Zc4 {K:Frag} {h:Heap} {mg:Str→Option Value} (X:K.In h) (G:h.Ns mainGlobals mg) {x:Str} (c:clsAt K x=true):mg x=some (.ref (He.ga K x)):=PySem.W.mg_of X G (He.eqO_ok c)
def exnB (K:Frag) (x:Str):Bool:=clsAt K x && (PySem.W.excIn K (He.ga K x) He.veBase "ValueError.__new__" && (PySem.W.keepIn K (.ref (He.ga K x)) && (decide (PySem.W.subIn K (.ref (He.ga K x)) (.type "BaseException")=some true) && decide (PySem.W.typeIn K (.ref (He.ga K x))=some (.type "type")))))
theorem ZbX {K:Frag} {h:Heap} {mg:Str→Option Value} (X:K.In h) (G:h.Ns mainGlobals mg) {x:Str} (c:exnB K x=true):ExN K mg x (He.ga K x):=by
  unfold exnB at c
  simp only [Bool.and_eq_true,decide_eq_true_eq] at c
  exact ⟨Zc4 X G c.1,c.2.1,c.2.2.1,c.2.2.2.1,c.2.2.2.2⟩
/-- the object of a class of exceptions -/
def oexO (C:Addr) (o:Obj):Bool:=match o with
  | ⟨.type t,_,.cls cd,sl⟩=>(match cd.mro,sl.toList with
    | .ref D :: bm,[_,_,_,_,some (.builtin n),_]=>decide (t = "type") && (decide (D=C) && (decide (n = "ValueError.__new__") && (!cd.hasDel && (cd.hasDict && PySem.HandSPX.refsVE bm))))
    | _,_=>false)
  | _=>false
theorem Zib {C:Addr} {o:Obj} (h:oexO C o=true):∃ nm q N bs bm sn sub ab col dd k0 k1 k2 k3 k5,o=excClassObj nm q C N bs bm true sn sub ab col dd k0 k1 k2 k3 k5 "ValueError.__new__" ∧ PySem.HandSPX.refsVE bm=true:=by
  unfold oexO at h
  split at h
  · rename_i t dd cd sl
    split at h
    · rename_i D bm k0 k1 k2 k3 n k5 hm hs
      simp only [Bool.and_eq_true,decide_eq_true_eq,Bool.not_eq_true'] at h
      obtain ⟨rfl,rfl,rfl,h1,h2,h3⟩:=h
      obtain ⟨nm,bs,mro,ns,qn,hd,sn,sub,ab,col,del⟩:=cd
      dsimp only at hm h1 h2
      subst hm h1 h2
      have hsl:sl = #[k0,k1,k2,k3,some (.builtin "ValueError.__new__"),k5]:=by
        obtain ⟨l⟩:=sl
        simp only at hs
        rw [hs]
      subst hsl
      exact ⟨nm,qn,ns,bs,bm,sn,sub,ab,col,dd,k0,k1,k2,k3,k5,rfl,h3⟩
    · cases h
  · cases h
def exfB (K:Frag) (x f:Str):Bool:=clsAt K x && ((match K.lookup (He.ga K x) with | some o=>oexO (He.ga K x) o | none=>false) && (decide (PySem.W.findIn K (.ref (He.ga K x)) "__setattr__" = some (some (.builtin "object.__setattr__"))) && (decide (PySem.W.subIn K (.ref (He.ga K x)) (.type "BaseException")=some true) &&
  (decide (PySem.W.typeIn K (.ref (He.ga K x))=some (.type "type")) && (PySem.W.keepIn K (.ref (He.ga K x)) && (decide (PySem.W.findIn K (.ref (He.ga K x)) f=some none) && (decide (PySem.W.findIn K (.ref (He.ga K x)) "__init__" = some (some (.ref (He.ma K (He.ga K x) "__init__")))) && decide (PySem.W.typeIn K (.ref (He.ma K (He.ga K x) "__init__"))=some (.type "function")))))))))
theorem ZdD {K:Frag} {h:Heap} {mg:Str→Option Value} (X:K.In h) (G:h.Ns mainGlobals mg) {x f:Str} {fd:FuncData} {ps:List Str} (b:Binds K fd ps []) (c:exfB K x f=true):ExF K mg x f (He.ga K x) (He.ma K (He.ga K x) "__init__") fd ps:=by
  unfold exfB at c
  simp only [Bool.and_eq_true,decide_eq_true_eq] at c
  obtain ⟨c1,c2,c3,c4,c5,c6,c7,c8,c9⟩:=c
  have cl:∃ nm q N bs bm sn sub ab col dd k0 k1 k2 k3 k5,K.lookup (He.ga K x)=some (excClassObj nm q (He.ga K x) N bs bm true sn sub ab col dd k0 k1 k2 k3 k5 "ValueError.__new__")∧PySem.HandSPX.refsVE bm=true:=by
    split at c2
    · rename_i o ho
      obtain ⟨nm,q,N,bs,bm,sn,sub,ab,col,dd,k0,k1,k2,k3,k5,e,r⟩:=Zib c2
      exact ⟨nm,q,N,bs,bm,sn,sub,ab,col,dd,k0,k1,k2,k3,k5,by rw [ho,e],r⟩
    · cases c2
  exact ⟨Zc4 X G c1,⟨cl,c3,c4,c5,c6⟩,c7,c8,c9,b⟩
def exbB (K:Frag) (x:Str):Bool:=clsAt K x && (PySem.W.readsIn K (He.ga K x) (.type "type") && (decide (PySem.W.specialIn K (.ref (He.ga K x)) "__getattribute__" = some (some (.builtin "type.__getattribute__"))) && (match PySem.W.findCls K (.ref (He.ga K x)) (.type "type") "__init__" with
  | some (.val (.builtin n))=>decide (n = "ValueError.__init__")
  | _=>false)))
theorem Zic {K:Frag} {h:Heap} {mg:Str→Option Value} (X:K.In h) (G:h.Ns mainGlobals mg) {x:Str} (c:exbB K x=true):ExB K mg x (He.ga K x):=by
  unfold exbB at c
  simp only [Bool.and_eq_true,decide_eq_true_eq] at c
  obtain ⟨c1,c2,c3,c4⟩:=c
  refine ⟨Zc4 X G c1,c2,c3,?_⟩
  split at c4
  · rename_i n e
    rw [e,of_decide_eq_true c4]
  · cases c4
def excB (K:Frag) (C:Addr):Bool:=decide (PySem.W.findIn K (.ref C) "__getattribute__" = some (some (.builtin "BaseException.__getattribute__"))) && (decide (PySem.W.findIn K (.ref C) "__getattr__" = some none) && (decide (PySem.W.subIn K (.ref C) (.type "BaseException")=some true) && (PySem.W.hasDictIn K C &&
  (decide (PySem.W.findIn K (.ref C) "__class__" = some (some (.builtin "object.__class__"))) && (decide (PySem.W.specialIn K (.builtin "object.__class__") "__get__" = some (some (.builtin "getset_descriptor.__get__"))) && (decide (PySem.W.takesIn K (.builtin "object.__class__")=some true) && decide (PySem.W.mroIn K C (.type "object")=some true)))))))
theorem Zid {K:Frag} {C:Addr} (c:excB K C=true):L2.ExcC K C:=by
  unfold excB at c
  simp only [Bool.and_eq_true,decide_eq_true_eq] at c
  obtain ⟨c1,c2,c3,c4,c5,c6,c7,c8⟩:=c
  exact ⟨c1,c2,c3,c4,c5,c6,c7,c8⟩
/-- a clause's class: which of al it takes -/
def exmB (K:Frag) (al cs:List Nat) (y:Str):Bool:=clsAt K y && al.all fun z=>decide (PySem.W.exmOne K ((exT K).cl z) (.ref (He.ga K y))=some (cs.contains z))
structure ExM (K:Frag) (mg:Str→Option Value) (al cs:List Nat) (y:Str) (C:Addr):Prop where
  g:mg y=some (.ref C)
  x:∀ z∈al,PySem.W.exmOne K ((exT K).cl z) (.ref C)=some (cs.contains z)
theorem Zie {K:Frag} {h:Heap} {mg:Str→Option Value} (X:K.In h) (G:h.Ns mainGlobals mg) {al cs:List Nat} {y:Str} (c:exmB K al cs y=true):ExM K mg al cs y (He.ga K y):=by
  obtain ⟨c1,c2⟩:=He.ba c
  exact ⟨Zc4 X G c1,fun z hz=>of_decide_eq_true (List.all_eq_true.mp c2 z hz)⟩
/-- isinstance's class -/
def exkB (K:Frag) (al cs:List Nat) (tu:Value):Bool:=al.all fun z=>excB K (He.ga K (exName z)) && decide (PySem.W.kitOne K (.ref (He.ga K (exName z))) tu=some (cs.contains z))
theorem Zge {K:Frag} {al cs:List Nat} {tu:Value} (c:exkB K al cs tu=true):∀ n∈al,∃ D,(exT K).cl n = .ref D∧L2.ExcC K D∧PySem.W.kitOne K (.ref D) tu=some (cs.contains n):=fun n hn=>by
  obtain ⟨c1,c2⟩:=He.ba (List.all_eq_true.mp c n hn)
  exact ⟨_,rfl,Zid c1,of_decide_eq_true c2⟩
/-- what the text says of isinstance(e,y) -/
structure ExK (K:Frag) (mg:Str→Option Value) (al cs:List Nat) (y:Str) (C:Addr):Prop where
  g:mg y=some (.ref C)
  k:∀ n∈al,∃ D,(exT K).cl n = .ref D∧L2.ExcC K D∧PySem.W.kitOne K (.ref D) (.ref C)=some (cs.contains n)
def exyB (K:Frag) (al cs:List Nat) (y:Str):Bool:=clsAt K y && exkB K al cs (.ref (He.ga K y))
theorem Za1 {K:Frag} {h:Heap} {mg:Str→Option Value} (X:K.In h) (G:h.Ns mainGlobals mg) {al cs:List Nat} {y:Str} (c:exyB K al cs y=true):ExK K mg al cs y (He.ga K y):=by
  obtain ⟨c1,c2⟩:=He.ba c
  exact ⟨Zc4 X G c1,Zge c2⟩
/-- a class whose instances' field is read -/
def exrB (K:Frag) (x f:Str):Bool:=xfB K (He.ga K x) && decide (PySem.W.findIn K (.ref (He.ga K x)) f=some none)
structure ExR (K:Frag) (f:Str) (C:Addr):Prop where
  x:XfC K C
  no:PySem.W.findIn K (.ref C) f=some none
theorem ZdE {K:Frag} {x f:Str} (c:exrB K x f=true):ExR K f (He.ga K x):=by
  obtain ⟨c1,c2⟩:=He.ba c
  exact ⟨xfB_ok c1,of_decide_eq_true c2⟩
def seeY (n:Nat) (g:Addr→Option Obj):Frag:=He.frT g (cStatics :: He.asD g n)
def obsY (n:Nat) (fa:List He.Fa) (fn:List He.DefD) (ts:List He.Tab) (ex:Frag→Bool) (g:Addr→Option Obj):He.AlX:=(He.obsT fa fn ts (seeY n g),ex (seeY n g))
def hookY (n:Nat) (fa:List He.Fa) (fn:List He.DefD) (ts:List He.Tab) (ex:Frag→Bool):PySem.W.Hook where
  α:=He.AlX
  obs:=fun s=>obsY n fa fn ts ex s.heap.get?
  val:=fun w=>He.valX fn ts w
  says:=fun w h=>∃ K:Frag,K.In h∧He.SaysX fa fn ts [] ex w h K
  of:=fun _ _ e=>⟨_,He.frT_in,⟨congrArg (fun z:He.AlX=>z.1) e,congrArg (fun z:He.AlX=>z.2) e,(fun _ z=>by cases z),(fun _ z=>by cases z),(fun _ z=>by cases z)⟩⟩
  keeps:=fun _ _ _ ⟨K,hK,c⟩ k=>⟨K,PySem.W.Frag.In.keeps hK k,⟨c.t,c.more,c.hd,c.out,(fun _ z=>by cases z)⟩⟩
theorem Zif {n:Nat} {fa:List He.Fa} {fn:List He.DefD} {ts:List He.Tab} {ex:Frag→Bool} {g:Addr→Option Obj} {s:Shared} (h:∀ a,g a=s.heap.get? a):obsY n fa fn ts ex g=(hookY n fa fn ts ex).obs s:=by
  have e:g=s.heap.get?:=funext h
  rw [e]
  rfl
section
variable {X:Cx} {p:Pos}
/-- a class by its name -/
theorem ZaC {y:Str} {C:Addr} (h:X.mg y=some (.ref C)) (hg:Gl X y) (hd:(y == ("__debug__" : Str))=false:=by decide):PE X (.Name y p) (tC (.ref C)):=pe_glob (v:=.ref C) hg h rfl hd
theorem ZgU {y:Str} {C:Addr} (h:X.mg y=some (.ref C)) (hg:Gl X y) (hd:(y == ("__debug__" : Str))=false:=by decide):Names X y (.ref C):=⟨hg,hd,.inl h⟩
end
end PB
namespace PB
open PySem PySem.Spec PyProof.Rows L2
variable [Kts]
theorem Zig (c x:Nat) (r:List Nat):TL.pre [c] (x :: r)=decide (x=c):=by
  unfold TL.pre
  show (([x]:List Nat) == [c])=decide (x=c)
  by_cases h:x=c
  · subst h
    simp
  · rw [decide_eq_false h]
    simp [h]
theorem Zfo (c:Nat):∀ (l acc:List Nat),TL.spl [c] 0 acc l=splC c acc l
  | [],acc=>TL.spl_nil _ _ _
  | x :: r,acc=>by
    show (if TL.pre [c] (x :: r)=true then acc :: TL.spl [c] ([c].length - 1) [] r else TL.spl [c] 0 (acc ++ [x]) r)=if x=c then acc :: splC c [] r else splC c (acc ++ [x]) r
    rw [Zig]
    by_cases h:x=c
    · rw [decide_eq_true h,if_pos rfl,if_pos h]
      show acc :: TL.spl [c] 0 [] r=_
      rw [Zfo c r []]
    · rw [decide_eq_false h,if_neg Bool.false_ne_true,if_neg h,Zfo c r]
theorem ZeO {c:Nat} {p:Nat→Bool}:∀ {l acc:List Nat},l.all p=true→acc.all p=true→∀ x∈splC c acc l,x.all p=true
  | [],acc,_,h2,x,hx=>by
    have:x=acc:=by simpa [splC] using hx
    rw [this]
    exact h2
  | y :: r,acc,h1,h2,x,hx=>by
    rw [List.all_cons,Bool.and_eq_true] at h1
    unfold splC at hx
    split at hx
    · rcases List.mem_cons.mp hx with rfl | hx
      · exact h2
      · exact ZeO h1.2 rfl x hx
    · exact ZeO h1.2 (by rw [List.all_append,h2,List.all_cons,h1.1]; rfl) x hx
theorem ZeP {c:Nat}:∀ {l acc:List Nat},∀ x∈splC c acc l,x.length≤acc.length + l.length
  | [],acc,x,hx=>by
    have:x=acc:=by simpa [splC] using hx
    rw [this]
    simp
  | y :: r,acc,x,hx=>by
    unfold splC at hx
    rw [List.length_cons]
    split at hx
    · rcases List.mem_cons.mp hx with rfl | hx
      · omega
      · have:=ZeP x hx
        simp at this
        omega
    · have:=ZeP x hx
      rw [List.length_append,List.length_singleton] at this
      omega
theorem ZfP {K:Frag} {O:Addr→Prop} {H:Hp}:∀ {l:List (List Nat)},(∀ x∈l,x.length≤SZ∧x.all (· < 0x110000)=true)→AtL K O H ((l.map mkS).map V.str) (l.map D.str)
  | [],_=>.nil
  | x :: r,h=>.cons (.str x (h x List.mem_cons_self).1 (h x List.mem_cons_self).2) (ZfP fun y hy=>h y (List.mem_cons_of_mem _ hy))
section
variable {γ ι:Type} {B:Bs γ ι} {W:WX} {X:Cx} {pos:Pos} {a b:Expr} {ma mb:ME γ}
theorem ZfQ {apos:Pos} (ha:PE X a (RE B W ma)) (hb:PE X b (RE B W mb)) (hs:starEach [b] X.env=[(false,eval b X.env)]:=by rfl) (hbase:attributeBase a "split" X.env (eval a X.env)=eval a X.env:=by rfl) (hline:(apos.endLine == pos.line)=true:=by rfl) :
    PE X (.Call (.Attribute a "split" apos) [b] [] pos) (RE B W (mS1 oSplit ma mb)):=by
  refine ZaS (pe_split ha hb hs hbase hline) fun σ H Q ⟨S,e,g,R,h⟩ => ?_
  refine ⟨S,e,g,R,RK.bind (.refl H) h fun x g1 vx H1 _ x1 i1 o1 h1 => ?_⟩
  split at h1
  · rename_i s
    cases o1 with
    | str _ k1 k2=>
    refine ⟨⟨_,rfl⟩,S,e,g1,R.exe x1 i1,RK.bind x1 h1 fun y g2 vy H2 x12 x2 i2 o2 h2 => ?_⟩
    obtain ⟨z,ez,q⟩:=h2.ofO
    have o2':=o2.pre x1 i1
    unfold oSplit at ez
    split at ez
    · rename_i c
      split at ez
      · rename_i hz
        cases ez
        cases o2' with
        | str _ k3 k4=>
        have el:Txt.split (mkS s) (mkS [c])=(splC c [] s).map mkS:=by
          have:=SX.split_S (a:=s) (b:=[c]) (by simp) (by simpa using hz.2)
          rw [Zfo] at this
          exact this
        refine ⟨mkS s,mkS [c],rfl,rfl,rfl,by rw [ZbD]; exact szle hz.1,?_⟩
        rw [el]
        intro p hp
        refine q _ _ (x2.trans (.new hp)) (Gho.new i2 hp) (VOk.mk x2 i2 (ZfP fun x hx=>⟨?_,?_⟩) hp)
        · have:=ZeP x hx
          simp at this
          have:=hz.1
          omega
        · exact ZeO k2 rfl x hx
      · cases ez
    · cases ez
  · exact h1.elim
end
end PB
set_option maxHeartbeats 0
namespace PB
open PySem PySem.Spec PyProof.Rows L2
end PB
set_option maxHeartbeats 4000000
namespace PB
open PySem PySem.Spec PyProof.Rows L2
end PB
namespace PB
open PySem PySem.Spec PyProof.Rows L2
end PB
namespace PB
open PySem PySem.Spec PyProof.Rows L2
end PB
namespace PB
open PySem PySem.Spec PyProof.Rows L2
end PB
namespace PB
open PySem PySem.Spec PyProof.Rows L2
end PB
namespace PB
open PySem PySem.Spec PyProof.Rows L2
open PySem.W (alike alikeAll dataLt keyToks keyToksAll AlikeAll dataLt_int dataLt_str dataLt_tuple dataLt_cons)
end PB
namespace PB
open PySem PySem.Spec PyProof.Rows L2
variable [Kts]
section
variable {K:Frag} {O:Addr→Prop} {H:Hp}
/-- a key as it stands -/
def KeyAt (K:Frag) (O:Addr→Prop) (H:Hp):Bool→V→D→Prop
  | true,y,d=>∃ (k:List Key) (b:Addr),y = .ref b∧TKy K O H b k∧d = .tup (k.map keyD)∧k.all Sum.isLeft=true
  | false,y,d=>∃ k:Key,y=kV k∧d=keyD k
abbrev KX (kvs:List (List Key×V)) (xs:List (List Key×Addr×Value)):Prop:=Paired (fun p q=>p.1=q.1∧RelV p.2 q.2.2) kvs xs
theorem KX.val {kvs:List (List Key×V)} {xs:List (List Key×Addr×Value)} (r:KX kvs xs) (k:List Key):RelO (valV kvs k) ((atKey xs k).map (·.2)):=by
  induction r with
  | nil=>exact True.intro
  | @cons p q ps qs h t ih=>
    by_cases e:p.1=k
    · have b:atKey (q :: qs) k=some q.2:=by simp [atKey,List.find?_cons,h.1.symm.trans e]
      rw [valV_pos e,b]
      exact h.2
    · have b:atKey (q :: qs) k=atKey qs k:=by
        have e':¬ q.1=k:=fun z=>e (h.1.trans z)
        simp [atKey,List.find?_cons,e']
      rw [valV_neg e,b]
      exact ih
theorem KX.of:∀ {us:List V} {xs:List (List Key×Addr×Value)},Vals us (xs.map (·.2.2))→∃ kvs,KX kvs xs∧kvs.map (·.2)=us
  | us,[],r=>by
    cases r
    exact ⟨[],.nil,rfl⟩
  | us,x :: xs,r=>by
    rw [List.map_cons] at r
    cases r with
    | @cons u _ us _ h t=>
      obtain ⟨kvs,q,e⟩:=KX.of t
      exact ⟨(x.1,u) :: kvs,.cons ⟨rfl,h⟩ q,by rw [List.map_cons,e]⟩
end
section
variable {γ ι:Type} {B:Bs γ ι} {W:WX} {X:Cx} {pos px:Pos} {a ke:Expr} {ma mk mz:ME γ} {i:Nat} {x:Str}
/-- what a slot that holds a dict holds -/
theorem Rep.dct {A:Act γ ι} {e:Env} {g:γ} {σ:L2.St} {H:Hp} (R:Rep A e g σ H) {t:Bool} {ks vs:List D} (h:dctOf (gt e i)=some (t,ks,vs)):∃ p us,σ[i]?=some (some (.ref p))∧DiR A.K (Om A e σ) H p t ks us∧AtL A.K (Om A e σ) H us vs:=by
  have q:=R.sl i
  cases k:gt e i with
  | owd t' ks' vs'=>
    rw [k] at h q
    cases h
    obtain ⟨p,us,e1,e2,e3⟩:=q
    exact ⟨p,us,e1,.of e2,e3⟩
  | dat d=>
    rw [k] at h q
    obtain ⟨v,e1,a⟩:=q
    cases d with
    | dct t' ks' vs'=>
      cases h
      cases a with
      | dct h1 h2 h3=>exact ⟨_,_,e1,h1,h3⟩
    | _=>cases h
  | _=>
    rw [k] at h
    cases h
end
end PB
namespace PB
open PySem PySem.Spec PyProof.Rows L2
end PB
namespace PB
open PySem PySem.Spec PyProof.Rows L2
end PB
namespace PB
open PySem PySem.Spec PyProof.Rows L2
open PySem.W (alike alikeAll dataLt keyToks keyToksAll AlikeAll AllAlike Sortable EachIs)
end PB
namespace PB
open PySem PySem.Spec PyProof.Rows L2
variable [Kts]
inductive ScL:List V→List D→Prop
  | nil:ScL [] []
  | cons {v:V} {d:D} {vs:List V} {ds:List D} (h:ScV v d) (hs:ScL vs ds):ScL (v :: vs) (d :: ds)
/-- a scalar,or a tuple of such -/
inductive It1 (K:Frag) (H:Hp):V→D→Prop
  | sc {v:V} {d:D} (h:ScV v d):It1 K H v d
  | tup {a:Addr} {xs:List V} {ds:List D} (h:H a=some (.tup xs)∨KT K a xs) (hs:ScL xs ds):It1 K H (.ref a) (.tup ds)
inductive ItL (K:Frag) (H:Hp):List V→List D→Prop
  | nil:ItL K H [] []
  | cons {v:V} {d:D} {vs:List V} {ds:List D} (h:It1 K H v d) (hs:ItL K H vs ds):ItL K H (v :: vs) (d :: ds)
section
variable {K:Frag} {O:Addr→Prop} {H H':Hp}
theorem ScL.at:∀ {xs:List V} {ds:List D},ScL xs ds→AtL K O H xs ds
  | _,_,.nil=>.nil
  | _,_,.cons h hs=>.cons h.at hs.at
/-- nothing that is nobody's is a list: tuples are free of owners -/
theorem It1.at {v:V} {d:D} (h:It1 K H v d) (k:∀ a,O a→Stk (H a)):At K O H v d:=by
  cases h with
  | sc h=>exact h.at
  | tup h hs=>exact .tup (h.elim (fun z=>.inl ⟨z,fun o=>(k _ o).notT _ z⟩) .inr) hs.at
theorem It1.go {v:V} {d:D} (h:It1 K H v d) (k:∀ a xs,H a=some (.tup xs)→H' a=some (.tup xs)):It1 K H' v d:=by
  cases h with
  | sc h=>exact .sc h
  | tup h hs=>exact .tup (h.elim (fun z=>.inl (k _ _ z)) .inr) hs
theorem ItL.go (k:∀ a xs,H a=some (.tup xs)→H' a=some (.tup xs)):∀ {vs:List V} {ds:List D},ItL K H vs ds→ItL K H' vs ds
  | _,_,.nil=>.nil
  | _,_,.cons h hs=>.cons (h.go k) (hs.go k)
theorem ItL.length:∀ {vs:List V} {ds:List D},ItL K H vs ds→vs.length=ds.length
  | _,_,.nil=>rfl
  | _,_,.cons _ hs=>by rw [List.length_cons,List.length_cons,hs.length]
theorem ItL.get:∀ {vs:List V} {ds:List D} {i:Nat} {d:D},ItL K H vs ds→ds[i]?=some d→∃ v,vs[i]?=some v∧It1 K H v d
  | _,_,0,_,.cons h _,e=>by
    cases e
    exact ⟨_,rfl,h⟩
  | _,_,i + 1,_,.cons _ hs,e=>hs.get (i:=i) e
theorem ItL.set:∀ {vs:List V} {ds:List D} {i:Nat} {v:V} {d:D},ItL K H vs ds→It1 K H v d→ItL K H (vs.set i v) (ds.set i d)
  | _,_,_,_,_,.nil,_=>.nil
  | _,_,0,_,_,.cons _ hs,h=>.cons h hs
  | _,_,i + 1,_,_,.cons h0 hs,h=>.cons h0 (hs.set (i:=i) h)
theorem ItL.at (k:∀ a,O a→Stk (H a)):∀ {xs:List V} {ds:List D},ItL K H xs ds→AtL K O H xs ds
  | _,_,.nil=>.nil
  | _,_,.cons h hs=>.cons (h.at k) (hs.at k)
end
/-- where it stands: the list,its rows -/
structure NA where
  p:Addr
  ps:List Addr
structure NlAt (K:Frag) (na:NA) (n:NL) (H:Hp):Prop where
  hp:H na.p=some (.lst (na.ps.map V.ref))
  len:na.ps.length=n.length
  row:∀ (i:Nat) (a:Addr) (ds:List D),na.ps[i]?=some a→n[i]?=some ds→∃ xs,H a=some (.lst xs)∧ItL K H xs ds
  nd:na.ps.Nodup
  np:na.p ∉ na.ps
theorem NlAt.go {K:Frag} {na:NA} {n:NL} {H H':Hp} (h:NlAt K na n H) (k:∀ a,a=na.p∨a∈na.ps→H' a=H a) (t:∀ a xs,H a=some (.tup xs)→H' a=some (.tup xs)):NlAt K na n H' where
  hp:=by rw [k _ (.inl rfl)]; exact h.hp
  len:=h.len
  row:=fun i a ds h1 h2=>by
    obtain ⟨xs,e,al⟩:=h.row i a ds h1 h2
    exact ⟨xs,by rw [k a (.inr (List.mem_of_getElem? h1))]; exact e,al.go t⟩
  nd:=h.nd
  np:=h.np
theorem NlAt.lst {K:Frag} {na:NA} {n:NL} {H:Hp} (h:NlAt K na n H) {a:Addr} (m:a=na.p∨a∈na.ps):∃ xs,H a=some (.lst xs):=by
  rcases m with rfl | m
  · exact ⟨_,h.hp⟩
  · obtain ⟨i,hi⟩:=List.getElem?_of_mem m
    have hl:i < n.length:=by
      rw [← h.len]
      exact (List.getElem?_eq_some_iff.mp hi).1
    obtain ⟨xs,e,_⟩:=h.row i a n[i] hi (List.getElem?_eq_getElem hl)
    exact ⟨xs,e⟩
end PB
namespace PB
open PySem PySem.Spec PyProof.Rows L2
end PB
namespace PB
open PySem PySem.Spec PyProof.Rows L2
end PB
namespace PB
open PySem PySem.Spec PyProof.Rows L2
variable [Kts]
section
variable {γ ι:Type} {B:Bs γ ι} {W:WX} {X:Cx} {na:NA} {pos px p1 p2:Pos} {x:Str} {ka kb a:Expr} {ma mb mv:ME (γ×NL)}
theorem NlAt.at {K:Frag} {n:NL} {H:Hp} (h:NlAt K na n H) {m:Int} {j:Nat} (e:PB.ixN n.length m=some j):∃ q,L2.atI (na.ps.map V.ref) m=some (.ref q)∧na.ps[j]?=some q∧j < n.length:=by
  have hl:=h.len
  have hj:j < n.length:=by
    unfold PB.ixN at e
    split at e
    · split at e
      · cases e; omega
      · cases e
    · split at e
      · cases e; omega
      · cases e
  obtain ⟨q,hq⟩:∃ q,na.ps[j]?=some q:=⟨na.ps[j]'(by omega),by simp [hl,hj]⟩
  refine ⟨q,?_,hq,hj⟩
  unfold L2.atI
  rw [List.length_map,hl]
  rw [show L2.ixN n.length m=some j from e]
  show (na.ps.map V.ref)[j]?=_
  rw [List.getElem?_map,hq]
  rfl
theorem NlAt.set {K:Frag} {n:NL} {H:Hp} (h:NlAt K na n H) {j c:Nat} {q:Addr} {r:List D} {xs:List V} {v:V} {d:D} (hq:na.ps[j]?=some q) (hr:n[j]?=some r) (hx:H q=some (.lst xs)) (il:ItL K H xs r) (iv:It1 K H v d):NlAt K na (n.set j (r.set c d)) (upd H q (.lst (xs.set c v))):=by
  have hqm:q∈na.ps:=List.mem_of_getElem? hq
  have ht:∀ a ys,H a=some (.tup ys)→upd H q (.lst (xs.set c v)) a=some (.tup ys):=fun a ys e=>by
    rw [upd_ne (fun z=>by rw [z,hx] at e; cases e)]
    exact e
  refine ⟨by rw [upd_ne (fun z=>h.np (by rw [z]; exact hqm))]; exact h.hp,by rw [List.length_set]; exact h.len,fun i b ds h1 h2 => ?_,h.nd,h.np⟩
  by_cases c1:i=j
  · subst c1
    rw [hq] at h1
    cases h1
    have hl:i < n.length:=(List.getElem?_eq_some_iff.mp hr).1
    rw [List.getElem?_set_self hl] at h2
    cases h2
    exact ⟨_,upd_same,(il.go ht).set (iv.go ht)⟩
  · rw [List.getElem?_set_ne (fun z=>c1 z.symm)] at h2
    obtain ⟨ys,e1,al⟩:=h.row i b ds h1 h2
    have:b≠q:=fun z=>by
      rw [z] at h1
      have:=(List.getElem?_inj (by exact (List.getElem?_eq_some_iff.mp h1).1) h.nd).mp (h1.trans hq.symm)
      exact c1 this
    exact ⟨ys,by rw [upd_ne this]; exact e1,al.go ht⟩
end
end PB
namespace PB
open PySem PySem.Spec PyProof.Rows L2
end PB
set_option maxHeartbeats 0
namespace PB
open PySem PySem.Spec PyProof.Rows L2
end PB
set_option maxHeartbeats 4000000
namespace PB
open PySem PySem.Spec PyProof.Rows L2
end PB
namespace PB
open PySem PySem.Spec PyProof.Rows L2
end PB
namespace PB
open PySem PySem.Spec PyProof.Rows L2
end PB
namespace PB
open PySem PySem.Spec PyProof.Rows L2
variable [Kts]
section
variable {γ ι:Type}
variable {B:Bs γ ι} {W:WX} {X:Cx} {p:Addr} {S S':Addr→Prop} {e:Env} {g g':γ} {σ:L2.St} {H H' H0:Hp}
/-- more that values must not be -/
theorem Rep.more (R:Rep ⟨B,S⟩ e g σ H) (x:∀ b o,H b=some o→¬ S b→H' b=some o) (h1:∀ a,S a→S' a) (h2:∀ a,S' a→S a∨H a=none) (t:∀ a,S' a→Stk (H' a)) (i:(B.fam B.i).I g' H'):Rep ⟨B,S'⟩ e g' σ H':=by
  have go:∀ a o,H a=some o→¬ Om ⟨B,S⟩ e σ a→H' a=some o∧¬ Om ⟨B,S'⟩ e σ a:=fun a o q n=>
    ⟨x a o q fun z=>n (.inl z),fun z=>z.elim (fun z=>(h2 a z).elim (fun z=>n (.inl z)) fun z=>by rw [z] at q; cases q) fun z=>n (.inr z)⟩
  refine ⟨R.len,fun j => ?_,R.inj,fun a z q => ?_,i,fun a z=>h1 a (R.fx a z),t⟩
  · have q:=R.sl j
    cases h:gt e j with
    | un=>trivial
    | dat d=>
      rw [h] at q
      obtain ⟨v,e1,a⟩:=q
      exact ⟨v,e1,a.go go⟩
    | own ds=>
      rw [h] at q
      obtain ⟨p,xs,e1,k,a⟩:=q
      exact ⟨p,xs,e1,x p _ k (R.nx p (.of h rfl e1)),a.go go⟩
    | xc y=>
      rw [h] at q
      exact ⟨q.1,q.2.go fun p fs k=>x p _ k fun z=>R.nxd k (.inl z)⟩
    | gh y=>
      rw [h] at q
      exact q
    | owd tt ks vs=>
      rw [h] at q
      obtain ⟨p,us,e1,k,a⟩:=q
      exact ⟨p,us,e1,k.go go fun o e=>x p _ e (R.nx p (.of h rfl e1)),a.go go⟩
  · rcases h2 a q with q | q
    · exact R.nx a z q
    · exact (z.stk R).1.1 q
/-- a row more -/
theorem NlAt.push {K:Frag} {ps:List Addr} {q:Addr} {n:NL} (h:NlAt K ⟨p,ps⟩ n H) (hq:H q=none):NlAt K ⟨p,ps ++ [q]⟩ (n ++ [[]]) (upd (upd H q (.lst [])) p (.lst ((ps ++ [q]).map V.ref))):=by
  have hp:H p=some (.lst (ps.map V.ref)):=h.hp
  have qp:q≠p:=fun z=>by rw [z,hp] at hq; cases hq
  have qps:q ∉ ps:=fun z=>by
    obtain ⟨xs,e⟩:=h.lst (.inr z)
    rw [e] at hq
    cases hq
  have hl:ps.length=n.length:=h.len
  have ht:∀ a ys,H a=some (.tup ys)→upd (upd H q (.lst [])) p (.lst ((ps ++ [q]).map V.ref)) a=some (.tup ys):=fun a ys e=>by
    rw [upd_ne (fun z=>by rw [z,hp] at e; cases e),upd_ne (fun z=>by rw [z,hq] at e; cases e)]
    exact e
  refine ⟨upd_same,by show (ps ++ [q]).length=_; simp [hl],fun j a ds h1 h2 => ?_,?_,?_⟩
  · have h1:(ps ++ [q])[j]?=some a:=h1
    by_cases hj:j < ps.length
    · rw [List.getElem?_append_left hj] at h1
      rw [List.getElem?_append_left (by omega)] at h2
      obtain ⟨ys,e1,al⟩:=h.row j a ds h1 h2
      have ha:a∈ps:=List.mem_of_getElem? h1
      exact ⟨ys,by rw [upd_ne (fun z=>h.np (by show p∈ps; rw [← z]; exact ha)),upd_ne (fun z=>qps (by rw [← z]; exact ha))]; exact e1,al.go ht⟩
    · rw [List.getElem?_append_right (by omega)] at h1 h2
      have e0:j - ps.length=0:=by
        cases z:j - ps.length with
        | zero=>rfl
        | succ m=>
          rw [z] at h1
          simp at h1
      rw [e0] at h1
      rw [← hl,e0] at h2
      cases h1
      cases h2
      exact ⟨[],by rw [upd_ne qp,upd_same],.nil⟩
  · show (ps ++ [q]).Nodup
    rw [List.nodup_append]
    exact ⟨h.nd,by simp,fun a ha b hb=>by rw [List.mem_singleton.mp hb]; intro z; exact qps (by rw [← z]; exact ha)⟩
  · show p ∉ ps ++ [q]
    intro z
    rcases List.mem_append.mp z with z | z
    · exact h.np z
    · exact qp (List.mem_singleton.mp z).symm
end
end PB
namespace PB
open PySem PySem.Spec PyProof.Rows L2
end PB
namespace PB
open PySem PySem.Spec PyProof.Rows L2
end PB
namespace PB
open PySem PySem.Spec PyProof.Rows L2
end PB
namespace PB
open PySem PySem.Spec PyProof.Rows L2
end PB
namespace PB
open PySem PySem.Spec PyProof.Rows L2
end PB
namespace PB
open PySem PySem.Spec PyProof.Rows L2
end PB
namespace PB
open PySem PySem.Spec PyProof.Rows L2
end PB
namespace PB
open PySem PySem.Spec PyProof.Rows L2
end PB
namespace PB
open PySem PySem.Spec PyProof.Rows L2 HotX L2H
/-- an iterator's turns there -/
structure TurnW (P:Program) (w:World) (K:PySem.W.Frag) (tg:Expr) (J:It) (fp:List Addr) (it:Addr) (tn:Nat→Heap→Prop):Prop where
  mem:it∈fp
  obj:∀ i h,tn i h→∀ b∈fp,∃ o,h.get? b=some o∧∀ v,o.data ≠ .cell v
  keep:∀ i h h',tn i h→(∀ b∈fp,∀ o,h.get? b=some o→h'.get? b=some o)→tn i h'
  item:∀ (X:Cx),X.prog=P→X.w=w→X.K=K→∀ (i:Nat) (pins:List (Addr×Obj)) (s:Shared) (σ:L2.St) (H:Hp) (E:Value→Shared→Prop),Inv X pins σ H s→(∀ b∈fp,FpOk X pins H b)→tn i s.heap→J.go i H →
    wpAny (model P w) X.A (pyNext (.ref it)) (fun r s1=>∃ u,r=some u∧wpAny (model P w) X.A (letOwnedTupleGo tg (.ref it) u) (fun _ s2=>∃ x H',Inv X pins σ H' s2∧RelV x u∧J.yld i H x H'∧tn (i + 1) s2.heap∧∀ b∈fp,H' b=none) E s1) E s
  done:∀ (X:Cx),X.prog=P→X.w=w→X.K=K→∀ (x1:Addr) (i:Nat) (pins:List (Addr×Obj)) (s:Shared) (σ:L2.St) (H:Hp) (E:Value→Shared→Prop),HotAt X.A x1 s.heap→x1≠it→Inv X pins σ H s→(∀ b∈fp,FpOk X pins H b)→tn i s.heap→J.stop i H →
    wpAny (model P w) X.A (pyNext (.ref it)) (fun r s1=>r=none∧Inv X pins σ H s1) E s
  self:∀ (A:Around) (i:Nat) (s:Shared) (Q:Value→Shared→Prop) (E:Value→Shared→Prop),tn i s.heap→Q (.ref it) s→wpAny (model P w) A (pyIter (.ref it)) Q E s
/-- an iterator has come there -/
def PIEW (X:Cx) (pins:List (Addr×Obj)) (σ:L2.St) (tg:Expr) (R:It→Hp→Prop) (itv:Value) (s2:Shared):Prop:=
  ∃ (it:Addr) (fp:List Addr) (tn:Nat→Heap→Prop) (J:It) (H':Hp),itv = .ref it∧Inv X pins σ H' s2∧TurnW X.prog X.w X.K tg J fp it tn∧tn 0 s2.heap∧(∀ b∈fp,FpOk X pins H' b)∧R J H'
structure PIW (X:Cx) (tg iter:Expr) (wi:TI):Prop where
  run:∀ (pins:List (Addr×Obj)) (s:Shared) (σ:L2.St) (H:Hp) (R:It→Hp→Prop),Inv X pins σ H s→wi σ H R→wpAny (model X.prog X.w) X.A (eval iter X.env) (fun v s1=>wpAny (model X.prog X.w) X.A (pyIter v) (PIEW X pins σ tg R) X.xe s1) X.xe s
end PB
namespace PB
open PySem PySem.Spec PyProof.Rows L2 HotX L2H
end PB
namespace PB
open PySem PySem.Spec PyProof.Rows L2 HotX L2H
variable [Kts]
section
variable {γ ι:Type} {B:Bs γ ι} {W:WX} {X:Cx} {pos:Pos}
/-- raise C(e),what e tells isn't asked -/
theorem Zbp {x:Str} {C:Addr} {n:Nat} {e:Expr} {me:ME γ} {p p1:Pos} (E:ExN X.K X.mg x C) (hn:B.T.cl n = .ref C) (hc:X.calm=true) (tk:L2N.Takes X W) (hg:Gl X x) (he:PE X e (RE B W me)) (hdb:(x == ("__debug__" : Str))=false:=by decide)
    (hst:starEach [e] X.env=(false,eval e X.env) :: starEach [] X.env:=by rfl) (hpl:(backTo p1 (starEach [] X.env)).any (·.1)=false:=by rfl) :
    PS X (.Raise (some (.Call (.Name x p) [e] [] p1)) none pos) (RS B W (ZbW n me)):=by
  refine Zc0 (L2N.ps_raise hc tk (ZgS PySem.F.excBase_ValueError E.e E.g E.k (raises_own E.sb E.ty) hg he hdb hst hpl)) fun Dd σ H ⟨S,en,g,R,h⟩ => ?_
  refine ⟨S,en,g,R,RSK.bind R h fun y g1 vy H1 x1 i1 o1 h1 => ?_⟩
  exact h1 (.ref C) none σ H1 (fun b o q nn=>x1 b o q fun z=>nn (.inl z)) i1 ⟨hn.symm,rfl⟩
end
end PB
namespace PB
open PySem PySem.Spec PyProof.Rows L2 HotX L2H
variable [Kts]
theorem takesN0 {X:Cx}:L2N.Takes X (fun _ _ _ _=>False):=fun u s' ⟨_,_,_,_,_,_,_,_,_,_,_,_,_,_,_,_,w⟩=>w.elim
theorem PIW.or {X:Cx} {tg iter:Expr} {w w':TI} (h:PIW X tg iter w) (h':PIW X tg iter w'):PIW X tg iter (fun σ H R=>w σ H R∨w' σ H R):=⟨fun pins s σ H R I q=>q.elim (h.run pins s σ H R I) (h'.run pins s σ H R I)⟩
end PB
namespace EnT
open PySem PySem.Spec PyProof.Rows
open AutoSeq1 (wpAny_loadPart')
theorem ZgV (l:Addr) (its:Array Value) (n:Nat) (dd:Option Addr) (sl:Array (Option Value)) :
    Meets (Builtin.«enumerate.__new__» ⟨[.type "enumerate",.ref l],[]⟩) (fun _ R s=>s.heap.get? l=some { cls:=.type "tuple",dict:=dd,data:=.seq its n,slots:=sl } ∧
      R (.ok (.ret (.ref (s.heap.push { cls:=.type "tuple_iterator",data:=.fields #[.ref l,.int 0 0] }).objs.size)))
        { s with heap:=(s.heap.push { cls:=.type "tuple_iterator",data:=.fields #[.ref l,.int 0 0] }).push { cls:=.type "enumerate",data:=.fields #[.none,.bool false,.ref s.heap.objs.size,rawInt 0,.none,.none] } }):=
  .of_wp fun prog w A R s h=>by
    obtain ⟨hp,g,d,tk,os⟩:=s
    obtain ⟨hl,h⟩:=h
    have hsub:=sub_enumerate
    have hL:Heap.IsTuple (Shared.heap ⟨hp,g,d,tk,os⟩) l its:=⟨_,hl,rfl,n,rfl⟩
    wp_walk using wpAny_loadPart' hl
    refine wpAny_stack_any fun st=>wpAny_pure ?_
    split
    · rename_i c _ _ _ _ _
      cases (c == Value.type "enumerate")
      · wp_walk using wpAny_loadPart' hl,wpAny_pyIter_tuple hL
        exact ⟨_,rfl,h⟩
      · wp_walk using wpAny_loadPart' hl,wpAny_pyIter_tuple hL
        exact ⟨_,rfl,h⟩
    · wp_walk using wpAny_loadPart' hl,wpAny_pyIter_tuple hL
      exact ⟨_,rfl,h⟩
section
variable {prog:Program} {w:World} {A:Around} {E:Value→Shared→Prop} {s:Shared}
theorem call_enumT {l:Addr} {its:Array Value} {Q:Value→Shared→Prop} (hL:s.heap.IsTuple l its)
    (h:∀ h',IsEnum h' (s.heap.objs.size + 1) s.heap.objs.size 0 .none→h'.IsTupleIter s.heap.objs.size l 0→(∀ b o,s.heap.get? b=some o→h'.get? b=some o)→Q (.ref (s.heap.objs.size + 1)) { s with heap:=h' }) :
    wpAny (model prog w) A (call (.type "enumerate") [.ref l]) Q E s:=by
  obtain ⟨⟨c,dd,dt,sl⟩,hl,hc,n,hd⟩:=hL
  replace hc:c = .type "tuple" := hc
  replace hd:dt = .seq its n:=hd
  subst hc hd
  refine callType_new F.called_enumerate (by decide) (F.typeCall_enumerate_1 _) (F.newCall_enumerate_1 _) (fun obj=>F.args_object_init_2 obj _) F.entry_enumerate_new (ZgV l its n dd sl) ⟨hl,?_⟩
  have hz:(s.heap.push { cls:=.type "tuple_iterator",data:=.fields #[.ref l,.int 0 0] }).objs.size=s.heap.objs.size + 1:=Heap.size_push ..
  show _∧_
  rw [hz]
  have he:IsEnum ((s.heap.push { cls:=.type "tuple_iterator",data:=.fields #[.ref l,.int 0 0] }).push { cls:=.type "enumerate",data:=.fields #[.none,.bool false,.ref s.heap.objs.size,rawInt 0,.none,.none] }) (s.heap.objs.size + 1) s.heap.objs.size 0 .none:=by
    have:=Heap.get?_push_size (s.heap.push { cls:=.type "tuple_iterator",data:=.fields #[.ref l,.int 0 0] }) (o:={ cls:=.type "enumerate",data:=.fields #[.none,.bool false,.ref s.heap.objs.size,rawInt 0,.none,.none] }) rfl
    rw [hz] at this
    exact this
  refine ⟨⟨_,he,rfl⟩,h _ he ⟨_,Heap.get?_push_of_some _ (Heap.get?_push_size _ rfl),rfl,rfl⟩ fun b o q=>Heap.get?_push_of_some _ (Heap.get?_push_of_some _ q)⟩
end
end EnT
namespace PB
open PySem PySem.Spec PyProof.Rows L2
/-- the tuple at a,its items in new pairs behind their numbers -/
def Iten (K:PySem.W.Frag) (a:Addr):It:=
  ⟨fun i H=>∃ (xs:List V) (x:V),SqT K H a xs∧xs[i]?=some x,fun i H v H'=>∃ T x,v = .ref T∧H T=none∧H'=upd H T (.tup [.int (i:Nat),x])∧∀ xs,SqT K H a xs→xs[i]?=some x,fun i H=>∃ xs:List V,SqT K H a xs∧xs.length≤i⟩
theorem Zhq {P:Program} {w:World} {K:PySem.W.Frag} {elts:List Expr} {kk:Nat} {tpos:Pos} (a e it:Addr) :
    Turn P w K (.Tuple elts kk tpos) (Iten K a) [e,it] e (fun i h=>(∃ old,IsEnum h e it ((i:Nat):Int) old)∧h.IsTupleIter it a i∧e≠it) where
  mem:=by simp
  obj:=fun i h st b hb=>by
    obtain ⟨⟨old,g1⟩,⟨o,g2,_,d2⟩,_⟩:=st
    have z:b=e∨b=it:=by simpa using hb
    rcases z with rfl | rfl
    · exact ⟨_,g1,fun v q=>nomatch q⟩
    · exact ⟨o,g2,fun v q=>by rw [d2] at q; cases q⟩
  keep:=fun i h h' st k=>by
    obtain ⟨⟨old,g1⟩,g2,ne⟩:=st
    exact ⟨⟨old,k e (by simp) _ g1⟩,g2.at fun o q=>k it (by simp) o q,ne⟩
  item:=by
    intro X hP hw hK hc i pins s σ H E I hf st hg
    subst hP hw hK
    obtain ⟨⟨old,g1⟩,g2,ne⟩:=st
    obtain ⟨xs,x,hq,hx⟩:=hg
    obtain ⟨its,rv,p,_⟩:=I.tuple hq
    obtain ⟨u,hu,ru⟩:=rv.get hx
    have le:e < s.heap.objs.size:=Heap.lt_size g1
    have li:it < s.heap.objs.size:=by
      obtain ⟨_,q,_⟩:=g2
      exact Heap.lt_size q
    have la:a < s.heap.objs.size:=by
      obtain ⟨_,q,_⟩:=p
      exact Heap.lt_size q
    have nia:a≠it:=by
      rintro rfl
      obtain ⟨o1,q1,c1,_⟩:=g2
      obtain ⟨o2,q2,c2,_⟩:=p
      rw [q1] at q2
      cases q2
      rw [c1] at c2
      simp at c2
    have nea:e≠a:=by
      rintro rfl
      obtain ⟨o2,q2,c2,_⟩:=p
      rw [g1] at q2
      cases q2
      simp at c2
    have hil:i < its.toArray.size:=by
      have:=(List.getElem?_eq_some_iff.mp hu).1
      simpa using this
    refine wpAny_pyNext_enum_itemD (Draws.tuple (A:=X.A.in1) (I.ok.hd hc) it a nia its.toArray) g1 ⟨g2,p⟩ hil ne (by simp [ne,nea]) fun y h2 tk hy ho hit2 hT hsz hk => ?_
    have ey:y=u:=by
      have:its.toArray[i]?=some u:=by simpa using hu
      rw [this] at hy
      exact (Option.some.inj hy).symm
    subst ey
    refine ⟨_,rfl,wpAny_letOwnedTupleGo_enum (s:={ s with heap:=h2,toks:=tk + 1 }) ho fun h3 g3 sb => ?_⟩
    have hT3:h3.get? s.heap.objs.size=some { cls:=.type "tuple",data:=.seq #[.int i tk,y] }:=(sb.2 _ (Nat.ne_of_gt le)).trans hT
    have new:ObjOk X.prog X.w (upd H s.heap.objs.size (.tup [.int (i:Nat),x])) h3 s.heap.objs.size (.tup [.int (i:Nat),x]):=⟨by show 2≤sizeLine; decide,[.int i tk,y],.cons ⟨_,rfl⟩ (.cons ru .nil),⟨_,hT3,rfl,_,rfl⟩⟩
    have I1:Inv X pins σ (upd H s.heap.objs.size (.tup [.int (i:Nat),x])) { s with heap:=h3,toks:=tk + 1 }:=
      I.turnedNew (ch:=[e,it]) (fun b ob hb q=>(sb.2 b (fun z=>hb (by simp [z]))).trans (hk b ob (fun z=>hb (by simp [z])) (fun z=>hb (by simp [z])) q)) hf (Nat.le_refl _) new
    refine ⟨.ref s.heap.objs.size,_,I1,rfl,⟨_,x,rfl,I.hok.fresh (Nat.le_refl _),rfl,fun ys hy=>by rw [I.tuple_inj hy hq]; exact hx⟩,⟨⟨y,?_⟩,hit2.1.at fun o q=>(sb.2 it (Ne.symm ne)).trans q,ne⟩,fun b hb => ?_⟩
    · have e1:((i + 1:Nat):Int)=(i:Int) + 1:=by omega
      rw [e1]
      exact g3
    · have lb:b < s.heap.objs.size:=by
        have z:b=e∨b=it:=by simpa using hb
        rcases z with rfl | rfl
        · exact le
        · exact li
      rw [upd_ne (Nat.ne_of_lt lb)]
      exact (hf b hb).1
  done:=by
    intro X hP hw hK hc i pins s σ H E I hf st hg
    subst hP hw hK
    obtain ⟨⟨old,g1⟩,g2,ne⟩:=st
    obtain ⟨xs,hq,hx⟩:=hg
    obtain ⟨its,rv,p,_⟩:=I.tuple hq
    obtain ⟨f0,f1,f2,f3,f4,f5⟩:=hf it (by simp)
    have hl:=rv.length
    have T1:s.TypeIs (.ref e) "enumerate" := ⟨_,g1,rfl⟩
    unfold pyNext
    refine wpAny_bind (wpAny_attempt (wpAny_callSpecial?_slot (name:=Str.ofString "__next__") T1 F.slot_enumerate_next (wpAny_call_entry F.slot_enumerate_next T1 F.entry_enumerate_next ?_ (F.args_enumerate_next_1 _))))
    show wpAny _ _ (field (.ref e) 2 >>= _) _ _ _
    refine wpAny_bind (wpAny_field g1 rfl (x:=.ref it) rfl ?_)
    refine wpAny_bind (RZ.nextOf_tuple_end (show X.A.in1.handled=none from I.ok.hd hc) g2 p (by simp; omega) fun h2 x k2 ⟨o,g,c⟩ => ?_)
    refine wpAny_bind (wpAny_isInstance (T := "StopIteration") (b:=true) ⟨o,g,c⟩ isSubtype_stop ?_)
    exact wpAny_pure ⟨rfl,I.turned (t':=s.toks) (fun b o hb q=>k2 b o hb q) f0 f1 f3 f4 f5⟩
  self:=fun A i s Q E st h=>by
    obtain ⟨⟨_,g1⟩,_⟩:=st
    exact wpAny_pyIter_enum g1 h
def iEnT (K:PySem.W.Frag) (ta:TA):TI:=fun σ H R=>ta σ H fun vs H1=>∃ a xs,vs=[.ref a]∧SqT K H1 a xs∧R (Iten K a) H1
theorem ZiW {X:Cx} {e:Expr} {ta:TA} {p pos tpos:Pos} {elts:List Expr} {kk:Nat} (hg:Gl X "enumerate") (hm:X.mg "enumerate" = none) (ha:PA X [e] ta) (hs:starEach [e] X.env=[(false,eval e X.env)]:=by rfl) :
    PI X (.Tuple elts kk tpos) (.Call (.Name "enumerate" p) [e] [] pos) (iEnT X.K ta):=by
  refine ⟨fun pins s σ H R I h => ?_⟩
  refine Call_ (ld_blt I hg hm boot_enumerate (PyProof.Rows.callWith_type1 (thn (ha.run pos pins s σ H _ I h) fun us s1 ⟨vs,H1,I1,r1,a,xs,ex,hq,q⟩ => ?_) hs rfl))
  subst ex
  cases r1 with
  | cons r rr=>
    cases rr
    cases r
    obtain ⟨its,rv,p2,_⟩:=I1.tuple hq
    refine EnT.call_enumT p2 fun h2 g1 g2 hk=>wpAny_pyIter_enum g1 ?_
    have I2:Inv X pins σ H1 { s1 with heap:=h2 }:=I1.kept (t':=s1.toks) hk
    refine ⟨s1.heap.objs.size + 1,[s1.heap.objs.size + 1,s1.heap.objs.size],_,_,H1,rfl,I2,Zhq a (s1.heap.objs.size + 1) s1.heap.objs.size,⟨⟨.none,g1⟩,g2,Nat.succ_ne_self _⟩,fun b hb => ?_,q⟩
    have hle:s1.heap.objs.size≤b:=by
      have z:b=s1.heap.objs.size + 1∨b=s1.heap.objs.size:=by simpa using hb
      rcases z with z | z
      · rw [z]
        exact Nat.le_succ _
      · rw [z]
        exact Nat.le_refl _
    exact I1.fpOk hle (I1.hok.fresh hle)
end PB
namespace PB
open PySem PySem.Spec PyProof.Rows L2
variable [Kts]
theorem ZgW:∀ (ds:List D) (k:Nat),(enD k ds).length=ds.length
  | [],_=>rfl
  | _ :: ds,k=>by
    show (enD (k + 1) ds).length + 1=ds.length + 1
    rw [ZgW ds]
theorem ZgX:∀ (ds:List D) (k i:Nat),(enD k ds)[i]?=(ds[i]?).map fun d=>.tup [.int ((k + i:Nat):Int),d]
  | [],_,_=>rfl
  | d :: ds,k,0=>rfl
  | d :: ds,k,i + 1=>by
    show (enD (k + 1) ds)[i]?=_
    rw [ZgX ds (k + 1) i,List.getElem?_cons_succ,show k + 1 + i=k + (i + 1) by omega]
section
variable {γ ι:Type} {B:Bs γ ι} {W:WX} {X:Cx} {pos:Pos} {a:Expr} {ma:ME γ}
theorem ZhL {A:Act γ ι} {e:Env} {g:γ} {σ:L2.St} {H0 H':Hp} (R:Rep A e g σ H0) {xs:List V} {ds:List D} {J:It} (al:AtL A.K (Om A e σ) H' xs ds)
    (hS:∀ H1,(∀ b o,H' b=some o→¬ Mu A e σ b→H1 b=some o)→(∀ i,xs.length≤i→J.stop i H1)∧∀ i v,xs[i]?=some v→J.go i H1∧∀ z H2,J.yld i H1 z H2→∃ T,z = .ref T∧H1 T=none∧H2=upd H1 T (.tup [.int (i:Nat),v])) :
    ItOk A e σ H' J (enD 0 ds):=fun H1 h1=>by
  obtain ⟨s1,s2⟩:=hS H1 h1
  refine ⟨fun i hi=>s1 i (by rw [ZgW] at hi; rw [al.length]; exact hi),fun i d hd => ?_⟩
  rw [ZgX] at hd
  cases k:ds[i]? with
  | none=>
    rw [k] at hd
    cases hd
  | some y=>
    rw [k] at hd
    cases hd
    obtain ⟨v,hv,av⟩:=al.get k
    obtain ⟨g1,g2⟩:=s2 i v hv
    refine ⟨g1,fun z H2 hz => ?_⟩
    obtain ⟨T,rfl,hT,rfl⟩:=g2 z H2 hz
    refine ⟨.inr ⟨T,_,hT,rfl⟩,fun O' h2 h3 => ?_⟩
    have up:∀ {v:V} {d:D},At A.K O' H1 v d→At A.K O' (upd H1 T (.tup [.int (i:Nat),v])) v d:=fun h=>h.go fun a o q n=>⟨by rw [upd_ne (ne_of_none q hT)]; exact q,n⟩
    rw [Nat.zero_add]
    exact .tup (.inl ⟨upd_same,fun z=>h3 T z hT⟩) (.cons (.int _) (.cons (up (ZdQ R h1 h2 av)) .nil))
theorem ZiX {A:Act γ ι} {e:Env} {g:γ} {σ:L2.St} {H0 H':Hp} (R:Rep A e g σ H0) {p:Addr} {xs:List V} {ds:List D} (hp:Rd H' p (.lst xs)) (np:¬ Mu A e σ p) (al:AtL A.K (Om A e σ) H' xs ds):ItOk A e σ H' (Ite A.K p) (enD 0 ds):=
  ZhL R al fun H1 h1=>by
    have hp1:SqL A.K H1 p xs:=.inl (hp.elim (fun z=>.inl (h1 p _ z np)) fun ⟨o,z⟩=>.inr ⟨o,h1 p _ z np⟩)
    refine ⟨fun i hi=>⟨xs,hp1,hi⟩,fun i v hv=>⟨⟨xs,v,hp1,hv⟩,fun z H2 ⟨T,x,e1,e2,e3,f⟩ => ?_⟩⟩
    have:x=v:=Option.some.inj ((f xs hp1).symm.trans hv)
    subst this
    exact ⟨T,e1,e2,e3⟩
theorem ZiY {A:Act γ ι} {e:Env} {g:γ} {σ:L2.St} {H0 H':Hp} (R:Rep A e g σ H0) {p:Addr} {xs:List V} {ds:List D} (hp:(H' p=some (.tup xs)∧¬ Om A e σ p)∨KT A.K p xs) (al:AtL A.K (Om A e σ) H' xs ds):ItOk A e σ H' (Iten A.K p) (enD 0 ds):=
  ZhL R al fun H1 h1=>by
    have hp1:SqT A.K H1 p xs:=by
      rcases hp with ⟨a,b⟩ | k
      · exact SqT.of (h1 p _ a fun z=>b (R.muom z))
      · exact .inr k.2
    refine ⟨fun i hi=>⟨xs,hp1,hi⟩,fun i v hv=>⟨⟨xs,v,hp1,hv⟩,fun z H2 ⟨T,x,e1,e2,e3,f⟩ => ?_⟩⟩
    have:x=v:=Option.some.inj ((f xs hp1).symm.trans hv)
    subst this
    exact ⟨T,e1,e2,e3⟩
theorem Zih {p tpos:Pos} {elts:List Expr} {kk:Nat} (hK:B.K=X.K) (hg:Gl X "enumerate") (hm:X.mg "enumerate" = none) (ha:PE X a (RE B W ma)) (hs:starEach [a] X.env=(false,eval a X.env) :: starEach [] X.env:=by rfl) (hs2:starEach [a] X.env=[(false,eval a X.env)]:=by rfl) :
    PI X (.Tuple elts kk tpos) (.Call (.Name "enumerate" p) [a] [] pos) (RI B W (ZeW ma)):=by
  refine Zgr (PI.or (pi_enum hg hm (pa_cons ha pa_nil hs) hs2) (ZiW hg hm (pa_cons ha pa_nil hs) hs2)) fun σ H Q ⟨S,e,g,R,h⟩ => ?_
  unfold ZeW at h
  cases q:ma e g with
  | no=>
    rw [q] at h
    exact h.elim
  | ex y g1=>
    rw [q] at h
    refine .inl ⟨S,e,g,R,?_⟩
    show RK _ _ _ _ _ _ (ma e g) _
    rw [q]
    exact h
  | ok r g1=>
    rw [q] at h
    obtain ⟨zs,k,h1⟩:=RK.ofO (P:=PIt) (A:=⟨B,S⟩) (o:=(seqOf r).map (enD 0)) (g:=g1) h
    cases ks:seqOf r with
    | none=>
      rw [ks] at k
      cases k
    | some ds=>
      rw [ks] at k
      cases k
      unfold seqOf at ks
      split at ks
      · cases ks
        refine .inr ⟨S,e,g,R,?_⟩
        show RK _ _ _ _ _ _ (ma e g) _
        rw [q]
        intro v H1 x1 i1 o1
        cases o1 with
        | @tup p xs _ k al=>exact ⟨p,xs,rfl,by rw [← hK]; exact ZaU k,by rw [← hK]; exact h1 _ H1 x1 i1 (ZiY R k al)⟩
      all_goals first
        | (cases ks; done)
        | (cases ks
           refine .inl ⟨S,e,g,R,?_⟩
           show RK _ _ _ _ _ _ (ma e g) _
           rw [q]
           intro v H1 x1 i1 o1
           obtain ⟨p,xs,e1,k,n,al⟩:=Zfk R (.refl H) R.gh o1 (by first | exact .inl rfl | exact .inr rfl)
           subst e1
           exact ⟨p,xs,rfl,.inl k,by rw [← hK]; exact h1 _ H1 x1 i1 (ZiX R k n al)⟩)
end
end PB
namespace PB
open PySem PySem.Spec PyProof.Rows L2
end PB
namespace PB
open PySem PySem.Spec PyProof.Rows L2
end PB
namespace PB
open PySem PySem.Spec PyProof.Rows L2
variable [Kts]
section
variable {K:Frag} {O O':Addr→Prop} {H:Hp}
mutual
theorem At.noLD (f:∀ b ys,H b=some (.tup ys)→¬ O b→¬ O' b):∀ {v:V} {d:D},At K O H v d→noLD d=true→At K O' H v d
  | _,_,.non,_=>.non
  | _,_,.bl b,_=>.bl b
  | _,_,.int i,_=>.int i
  | _,_,.str l h h2,_=>.str l h h2
  | _,_,.tup h hs,e=>.tup (h.imp_left fun z=>⟨z.1,f _ _ z.1 z.2⟩) (AtL.noLD f hs e)
  | _,_,.ref a,_=>.ref a
  | _,_,.lst _ _ _,e=>by cases e
  | _,_,.dct _ _ _,e=>by cases e
theorem AtL.noLD (f:∀ b ys,H b=some (.tup ys)→¬ O b→¬ O' b):∀ {v:List V} {d:List D},AtL K O H v d→noLDL d=true→AtL K O' H v d
  | _,_,.nil,_=>.nil
  | _,_,.cons h hs,e=>by
    rw [noLDL,Bool.and_eq_true] at e
    exact .cons (At.noLD f h e.1) (AtL.noLD f hs e.2)
end
end
section
variable {γ ι:Type} {B:Bs γ ι} {W:WX} {X:Cx} {pos pz:Pos} {e:Expr} {es:List Expr} {mr:MA γ} {F:MF γ}
theorem VOkL.weak {A:Act γ ι} {e:Env} {g:γ} {σ:L2.St} {H0 H:Hp} (R:Rep A e g σ H0):∀ {rs:List Rv} {vs:List V},VOkL A e σ H0 H rs vs→AtL A.K A.X H vs (lentL rs)
  | _,_,.nil=>.nil
  | _,_,.cons a h=>.cons (a.weak R) (h.weak R)
end
end PB
namespace PB
open PySem PySem.Spec PyProof.Rows L2
end PB
namespace PB
open PySem PySem.Spec PyProof.Rows L2
end PB
namespace PB
open PySem PySem.Spec PyProof.Rows L2
abbrev TSI (h:Heap) (a:Addr) (x:Str) (t:Tok) (i:Nat):Prop:=h.IsStrIter a "str_ascii_iterator" x t i
theorem TSI.at {h h':Heap} {a:Addr} {x:Str} {t:Tok} {i:Nat} (k:TSI h a x t i) (f:∀ o,h.get? a=some o→h'.get? a=some o):TSI h' a x t i:=by
  obtain ⟨o,e,c⟩:=k
  exact ⟨o,f o e,c⟩
/-- two texts,sign by sign,in new pairs -/
def ItzT (x y:Str):It where
  go i H:=∃ c d,x.cps[i]?=some c∧y.cps[i]?=some d
  yld i H v H':=∃ T c d,v = .ref T∧H T=none∧H'=upd H T (.tup [.str { cps := #[c] },.str { cps := #[d] }])∧x.cps[i]?=some c∧y.cps[i]?=some d
  stop i H:=x.cps[i]?=none∨y.cps[i]?=none
variable [Kts]
end PB
namespace PB
open PySem PySem.Spec PyProof.Rows L2
variable [Kts]
structure CA where
  p:Addr
  nas:List NA
def fpN (na:NA):List Addr:=na.p :: na.ps
def CA.fp (ca:CA):List Addr:=ca.p :: ca.nas.flatMap fpN
structure CuAt (K:Frag) (ca:CA) (n:N3) (H:Hp):Prop where
  hp:H ca.p=some (.lst (ca.nas.map fun na=>V.ref na.p))
  len:ca.nas.length=n.length
  row:∀ (i:Nat) (na:NA) (r:NL),ca.nas[i]?=some na→n[i]?=some r→NlAt K na r H
  nd:(ca.nas.flatMap fpN).Nodup
  np:ca.p ∉ ca.nas.flatMap fpN
section
variable {K:Frag} {ca:CA} {n:N3} {H H':Hp}
theorem Zgf {na:NA} {a:Addr}:a∈fpN na ↔ a=na.p∨a∈na.ps:=List.mem_cons
theorem CuAt.ex (h:CuAt K ca n H) {na:NA} (m:na∈ca.nas):∃ r,NlAt K na r H:=by
  obtain ⟨i,hi⟩:=List.getElem?_of_mem m
  have hl:i < n.length:=by
    rw [← h.len]
    exact (List.getElem?_eq_some_iff.mp hi).1
  exact ⟨_,h.row i na n[i] hi (List.getElem?_eq_getElem hl)⟩
theorem CuAt.lst (h:CuAt K ca n H) {a:Addr} (m:a∈ca.fp):∃ xs,H a=some (.lst xs):=by
  rcases List.mem_cons.mp m with rfl | m
  · exact ⟨_,h.hp⟩
  · obtain ⟨na,h1,h2⟩:=List.mem_flatMap.mp m
    obtain ⟨r,nl⟩:=h.ex h1
    exact nl.lst (Zgf.mp h2)
theorem CuAt.go (h:CuAt K ca n H) (k:∀ a∈ca.fp,H' a=H a) (t:∀ a xs,H a=some (.tup xs)→H' a=some (.tup xs)):CuAt K ca n H' where
  hp:=by rw [k _ List.mem_cons_self]; exact h.hp
  len:=h.len
  row:=fun i na r h1 h2=>(h.row i na r h1 h2).go (fun a z=>k a (List.mem_cons_of_mem _ (List.mem_flatMap.mpr ⟨na,List.mem_of_getElem? h1,Zgf.mpr z⟩))) t
  nd:=h.nd
  np:=h.np
end
end PB
namespace PB
open PySem PySem.Spec PyProof.Rows L2
variable [Kts]
section
variable {γ ι:Type}
variable {B:Bs γ ι} {W:WX} {X:Cx} {ca:CA} {i:Nat} {pos px p1 p2 p3:Pos} {x:Str} {S:Addr→Prop} {e:Env}
/-- a row of rows as data -/
theorem NlAt.atL {K:Frag} {na:NA} {n:NL} {H:Hp} {O:Addr→Prop} (h:NlAt K na n H) (k:∀ a,O a→Stk (H a)) (no:∀ a∈fpN na,¬ O a):At K O H (.ref na.p) (.lst (n.map .lst)):=by
  refine .lst (.inl h.hp) (no _ List.mem_cons_self) ?_
  have rows:∀ (ps2:List Addr) (rs:NL),ps2.length=rs.length→(∀ q∈ps2,q∈na.ps)→(∀ (j:Nat) (q:Addr) (r:List D),ps2[j]?=some q→rs[j]?=some r→∃ xs,H q=some (.lst xs)∧ItL K H xs r)→AtL K O H (ps2.map V.ref) (rs.map D.lst):=by
    intro ps2
    induction ps2 with
    | nil=>
      intro rs hl _ _
      cases rs with
      | nil=>exact .nil
      | cons _ _=>cases hl
    | cons q ps2 ih=>
      intro rs hl hn hrow
      cases rs with
      | nil=>cases hl
      | cons r rs=>
        obtain ⟨xs,e1,il⟩:=hrow 0 q r rfl rfl
        exact .cons (.lst (.inl e1) (no q (List.mem_cons_of_mem _ (hn q List.mem_cons_self))) (il.at k)) (ih rs (Nat.succ.inj hl) (fun q hq=>hn q (List.mem_cons_of_mem _ hq)) fun j q r h1 h2=>hrow (j + 1) q r h1 h2)
  exact rows na.ps n h.len (fun q hq=>hq) h.row
end
end PB
namespace PB
open PySem PySem.Spec PyProof.Rows L2
variable [Kts]
theorem ZfR {α:Type} {l:List α} {a:Int} {r:α} (h:PB.atI l a=some r):∃ j,PB.ixN l.length a=some j∧l[j]?=some r:=by
  unfold PB.atI at h
  cases z:PB.ixN l.length a with
  | none=>rw [z] at h; cases h
  | some j=>rw [z] at h; exact ⟨j,rfl,h⟩
theorem l2at {l:List V} {a:Int} {j:Nat} {v:V} (e:PB.ixN l.length a=some j) (h:l[j]?=some v):L2.atI l a=some v:=by
  unfold L2.atI
  rw [show L2.ixN l.length a=some j from e]
  exact h
section
variable {K:Frag} {ca:CA} {n:N3} {H:Hp}
theorem CuAt.get (h:CuAt K ca n H) {a b c:Int} {d:D} (e:c3At n a b c=some d):∃ (j:Nat) (na:NA) (k:Nat) (q:Addr) (xs:List V) (v:V),PB.ixN ca.nas.length a=some j∧ca.nas[j]?=some na∧PB.ixN na.ps.length b=some k∧na.ps[k]?=some q∧H na.p=some (.lst (na.ps.map V.ref))∧H q=some (.lst xs)∧L2.atI xs c=some v∧It1 K H v d:=by
  unfold c3At at e
  cases e1:PB.atI n a with
  | none=>rw [e1] at e; cases e
  | some r=>
    rw [e1] at e
    have e:((PB.atI r b).bind fun q=>PB.atI q c)=some d:=e
    cases e2:PB.atI r b with
    | none=>rw [e2] at e; cases e
    | some qq=>
      rw [e2] at e
      have e:PB.atI qq c=some d:=e
      obtain ⟨j,j1,j2⟩:=ZfR e1
      obtain ⟨k,k1,k2⟩:=ZfR e2
      obtain ⟨l,l1,l2⟩:=ZfR e
      have hj:j < ca.nas.length:=by
        rw [h.len]
        exact (List.getElem?_eq_some_iff.mp j2).1
      have n1:ca.nas[j]?=some ca.nas[j]:=List.getElem?_eq_getElem hj
      have nl:=h.row j _ r n1 j2
      have hk:k < ca.nas[j].ps.length:=by
        rw [nl.len]
        exact (List.getElem?_eq_some_iff.mp k2).1
      have q1:ca.nas[j].ps[k]?=some ca.nas[j].ps[k]:=List.getElem?_eq_getElem hk
      obtain ⟨xs,hx,il⟩:=nl.row k _ qq q1 k2
      obtain ⟨v,ev,iv⟩:=il.get l2
      exact ⟨j,ca.nas[j],k,ca.nas[j].ps[k],xs,v,by rw [h.len]; exact j1,n1,by rw [nl.len]; exact k1,q1,nl.hp,hx,l2at (by rw [il.length]; exact l1) ev,iv⟩
end
end PB
namespace PB
open PySem PySem.Spec PyProof.Rows L2
end PB
namespace PB
open PySem PySem.Spec PyProof.Rows L2
variable [Kts]
section
variable {γ ι:Type}
variable {B:Bs γ ι} {W:WX} {X:Cx} {na:NA} {i:Nat} {pos px p1 p2:Pos} {x:Str}
/-- what is new later is new,or was one's own -/
theorem Stp.fresh {A:Act γ ι} {e e':Env} {g:γ} {σ σ':L2.St} {H H':Hp} (R':Rep A e' g σ' H') (s:Stp A e σ H e' σ' H') {q:Addr} (h:H' q=none∨OwnA e' σ' q):H q=none∨OwnA e σ q:=by
  rcases h with h | h
  · by_cases o:OwnA e σ q
    · exact .inr o
    · cases k:H q with
      | none=>exact .inl rfl
      | some u=>
        by_cases f:A.G.F q
        · exact absurd h (A.G.trk _ _ _ R'.gh f)
        · have:=s.keep q u k fun z=>z.elim f o
          rw [h] at this
          cases this
  · exact (s.mu q h).elim .inr .inl
end
end PB
namespace PB
open PySem PySem.Spec PyProof.Rows L2
variable [Kts]
abbrev F0:Addr→Prop:=fun _=>False
section
variable {K:Frag} {O O':Addr→Prop} {H H':Hp}
mutual
/-- what holds tuples alone leans on tuples alone -/
theorem At.tp (f:∀ b ys,H b=some (.tup ys)→¬ O b→H' b=some (.tup ys)∧¬ O' b):∀ {v:V} {d:D},At K O H v d→noLD d=true→At K O' H' v d
  | _,_,.non,_=>.non
  | _,_,.bl b,_=>.bl b
  | _,_,.int i,_=>.int i
  | _,_,.str l h h2,_=>.str l h h2
  | _,_,.tup h hs,e=>.tup (h.imp_left fun z=>f _ _ z.1 z.2) (AtL.tp f hs e)
  | _,_,.ref a,_=>.ref a
  | _,_,.lst _ _ _,e=>by cases e
  | _,_,.dct _ _ _,e=>by cases e
theorem AtL.tp (f:∀ b ys,H b=some (.tup ys)→¬ O b→H' b=some (.tup ys)∧¬ O' b):∀ {v:List V} {d:List D},AtL K O H v d→noLDL d=true→AtL K O' H' v d
  | _,_,.nil,_=>.nil
  | _,_,.cons h hs,e=>by
    rw [noLDL,Bool.and_eq_true] at e
    exact .cons (At.tp f h e.1) (AtL.tp f hs e.2)
end
theorem DiS.tp {a:Addr} {ks:List D} {us:List V} (h:DiS K O H a true ks us) (f:∀ b ys,H b=Option.some (.tup ys)→¬ O b→H' b=Option.some (.tup ys)∧¬ O' b) (k:H' a=H a):DiS K O' H' a true ks us:=by
  obtain ⟨o,xs,e,r1,r2,r3,r4⟩:=DiS.tt.mp h
  exact DiS.tt.mpr ⟨o,xs,by rw [k]; exact e,r1,r2,fun x hx=>(r3 x hx).elim (fun z=>.inl (f _ _ z.1 z.2)) .inr,r4⟩
def PlV (K:Frag) (H:Hp) (v:V) (d:D):Prop:=At K F0 H v d∧noLD d=true
def FzV (K:Frag) (H:Hp) (v:V) (d:D):Prop:=∃ p ob xs ds,v = .ref p∧d = .lst ds∧H p=some (.frz ob (.lst xs))∧AtL K F0 H xs ds∧noLDL ds=true
theorem PlV.go {v:V} {d:D} (h:PlV K H v d) (t:∀ a u,Sm u→H a=some u→H' a=some u):PlV K H' v d:=⟨h.1.tp (fun b ys q _=>⟨t b _ trivial q,id⟩) h.2,h.2⟩
theorem FzV.go {v:V} {d:D} (h:FzV K H v d) (t:∀ a u,Sm u→H a=some u→H' a=some u):FzV K H' v d:=by
  obtain ⟨p,ob,xs,ds,e1,e2,e3,e4,e5⟩:=h
  exact ⟨p,ob,xs,ds,e1,e2,t _ _ trivial e3,e4.tp (fun b ys q _=>⟨t b _ trivial q,id⟩) e5,e5⟩
theorem PlV.at {v:V} {d:D} (h:PlV K H v d) (k:∀ a,O a→Stk (H a)):At K O H v d:=h.1.tp (fun b ys q _=>⟨q,fun z=>(k b z).notT ys q⟩) h.2
theorem FzV.at {v:V} {d:D} (h:FzV K H v d) (k:∀ a,O a→Stk (H a)):At K O H v d:=by
  obtain ⟨p,ob,xs,ds,rfl,rfl,e3,e4,e5⟩:=h
  exact .lst (.inr ⟨ob,e3⟩) (fun z=>(k p z).notS (v:=.frz ob (.lst xs)) trivial e3) (e4.tp (fun b ys q _=>⟨q,fun z=>(k b z).notT ys q⟩) e5)
theorem Zb3 {α β:Type} {P Q:α→β→Prop}:∀ {xs:List α} {ys:List β},Paired P xs ys→(∀ x y,P x y→Q x y)→Paired Q xs ys
  | _,_,.nil,_=>.nil
  | _,_,.cons h hs,f=>.cons (f _ _ h) (Zb3 hs f)
theorem KeyAt.tp {y:V} {d:D} (h:KeyAt K O H true y d) (f:∀ b ys,H b=some (.tup ys)→¬ O b→H' b=some (.tup ys)∧¬ O' b):KeyAt K O' H' true y d:=by
  obtain ⟨k,b,e1,e2,e3,e4⟩:=h
  exact ⟨k,b,e1,e2.imp_left fun z=>f _ _ z.1 z.2,e3,e4⟩
end
/-- where it stands: itself,its dicts,its rows -/
structure WA where
  a:Addr
  sd:Addr
  md:Addr
  na:NA
def WA.fp (w:WA) (b:Addr):Prop:=b=w.a∨b=w.sd∨b=w.md∨b=w.na.p∨b∈w.na.ps
def wyF (vw vp:V) (w:WA):List (Str×V):=[("words",vw),("price",vp),("rest",.ref w.na.p),("steps",.ref w.sd),("many_on",.ref w.md)]
structure WyAt (K:Frag) (C:Addr) (w:WA) (s:WS) (H:Hp):Prop where
  ea:s.a=w.a
  ins:∃ dx vw vp,H w.a=some (.ins C dx (wyF vw vp w))∧PlV K H vw s.words∧PlV K H vp s.price
  rest:NlAt K w.na s.rest H
  st:∃ us,DiS K F0 H w.sd true s.sk us∧Paired (FzV K H) us s.sv
  mn:∃ us,DiS K F0 H w.md true s.qk us∧Paired (PlV K H) us s.qv
  ne:w.sd≠w.md
section
variable {K:Frag} {C:Addr} {w:WA} {s:WS} {H H':Hp}
theorem WyAt.stk (h:WyAt K C w s H) {b:Addr} (m:w.fp b):Stk (H b):=by
  rcases m with rfl | rfl | rfl | m
  · obtain ⟨_,_,_,e,_⟩:=h.ins
    exact .of e trivial
  · obtain ⟨_,e,_⟩:=h.st
    exact e.stk
  · obtain ⟨_,e,_⟩:=h.mn
    exact e.stk
  · obtain ⟨xs,e⟩:=h.rest.lst m
    exact .lst e
theorem WyAt.go (h:WyAt K C w s H) (k:∀ a,w.fp a→H' a=H a) (t:∀ a u,Sm u→H a=some u→H' a=some u):WyAt K C w s H' where
  ea:=h.ea
  ins:=by
    obtain ⟨dx,vw,vp,e,p1,p2⟩:=h.ins
    exact ⟨dx,vw,vp,by rw [k _ (.inl rfl)]; exact e,p1.go t,p2.go t⟩
  rest:=h.rest.go (fun a z=>k a (.inr (.inr (.inr z)))) fun a xs q=>t a _ trivial q
  st:=by
    obtain ⟨us,d,p⟩:=h.st
    exact ⟨us,d.tp (fun b ys q _=>⟨t b _ trivial q,id⟩) (k _ (.inr (.inl rfl))),Zb3 p fun _ _ z=>z.go t⟩
  mn:=by
    obtain ⟨us,d,p⟩:=h.mn
    exact ⟨us,d.tp (fun b ys q _=>⟨t b _ trivial q,id⟩) (k _ (.inr (.inr (.inl rfl)))),Zb3 p fun _ _ z=>z.go t⟩
  ne:=h.ne
end
end PB
namespace PB
open PySem PySem.Spec PyProof.Rows L2
end PB
namespace PB
open PySem PySem.Spec PyProof.Rows L2
end PB
namespace PB
open PySem PySem.Spec PyProof.Rows L2
end PB
namespace PB
open PySem PySem.Spec PyProof.Rows L2
variable [Kts]
section
variable {γ ι:Type} {B:Bs γ ι} {W:WX} {X:Cx} {C x:Addr} {w:WA} {S S':Addr→Prop} {e:Env} {g g':γ} {σ:L2.St} {H H' H0 H1:Hp}
theorem ZiZ {A:Act γ ι} (i:A.G.I g H) (k:∀ b o,H b=some o→¬ A.G.F b→H' b=some o):∀ a u,Sm u→H a=some u→H' a=some u:=fun a u hu q=>k a u q fun z=>(A.G.stk g H a i z).notS hu q
/-- the thing's own cell changes -/
theorem Rep.cell {dx:Addr} {fs fs':List (Str×V)} (R:Rep ⟨B,S⟩ e g σ H) (sx:S x) (nf:¬ (B.fam B.i).F x) (hx:H x=some (.ins C dx fs)):Rep ⟨B,S⟩ e g σ (upd H x (.ins C dx fs')):=
  R.exX (fun b o q n=>by
    rw [upd_ne (fun z=>n (by rw [z]; exact sx))]
    exact q) (fun a z=>by
    by_cases q:a=x
    · rw [q]
      exact .of upd_same trivial
    · rw [upd_ne q]
      exact R.xs a z) ((B.fam B.i).stab _ _ _ R.gh (fun a z=>upd_ne fun q=>nf (by rw [← q]; exact z)) fun a u hu q=>by
    rw [upd_ne (fun z=>by rw [z,hx] at q; cases q; exact hu)]
    exact q)
end
end PB
namespace PB
open PySem PySem.Spec PyProof.Rows L2
variable [Kts]
section
variable {γ ι:Type} {B:Bs γ ι} {W:WX} {X:Cx} {C:Addr} {S:Addr→Prop} {e:Env} {σ:L2.St} {g1 g2:γ} {M:List D→Nat→γ→Rs γ WS}
/-- the thing stands through what else is done -/
theorem WyAt.exe {w:WA} {s:WS} {H1 H2:Hp} (h:WyAt B.K C w s H1) (i:(B.fam B.i).I g1 H1) (nf:∀ a,w.fp a→¬ (B.fam B.i).F a) (x:ExE ⟨B,S⟩ H1 H2):WyAt B.K C w s H2:=h.go (fun a z=>by
  obtain ⟨_,u,e,_⟩:=h.stk z
  rw [e]
  exact x a u e (nf a z)) (ZiZ (A:=⟨B,S⟩) i x)
end
end PB
namespace PB
open PySem PySem.Spec PyProof.Rows L2
end PB
namespace PB
open PySem PySem.Spec PyProof.Rows L2
end PB
namespace PB
open PySem PySem.Spec PyProof.Rows L2
end PB
namespace PB
open PySem PySem.Spec PyProof.Rows L2
end PB
namespace L2
open PySem PySem.Spec PyProof.Rows
end L2
namespace PB
open PySem PySem.Spec PyProof.Rows L2
end PB
namespace PB
open PySem PySem.Spec PyProof.Rows L2
end PB
namespace PB
open PySem PySem.Spec PyProof.Rows L2
variable [Kts]
section
variable {γ ι:Type}
abbrev Bs.to (B:Bs γ ι) (j:ι):Bs γ ι:=⟨B.K,B.T,B.fam,j,B.xa⟩
abbrev ac (B:Bs γ ι) (i:ι) (S:Addr→Prop):Act γ ι:=⟨B.to i,S⟩
/-- from one of the family to another: what it has more is new -/
structure Nx (B:Bs γ ι) (i:ι) (S:Addr→Prop) (N:Addr→Prop) (i':ι) (S':Addr→Prop):Prop where
  up:∀ a,S a→S' a
  s:∀ a,S' a→S a∨N a
  f:∀ a,(B.fam i').F a→(B.fam i).F a∨N a
  ad:(B.fam i').ad=(B.fam i).ad
/-- what stands beside holds -/
structure Gd (B:Bs γ ι) (i:ι) (S:Addr→Prop) (g:γ) (H:Hp):Prop where
  gh:(B.fam i).I g H
  fx:∀ a,(B.fam i).F a→S a
  st:∀ a,S a→Stk (H a)
abbrev nn (H:Hp):Addr→Prop:=fun a=>H a=none
abbrev nw (e:Env) (σ:L2.St) (H:Hp):Addr→Prop:=fun a=>H a=none∨OwnA e σ a
variable {B:Bs γ ι} {i i1 i2:ι} {S S1 S2:Addr→Prop} {N N1:Addr→Prop} {e e1 e2:Env} {g g1 g2:γ} {σ σ1 σ2:L2.St} {H H1 H2 H0:Hp}
theorem Nx.refl:Nx B i S N i S:=⟨fun _ z=>z,fun _ z=>.inl z,fun _ z=>.inl z,rfl⟩
theorem Nx.trans (a:Nx B i S N i1 S1) (b:Nx B i1 S1 N1 i2 S2) (fx:∀ a,(B.fam i).F a→S a) (hN:∀ a,N1 a→(B.fam i).F a∨N a):Nx B i S N i2 S2 where
  up:=fun c z=>b.up c (a.up c z)
  s:=fun c z=>(b.s c z).elim (a.s c) fun z=>(hN c z).imp_left (fx c)
  f:=fun c z=>(b.f c z).elim (a.f c) (hN c)
  ad:=b.ad.trans a.ad
theorem Nx.mono (a:Nx B i S N i1 S1) (h:∀ a,N a→N1 a):Nx B i S N1 i1 S1:=⟨a.up,fun c z=>(a.s c z).imp_right (h c),fun c z=>(a.f c z).imp_right (h c),a.ad⟩
theorem Zgg (R:Rep (ac B i S) e g σ H) (x:ExE (ac B i S) H H1):∀ a,nn H1 a→(B.fam i).F a∨nn H a:=fun a z=>by
  cases q:H a with
  | none=>exact .inr q
  | some o=>
    by_cases f:(B.fam i).F a
    · exact .inl f
    · have:=x a o q f
      rw [show H1 a=none from z] at this
      cases this
theorem ExE.transQ (x:ExE (ac B i S) H H1) (n:Nx B i S (nn H) i1 S1) (y:ExE (ac B i1 S1) H1 H2):ExE (ac B i S) H H2:=fun b o q nf=>y b o (x b o q nf) fun z=>(n.f b z).elim nf fun z=>by
  rw [show H b=none from z] at q
  cases q
theorem Nx.transQ (R:Rep (ac B i S) e g σ H) (x:ExE (ac B i S) H H1) (a:Nx B i S (nn H) i1 S1) (b:Nx B i1 S1 (nn H1) i2 S2):Nx B i S (nn H) i2 S2:=a.trans b R.fx (Zgg R x)
/-- an expression's value -/
def VO2 (A:Act γ ι) (e:Env) (σ:L2.St) (H0 H:Hp) (r:Rv) (v:V):Prop:=VOk A e σ H0 H r v∧∀ p,v = .ref p→H0 p=none→A.X p→∃ d,r = .dat d
abbrev VO2L (A:Act γ ι) (e:Env) (σ:L2.St) (H0 H:Hp) (rs:List Rv) (vs:List V):Prop:=Paired (VO2 A e σ H0 H) rs vs
variable {r:Rv} {v:V}
theorem VO2.of (R:Rep (ac B i S) e g σ H0) (o:VOk (ac B i S) e σ H0 H r v):VO2 (ac B i S) e σ H0 H r v:=⟨o,fun p _ h z=>absurd h (R.xt p z)⟩
theorem VO2.dat {A:Act γ ι} {d:D} (o:At A.K (Om A e σ) H v d):VO2 A e σ H0 H (.dat d) v:=⟨o,fun _ _ _ _=>⟨d,rfl⟩⟩
/-- through a later step -/
theorem VO2.step (R0:Rep (ac B i S) e g σ H0) (R1:Rep (ac B i1 S1) e g1 σ H1) (x:ExE (ac B i1 S1) H1 H2) (n:Nx B i1 S1 (nn H1) i2 S2) (o:VO2 (ac B i1 S1) e σ H0 H1 r v):VO2 (ac B i2 S2) e σ H0 H2 r v:=by
  obtain ⟨o,w⟩:=o
  have some_ne:∀ {a o},H1 a=some o→¬ nn H1 a:=fun {a o} q z=>by
    rw [show H1 a=none from z] at q
    cases q
  have go:∀ a o,H1 a=some o→¬ Om (ac B i1 S1) e σ a→H2 a=some o∧¬ Om (ac B i2 S2) e σ a:=fun a o q nO=>⟨x a o q fun z=>nO (.inl (R1.fx a z)),fun z=>z.elim (fun z=>(n.s a z).elim (fun z=>nO (.inl z)) fun z=>some_ne q z) fun z=>nO (.inr z)⟩
  cases r with
  | dat d=>exact .dat (At.go go o)
  | own ds=>
    obtain ⟨p,xs,e1,h0,k,a⟩:=o
    have nS:¬ S1 p:=fun z=>by
      obtain ⟨_,q⟩:=w p e1 h0 z
      cases q
    refine ⟨⟨p,xs,e1,h0,x p _ k fun z=>nS (R1.fx p z),a.go fun a o q nO=>⟨(go a o q fun z=>nO (.inl z)).1,fun z=>z.elim (fun z=>(go a o q fun z=>nO (.inl z)).2 z) fun z=>nO (.inr z)⟩⟩,fun q e2 h z => ?_⟩
    rw [e1] at e2
    cases e2
    exact absurd ((n.s p z).resolve_left nS) (some_ne k)
  | bor ds=>
    obtain ⟨p,xs,e1,h0,k,a⟩:=o
    refine ⟨⟨p,xs,e1,h0,x p _ k (R1.notF h0),a.go go⟩,fun q e2 h z => ?_⟩
    rw [e1] at e2
    cases e2
    exact absurd h (h0.stk R0).1.1
  | odt t ks vs=>
    obtain ⟨p,us,e1,h0,k,a⟩:=o
    have nS:¬ S1 p:=fun z=>by
      obtain ⟨_,q⟩:=w p e1 h0 z
      cases q
    have f:∀ b o,H1 b=some o→¬ (Om (ac B i1 S1) e σ b∨b=p)→H2 b=some o∧¬ (Om (ac B i2 S2) e σ b∨b=p):=fun a o q nO=>⟨(go a o q fun z=>nO (.inl z)).1,fun z=>z.elim (fun z=>(go a o q fun z=>nO (.inl z)).2 z) fun z=>nO (.inr z)⟩
    refine ⟨⟨p,us,e1,h0,k.go f fun o q=>x p o q fun z=>nS (R1.fx p z),a.go f⟩,fun q e2 h z => ?_⟩
    rw [e1] at e2
    cases e2
    obtain ⟨o,k⟩:=k.some
    exact absurd ((n.s p z).resolve_left nS) (some_ne k)
  | bdt t ks vs=>
    obtain ⟨p,us,e1,h0,k,a⟩:=o
    refine ⟨⟨p,us,e1,h0,k.go go fun o q=>x p o q (R1.notF h0),a.go go⟩,fun q e2 h z => ?_⟩
    rw [e1] at e2
    cases e2
    exact absurd h (h0.stk R0).1.1
/-- from a later beginning -/
theorem VO2.pre (R0:Rep (ac B i S) e g σ H0) (x:ExE (ac B i S) H0 H1) (n:Nx B i S (nn H0) i1 S1) (R1:Rep (ac B i1 S1) e g1 σ H1) (up:∀ a,S1 a→S2 a) (o:VO2 (ac B i2 S2) e σ H1 H r v):VO2 (ac B i2 S2) e σ H0 H r v:=by
  obtain ⟨o,w⟩:=o
  have back:∀ {p},H1 p=none→H0 p=none:=fun {p} h=>(Zgg R0 x p h).elim (fun f=>absurd h (R1.xs p (n.up p (R0.fx p f))).1.1) id
  cases r with
  | dat d=>exact .dat o
  | own ds=>
    obtain ⟨p,xs,e1,h0,k,a⟩:=o
    refine ⟨⟨p,xs,e1,back h0,k,a⟩,fun q e2 h z => ?_⟩
    rw [e1] at e2
    cases e2
    obtain ⟨_,q⟩:=w p e1 h0 z
    cases q
  | bor ds=>
    obtain ⟨p,xs,e1,h0,k,a⟩:=o
    refine ⟨⟨p,xs,e1,h0,k,a⟩,fun q e2 h z => ?_⟩
    rw [e1] at e2
    cases e2
    exact absurd h (h0.stk R0).1.1
  | odt t ks vs=>
    obtain ⟨p,us,e1,h0,k,a⟩:=o
    refine ⟨⟨p,us,e1,back h0,k,a⟩,fun q e2 h z => ?_⟩
    rw [e1] at e2
    cases e2
    obtain ⟨_,q⟩:=w p e1 h0 z
    cases q
  | bdt t ks vs=>
    obtain ⟨p,us,e1,h0,k,a⟩:=o
    refine ⟨⟨p,us,e1,h0,k,a⟩,fun q e2 h z => ?_⟩
    rw [e1] at e2
    cases e2
    exact absurd h (h0.stk R0).1.1
theorem VO2.sto (R0:Rep (ac B i S) e g σ H0) (o:VO2 (ac B i1 S1) e σ H0 H r v) {d:D} (hs:r.sto=some d):At B.K (Om (ac B i1 S1) e σ) H v d:=by
  obtain ⟨o,w⟩:=o
  cases r with
  | dat d'=>
    cases hs
    exact o
  | own ds=>
    cases hs
    obtain ⟨p,xs,e1,h0,k,a⟩:=o
    subst e1
    refine .lst (.inl k) (fun z=>z.elim (fun z => ?_) fun z=>(z.stk R0).1.1 h0) (a.less fun a z=>.inl z)
    obtain ⟨_,q⟩:=w p rfl h0 z
    cases q
  | bor ds=>cases hs
  | odt t ks vs=>
    cases hs
    obtain ⟨p,us,e1,h0,k,a⟩:=o
    subst e1
    refine .dct (.of (k.less fun a z=>.inl z)) (fun z=>z.elim (fun z => ?_) fun z=>(z.stk R0).1.1 h0) (a.less fun a z=>.inl z)
    obtain ⟨_,q⟩:=w p rfl h0 z
    cases q
  | bdt t ks vs=>cases hs
theorem VO2L.sto (R0:Rep (ac B i S) e g σ H0):∀ {rs:List Rv} {vs:List V} {ds:List D},VO2L (ac B i1 S1) e σ H0 H rs vs→stoL rs=some ds→AtL B.K (Om (ac B i1 S1) e σ) H vs ds
  | [],_,ds,.nil,hs=>by
    cases hs
    exact .nil
  | r :: rs,_,ds,.cons h hr,hs=>by
    unfold stoL at hs
    cases e1:r.sto with
    | none=>rw [e1] at hs; cases hs
    | some d=>
      cases e2:stoL rs with
      | none=>rw [e1,e2] at hs; cases hs
      | some es=>
        rw [e1,e2] at hs
        cases hs
        exact .cons (h.sto R0 e1) (VO2L.sto R0 hr e2)
theorem VO2L.length {A:Act γ ι}:∀ {rs:List Rv} {vs:List V},VO2L A e σ H0 H rs vs→vs.length=rs.length
  | _,_,.nil=>rfl
  | _,_,.cons _ h=>by rw [List.length_cons,List.length_cons,VO2L.length h]
/-- what is wanted of a result -/
def QK {α β:Type} (P:Act γ ι→Env→L2.St→Hp→Hp→α→β→Prop) (B:Bs γ ι) (W:WX) (i:ι) (S:Addr→Prop) (e:Env) (σ:L2.St) (H:Hp) (r:Rs γ α) (Q:β→Hp→Prop):Prop:=match r with
  | .ok a g'=>∀ b H' i' S',Nx B i S (nn H) i' S'→ExE (ac B i S) H H'→Rep (ac B i' S') e g' σ H'→P (ac B i' S') e σ H H' a b→Q b H'
  | .ex x g'=>∀ c od H' i' S',Nx B i S (nn H) i' S'→ExE (ac B i S) H H'→Gd B i' S' g' H'→XOk B.T x c od H'→W c od σ H'
  | .no=>False
def QG {α β:Type} (P:Act γ ι→Env→L2.St→Hp→Hp→α→β→Prop) (B:Bs γ ι) (W:WX) (m:Env→γ→Rs γ α):L2.St→Hp→(β→Hp→Prop)→Prop:=
  fun σ H Q=>∃ (i:ι) (S:Addr→Prop) (e:Env) (g:γ),Rep (ac B i S) e g σ H∧QK P B W i S e σ H (m e g) Q
abbrev QA (B:Bs γ ι) (W:WX) (m:MA γ):TA:=QG VO2L B W m
theorem QK.bind {α β α' β':Type} {P:Act γ ι→Env→L2.St→Hp→Hp→α→β→Prop} {P':Act γ ι→Env→L2.St→Hp→Hp→α'→β'→Prop} {W:WX} {m:Rs γ α'} {f:α'→γ→Rs γ α} {Q:β→Hp→Prop} {k:β'→Hp→Prop}
    (R:Rep (ac B i S) e g σ H) (n:Nx B i S (nn H) i1 S1) (x:ExE (ac B i S) H H1) (h:QK P B W i S e σ H (m.bind f) Q)
    (hk:∀ a g2 b H2 i2 S2,Nx B i1 S1 (nn H1) i2 S2→Nx B i S (nn H) i2 S2→ExE (ac B i1 S1) H1 H2→ExE (ac B i S) H H2→Rep (ac B i2 S2) e g2 σ H2→P' (ac B i2 S2) e σ H1 H2 a b→QK P B W i S e σ H (f a g2) Q→k b H2):QK P' B W i1 S1 e σ H1 m k:=by
  cases m with
  | no=>exact h
  | ex y g=>exact fun c od H' i' S' n' x' gd r=>h c od H' i' S' (n.transQ R x n') (x.transQ n x') gd r
  | ok a g=>exact fun b H' i' S' n' x' R' p=>hk a g b H' i' S' n' (n.transQ R x n') x' (x.transQ n x') R' p h
theorem QK.ofO {α β:Type} {P:Act γ ι→Env→L2.St→Hp→Hp→α→β→Prop} {W:WX} {o:Option α} {Q:β→Hp→Prop} (h:QK P B W i S e σ H (PB.ofO o g) Q) :
    ∃ a,o=some a∧∀ b H' i' S',Nx B i S (nn H) i' S'→ExE (ac B i S) H H'→Rep (ac B i' S') e g σ H'→P (ac B i' S') e σ H H' a b→Q b H':=by
  cases o with
  | none=>exact h.elim
  | some a=>exact ⟨a,rfl,h⟩
variable {W:WX} {X:Cx} {a:Expr} {as:List Expr} {ma:ME γ} {mr:MA γ} {ta:MT γ}
end
end PB
namespace PB
open PySem PySem.Spec PyProof.Rows L2
variable [Kts]
section
variable {γ ι:Type} {B:Bs γ ι} {i i1 i2:ι} {S S1 S2:Addr→Prop} {e e1 e2:Env} {g g1 g2:γ} {σ σ1 σ2:L2.St} {H H1 H2 H0:Hp} {W:WX} {Dd:Ends}
def QSK (B:Bs γ ι) (W:WX) (i:ι) (S:Addr→Prop) (e:Env) (σ:L2.St) (H:Hp) (r:Rs γ Fl) (Dd:Ends):Prop:=match r with
  | .ok (.nx e') g'=>∀ σ' H' i' S',Nx B i S (nw e σ H) i' S'→Rep (ac B i' S') e' g' σ' H'→Stp (ac B i S) e σ H e' σ' H'→Dd.nx σ' H'
  | .ok (.bk e') g'=>∀ σ' H' i' S',Nx B i S (nw e σ H) i' S'→Rep (ac B i' S') e' g' σ' H'→Stp (ac B i S) e σ H e' σ' H'→Dd.bk σ' H'
  | .ok (.ct e') g'=>∀ σ' H' i' S',Nx B i S (nw e σ H) i' S'→Rep (ac B i' S') e' g' σ' H'→Stp (ac B i S) e σ H e' σ' H'→Dd.ct σ' H'
  | .ok (.rt r) g'=>∀ v H' i' S',Nx B i S (nw e σ H) i' S'→(∀ b o,H b=some o→¬ Mu (ac B i S) e σ b→H' b=some o)→Gd B i' S' g' H'→VRet (ac B i' S') e σ H H' r v→Dd.rt v H'
  | .ex x g'=>∀ c od σ' H' i' S',Nx B i S (nw e σ H) i' S'→(∀ b o,H b=some o→¬ Mu (ac B i S) e σ b→H' b=some o)→Gd B i' S' g' H'→XOk B.T x c od H'→W c od σ' H'
  | .no=>False
def QS (B:Bs γ ι) (W:WX) (m:MS γ):TS:=fun Dd σ H=>∃ (i:ι) (S:Addr→Prop) (e:Env) (g:γ),Rep (ac B i S) e g σ H∧QSK B W i S e σ H (m e g) Dd
/-- what is new later -/
theorem ZfS (fx:∀ a,(B.fam i).F a→S a) (gd:∀ a,S1 a→Stk (H1 a)) (up:∀ a,S a→S1 a) (kp:∀ b o,H b=some o→¬ Mu (ac B i S) e σ b→H1 b=some o):∀ a,H1 a=none→nw e σ H a:=fun a z=>by
  cases q:H a with
  | none=>exact .inl q
  | some o=>
    by_cases f:(B.fam i).F a
    · exact absurd z (gd a (up a (fx a f))).1.1
    · by_cases w:OwnA e σ a
      · exact .inr w
      · have:=kp a o q fun y=>y.elim f w
        rw [z] at this
        cases this
theorem Zgh (fx:∀ a,(B.fam i).F a→S a) (R1:Rep (ac B i1 S1) e1 g1 σ1 H1) (n:Nx B i S (nw e σ H) i1 S1) (s:Stp (ac B i S) e σ H e1 σ1 H1):∀ a,nw e1 σ1 H1 a→nw e σ H a:=fun a z=>z.elim (ZfS fx R1.xs n.up s.keep a) fun z=>(s.mu a z).elim .inr .inl
theorem Stp.transQ (fx:∀ a,(B.fam i).F a→S a) (R1:Rep (ac B i1 S1) e1 g1 σ1 H1) (n:Nx B i S (nw e σ H) i1 S1) (a:Stp (ac B i S) e σ H e1 σ1 H1) (b:Stp (ac B i1 S1) e1 σ1 H1 e2 σ2 H2):Stp (ac B i S) e σ H e2 σ2 H2 where
  keep:=fun c o h nm=>b.keep c o (a.keep c o h nm) fun z=>z.elim (fun z=>(n.f c z).elim (fun z=>nm (.inl z)) fun z=>z.elim (fun z=>by rw [z] at h; cases h) fun z=>nm (.inr z)) fun z=>(a.mu c z).elim (fun z=>nm (.inr z)) fun z=>by
    rw [z] at h
    cases h
  mu:=fun c z=>(b.mu c z).elim (a.mu c) fun z=>(ZfS fx R1.xs n.up a.keep c z).elim .inr .inl
theorem Stp.kpQ (n:Nx B i S (nw e σ H) i1 S1) (s:Stp (ac B i S) e σ H e1 σ1 H1) (h:∀ b o,H1 b=some o→¬ Mu (ac B i1 S1) e1 σ1 b→H2 b=some o):∀ b o,H b=some o→¬ Mu (ac B i S) e σ b→H2 b=some o:=fun b o q nm=>
  h b o (s.keep b o q nm) fun z=>z.elim (fun z=>(n.f b z).elim (fun z=>nm (.inl z)) fun z=>z.elim (fun z=>by rw [z] at q; cases q) fun z=>nm (.inr z)) fun z=>(s.mu b z).elim (fun z=>nm (.inr z)) fun z=>by
    rw [z] at q
    cases q
theorem Nx.transS (fx:∀ a,(B.fam i).F a→S a) (R1:Rep (ac B i1 S1) e1 g1 σ1 H1) (n:Nx B i S (nw e σ H) i1 S1) (s:Stp (ac B i S) e σ H e1 σ1 H1) (b:Nx B i1 S1 (nw e1 σ1 H1) i2 S2):Nx B i S (nw e σ H) i2 S2:=
  n.trans b fx fun a z=>.inr (Zgh fx R1 n s a z)
theorem VRet.preQ (fx:∀ a,(B.fam i).F a→S a) (R1:Rep (ac B i1 S1) e1 g1 σ1 H1) (n:Nx B i S (nw e σ H) i1 S1) (s:Stp (ac B i S) e σ H e1 σ1 H1) {A:Act γ ι} {r:Rv} {v:V} (h:VRet A e1 σ1 H1 H2 r v):VRet A e σ H H2 r v:=by
  have bk:∀ p,(OwnA e1 σ1 p∨H1 p=none)→OwnA e σ p∨H p=none:=fun p z=>(Zgh fx R1 n s p (z.elim .inr .inl)).elim .inr .inl
  unfold VRet at h ⊢
  cases k:r.ret with
  | dat d=>
    rw [k] at h
    exact h
  | own ds=>
    rw [k] at h
    obtain ⟨p,xs,e1,h0,r⟩:=h
    exact ⟨p,xs,e1,bk p h0,r⟩
  | bor ds=>
    rw [k] at h
    exact h.elim
  | bdt t ks vs=>
    rw [k] at h
    exact h.elim
  | odt t ks vs=>
    rw [k] at h
    obtain ⟨p,xs,e1,h0,r⟩:=h
    exact ⟨p,xs,e1,bk p h0,r⟩
theorem QSK.late {r:Rs γ Fl} (fx:∀ a,(B.fam i).F a→S a) (R1:Rep (ac B i1 S1) e1 g1 σ1 H1) (n:Nx B i S (nw e σ H) i1 S1) (s:Stp (ac B i S) e σ H e1 σ1 H1) (h:QSK B W i S e σ H r Dd):QSK B W i1 S1 e1 σ1 H1 r Dd:=by
  cases r with
  | no=>exact h
  | ex x g'=>exact fun c od σ2 H2 i2 S2 n2 k gd xo=>h c od σ2 H2 i2 S2 (n.transS fx R1 s n2) (s.kpQ n k) gd xo
  | ok f g'=>
    cases f with
    | nx e2=>exact fun σ2 H2 i2 S2 n2 R2 s2=>h σ2 H2 i2 S2 (n.transS fx R1 s n2) R2 (s.transQ fx R1 n s2)
    | bk e2=>exact fun σ2 H2 i2 S2 n2 R2 s2=>h σ2 H2 i2 S2 (n.transS fx R1 s n2) R2 (s.transQ fx R1 n s2)
    | ct e2=>exact fun σ2 H2 i2 S2 n2 R2 s2=>h σ2 H2 i2 S2 (n.transS fx R1 s n2) R2 (s.transQ fx R1 n s2)
    | rt r=>exact fun v H2 i2 S2 n2 k gd o=>h v H2 i2 S2 (n.transS fx R1 s n2) (s.kpQ n k) gd (o.preQ fx R1 n s)
theorem ZjD (a:Addr) (z:nn H a):nw e σ H a:=.inl z
theorem QSK.bind {α β:Type} {P:Act γ ι→Env→L2.St→Hp→Hp→α→β→Prop} {m:Rs γ α} {f:α→γ→Rs γ Fl} {k:β→Hp→Prop} (R:Rep (ac B i S) e g σ H) (h:QSK B W i S e σ H (m.bind f) Dd)
    (hk:∀ a g1 b H2 i2 S2,Nx B i S (nn H) i2 S2→ExE (ac B i S) H H2→Rep (ac B i2 S2) e g1 σ H2→P (ac B i2 S2) e σ H H2 a b→QSK B W i S e σ H (f a g1) Dd→k b H2):QK P B W i S e σ H m k:=by
  cases m with
  | no=>exact h
  | ex y g=>exact fun c od H' i' S' n x gd r=>h c od σ H' i' S' (n.mono ZjD) (fun b o q nm=>x b o q fun z=>nm (.inl z)) gd r
  | ok a g=>exact fun b H' i' S' n x R' p=>hk a g b H' i' S' n x R' p h
variable {X:Cx} {pos:Pos} {a b c:Expr} {as:List Expr} {ma mb:ME γ} {mr:MA γ} {ta tb:MT γ} {st:Stmt} {rest:List Stmt} {s1 s2:MS γ}
theorem VO2L.pre (R0:Rep (ac B i S) e g σ H0) (x:ExE (ac B i S) H0 H1) (n:Nx B i S (nn H0) i1 S1) (R1:Rep (ac B i1 S1) e g1 σ H1) (up:∀ a,S1 a→S2 a):∀ {rs:List Rv} {vs:List V},VO2L (ac B i2 S2) e σ H1 H rs vs→VO2L (ac B i2 S2) e σ H0 H rs vs
  | _,_,.nil=>.nil
  | _,_,.cons h hr=>.cons (h.pre R0 x n R1 up) (VO2L.pre R0 x n R1 up hr)
end
end PB
namespace PB
open PySem PySem.Spec PyProof.Rows L2
end PB
namespace PB
open PySem PySem.Spec PyProof.Rows L2
end PB
namespace PB
open PySem PySem.Spec PyProof.Rows L2
variable [Kts]
/-- whatever changes,what never changes makes it stand for the datum -/
def Fz (K:Frag) (H:Hp) (v:V) (d:D):Prop:=∀ (H':Hp) (O':Addr→Prop),(∀ a u,Sm u→H a=some u→H' a=some u∧¬ O' a)→At K O' H' v d
section
variable {K:Frag} {O:Addr→Prop} {H H':Hp}
theorem Fz.go {v:V} {d:D} (h:Fz K H v d) (t:∀ a u,Sm u→H a=some u→H' a=some u):Fz K H' v d:=fun H2 O2 k=>h H2 O2 fun a u hu q=>k a u hu (t a u hu q)
theorem Fz.at {v:V} {d:D} (h:Fz K H v d) (k:∀ a,O a→Stk (H a)):At K O H v d:=h H O fun a u hu q=>⟨q,fun z=>(k a z).notS hu q⟩
end
/-- what stood: words and a price,in a pair -/
def EntAt (K:Frag) (H:Hp) (v:V) (d:D):Prop:=∃ (tp:Addr) (vw vn:V) (wd nd:D),v = .ref tp∧d = .tup [wd,nd]∧H tp=some (.tup [vw,vn])∧Fz K H vw wd∧Fz K H vn nd
theorem EntAt.go {K:Frag} {H H':Hp} {v:V} {d:D} (h:EntAt K H v d) (t:∀ a u,Sm u→H a=some u→H' a=some u):EntAt K H' v d:=by
  obtain ⟨tp,vw,vn,wd,nd,e1,e2,e3,f1,f2⟩:=h
  exact ⟨tp,vw,vn,wd,nd,e1,e2,t _ _ trivial e3,f1.go t,f2.go t⟩
/-- where a desk stands: itself,its lists -/
structure DA where
  a:Addr
  p:Addr
  u:Addr
def DA.fp (w:DA) (b:Addr):Prop:=b=w.a∨b=w.p∨b=w.u
def dkF (vw vn:V) (w:DA):List (Str×V):=[("words",vw),("now",vn),("past",.ref w.p),("undone",.ref w.u)]
structure DkAt (K:Frag) (C:Addr) (w:DA) (s:DS) (H:Hp):Prop where
  ea:s.a=w.a
  ins:∃ dx vw vn,H w.a=some (.ins C dx (dkF vw vn w))∧Fz K H vw s.words∧Fz K H vn s.now
  past:∃ xs,H w.p=some (.lst xs)∧Paired (EntAt K H) xs s.past
  und:∃ xs,H w.u=some (.lst xs)∧Paired (EntAt K H) xs s.undone
  ne:w.p≠w.u
section
variable {K:Frag} {C:Addr} {w:DA} {s:DS} {H H':Hp}
theorem DkAt.stk (h:DkAt K C w s H) {b:Addr} (m:w.fp b):Stk (H b):=by
  rcases m with rfl | rfl | rfl
  · obtain ⟨_,_,_,e,_⟩:=h.ins
    exact .of e trivial
  · obtain ⟨_,e,_⟩:=h.past
    exact .lst e
  · obtain ⟨_,e,_⟩:=h.und
    exact .lst e
theorem DkAt.go (h:DkAt K C w s H) (k:∀ a,w.fp a→H' a=H a) (t:∀ a u,Sm u→H a=some u→H' a=some u):DkAt K C w s H' where
  ea:=h.ea
  ins:=by
    obtain ⟨dx,vw,vn,e,p1,p2⟩:=h.ins
    exact ⟨dx,vw,vn,by rw [k _ (.inl rfl)]; exact e,p1.go t,p2.go t⟩
  past:=by
    obtain ⟨xs,e,p⟩:=h.past
    exact ⟨xs,by rw [k _ (.inr (.inl rfl))]; exact e,Zb3 p fun _ _ z=>z.go t⟩
  und:=by
    obtain ⟨xs,e,p⟩:=h.und
    exact ⟨xs,by rw [k _ (.inr (.inr rfl))]; exact e,Zb3 p fun _ _ z=>z.go t⟩
  ne:=h.ne
end
end PB
namespace PB
open PySem PySem.Spec PyProof.Rows L2
end PB
namespace PB
open PySem PySem.Spec PyProof.Rows L2
end PB
namespace PB
open PySem PySem.Spec PyProof.Rows L2
end PB
namespace PB
open PySem PySem.Spec PyProof.Rows L2
end PB
namespace PB
open PySem PySem.Spec PyProof.Rows L2
end PB
namespace PB
open PySem PySem.Spec PyProof.Rows L2
end PB
namespace PB
open PySem PySem.Spec PyProof.Rows L2
end PB
namespace PB
open PySem PySem.Spec PyProof.Rows L2
end PB
namespace PB
open PySem PySem.Spec PyProof.Rows L2
end PB
namespace PB
open PySem PySem.Spec PyProof.Rows L2
end PB
namespace PB
open PySem PySem.Spec PyProof.Rows L2
end PB
namespace PB
open PySem PySem.Spec PyProof.Rows L2
/-- the zip at z has given out i pairs; S: the list that takes them -/
structure ZAt (xs ys:Array Value) (z ti po j1 j2 m1 m2 S:Addr) (i:Nat) (h:Heap):Prop where
  t:IsPair h ti (.ref j1) (.ref j2)
  a:h.IsListIter j1 m1 i
  b:h.IsListIter j2 m2 i
  x:h.IsList m1 xs
  y:h.IsList m2 ys
  c:(IsZip h z ti po .none∧∃ u v,IsPair h po u v)∨∃ T f oT,IsZipHeld h z ti po T f∧h.get? T=some oT∧T≠z∧T≠j1∧T≠j2∧T≠S
section
variable {P:Program} {w:World} {A:Around} {E:Value→Shared→Prop} {s:Shared} {xs ys:Array Value} {z ti po j1 j2 m1 m2 S:Nat} {i:Nat}
theorem ZAt.keep {h h':Heap} (q:ZAt xs ys z ti po j1 j2 m1 m2 S i h) (n:S≠z∧S≠ti∧S≠po∧S≠j1∧S≠j2∧S≠m1∧S≠m2) (k:∀ b o,b≠S→h.get? b=some o→h'.get? b=some o):ZAt xs ys z ti po j1 j2 m1 m2 S i h':=by
  obtain ⟨n1,n2,n3,n4,n5,n6,n7⟩:=n
  refine ⟨k _ _ n2.symm q.t,q.a.at fun o e=>k _ o n4.symm e,q.b.at fun o e=>k _ o n5.symm e,q.x.at fun o e=>k _ o n6.symm e,q.y.at fun o e=>k _ o n7.symm e,?_⟩
  rcases q.c with ⟨c1,u,v,c2⟩ | ⟨T,f,oT,c1,c2,r1,r2,r3,r4⟩
  · exact .inl ⟨k _ _ n1.symm c1,u,v,k _ _ n3.symm c2⟩
  · exact .inr ⟨T,f,oT,k _ _ n1.symm c1,k _ _ r4 c2,r1,r2,r3,r4⟩
end
variable [Kts]
end PB
namespace PB
open PySem PySem.Spec PyProof.Rows L2
end PB
namespace PB
open PySem PySem.Spec PyProof.Rows L2
end PB
namespace PB
open PySem PySem.Spec PyProof.Rows L2
end PB
namespace PB
open PySem PySem.Spec PyProof.Rows L2
end PB
namespace PB
open PySem PySem.Spec PyProof.Rows L2
end PB
namespace PB
open PySem PySem.Spec PyProof.Rows L2
variable [Kts]
section
variable {γ ι:Type} {B:Bs γ ι} {W:WX} {X:Cx} {pos:Pos}
theorem Zfp (e:Env) (i j:Nat) (s:Sl):gt (st (e.map keepS) i s) j=if j=i∧i < e.length then s else keepS (gt e j):=by
  rw [ZaO,List.length_map,Zd9 keepS rfl]
theorem Zgi (s:Sl):(keepS s).hs=false:=by
  cases s with
  | dat d=>
    show (if scl d=true then Sl.dat d else Sl.un).hs=false
    split <;> rfl
  | _=>rfl
theorem Zc5 {e:Env} {i:Nat} {x:Xn} {σ:L2.St} {b:Addr}:¬ OwnA (st (e.map keepS) i (.xc x)) σ b:=fun ⟨j,h1,_⟩=>by
  rw [Zfp] at h1
  split at h1
  · cases h1
  · rw [Zgi] at h1
    cases h1
theorem Rep.suiteE {S:Addr→Prop} {e:Env} {g g1:γ} {σ:L2.St} {H H1:Hp} {i:Nat} {x:Xn} {a:Addr} {c:Value} {d:Option Addr} (R:Rep ⟨B,S⟩ e g σ H) (kp:ExE (⟨B,S⟩:Act γ ι) H H1) (gh:(B.fam B.i).I g1 H1) (ok:XOk B.T x c d H1) :
    Rep ⟨B.at (a,c,d),S⟩ (st (e.map keepS) i (.xc x)) g1 (σ.set i (some (.ref a))) H1 where
  len:=by rw [List.length_set,Zb2,List.length_map,R.len]
  sl:=fun j=>by
    rw [Zfp]
    by_cases h:j=i∧i < e.length
    · rw [if_pos h,ZaP,if_pos ⟨h.1,by rw [R.len]; exact h.2⟩]
      exact ⟨rfl,ok⟩
    · rw [if_neg h,ZaP,if_neg (by rw [R.len]; exact h)]
      have sl:=R.sl j
      cases k:gt e j with
      | dat dd=>
        rw [k] at sl
        obtain ⟨v,e1,al⟩:=sl
        show SlOk _ _ _ (if scl dd=true then Sl.dat dd else Sl.un) _
        by_cases hs:scl dd=true
        · rw [if_pos hs]
          exact ⟨v,e1,(ZfH al hs).at⟩
        · rw [if_neg hs]
          trivial
      | _=>trivial
  inj:=fun j k p h1 h2 _ _=>by
    rw [Zfp] at h1
    split at h1
    · cases h1
    · rw [Zgi] at h1
      cases h1
  nx:=fun b z=>absurd z Zc5
  gh:=gh
  fx:=R.fx
  xs:=fun b z=>by
    by_cases f:(B.fam B.i).F b
    · exact (B.fam B.i).stk _ _ _ gh f
    · exact (R.xs b z).same fun u q=>kp b u q f
theorem ZgY {S:Addr→Prop} {e:Env} {g g1:γ} {σ:L2.St} {H H1:Hp} {i:Nat} {x:Xn} {a:Addr} {c:Value} {d:Option Addr} {m:MS γ} {Dd:Ends} (R:Rep ⟨B,S⟩ e g σ H) (kp:ExE (⟨B,S⟩:Act γ ι) H H1) (gh:(B.fam B.i).I g1 H1) (ok:XOk B.T x c d H1)
    (h:RSK ⟨B,S⟩ W e σ H (match m (st (e.map keepS) i (.xc x)) g1 with
      | .ok (.nx e1) g2=>.ok (.nx ((st e1 i .un).map noX)) g2
      | .ok (.rt r) g2=>.ok (.rt r) g2
      | _=>.no) Dd):RS (B.at (a,c,d)) W0 m (gone i Dd) (σ.set i (some (.ref a))) H1:=by
  have R1:=R.suiteE (a:=a) (i:=i) kp gh ok
  refine ⟨S,_,g1,R1,?_⟩
  have kpM:∀ b o,H b=some o→¬ Mu (⟨B,S⟩:Act γ ι) e σ b→H1 b=some o:=fun b o q n=>kp b o q fun z=>n (.inl z)
  have new:∀ p,H1 p=none→OwnA e σ p∨H p=none:=fun p z=>by
    cases q:H p with
    | none=>exact .inr rfl
    | some o=>
      by_cases f:(B.fam B.i).F p
      · exact absurd z ((B.fam B.i).trk _ _ _ gh f)
      · by_cases w:OwnA e σ p
        · exact .inl w
        · have:=kp p o q f
          rw [z] at this
          cases this
  have mu1:∀ b,¬ Mu (⟨B,S⟩:Act γ ι) e σ b→¬ Mu (⟨B.at (a,c,d),S⟩:Act γ ι) (st (e.map keepS) i (.xc x)) (σ.set i (some (.ref a))) b:=fun b z y=>y.elim (fun y=>z (.inl y)) Zc5
  cases km:m (st (e.map keepS) i (.xc x)) g1 with
  | no=>
    rw [km] at h
    exact h
  | ex y g2=>
    rw [km] at h
    exact h.elim
  | ok f g2=>
    rw [km] at h
    cases f with
    | bk e1=>exact h.elim
    | ct e1=>exact h.elim
    | nx e1=>
      intro σ2 H2 R2 s2
      refine h (σ2.set i none) H2 R2.gone ⟨fun b o q z=>s2.keep b o (kpM b o q z) (mu1 b z),fun b z => ?_⟩
      rcases s2.mu b (ZeN R2.len z) with y | y
      · exact absurd y Zc5
      · exact new b y
    | rt r=>
      intro v H2 k2 i2 vr
      refine h v H2 (fun b o q z=>k2 b o (kpM b o q z) (mu1 b z)) i2 ?_
      unfold VRet at vr ⊢
      cases kr:r.ret with
      | dat dd=>
        rw [kr] at vr
        exact vr
      | own es=>
        rw [kr] at vr
        obtain ⟨p,xs,e1,h0,z1,z2,z3⟩:=vr
        exact ⟨p,xs,e1,h0.elim (fun y=>absurd y Zc5) (new p),z1,z2,z3⟩
      | bor es=>
        rw [kr] at vr
        exact vr.elim
      | odt t ks vs=>
        rw [kr] at vr
        obtain ⟨p,xs,e1,h0,z1,z2,z3⟩:=vr
        exact ⟨p,xs,e1,h0.elim (fun y=>absurd y Zc5) (new p),z1,z2,z3⟩
      | bdt t ks vs=>
        rw [kr] at vr
        exact vr.elim
theorem Zii {nm:Str} {i:Nat} {al:List Nat} {a:Expr} {q0:Pos} {c0:ExceptHandler} {cs:List ExceptHandler} {ma:ME γ} {hs:List (List Nat×MS γ)} (h1:X.stack=X.env :: X.outer) (h2:X.env.frame=some X.env.locals) (hN:X.N.Nodup) (hi:X.N[i]?=some nm) (hl:X.env.kindOf nm=some .local) (tk:L2N.Takes X W)
    (body:∀ (W1:WX) (pn:List (Addr×Obj)) (xe:Value→Shared→Prop),L2N.Takes (X.tr pn xe) W1→PassesOwn (model X.prog X.w) X.A X.env xe→PE (X.tr pn xe) a (RE B W1 ma))
    (C:Hds B X al nm (c0 :: cs) hs) (hsw:swapsWith a none q0.line X.env=pure false:=by rfl):PS X (.Try [.Expr a q0] (c0 :: cs) [] [] pos) (RS B W (Zgq al ma i hs)):=by
  obtain ⟨us,cl,wish⟩:∃ us,Clauses X nm (c0 :: cs) us∧∀ (S:Addr→Prop) (e:Env) (g g1:γ) (σ:L2.St) (H H1:Hp) (x:Xn) (c:Value) (d:Option Addr) (Dd:Ends),Rep ⟨B,S⟩ e g σ H→ExE (⟨B,S⟩:Act γ ι) H H1→(B.fam B.i).I g1 H1→XOk B.T x c d H1→al.contains x.cls=true →
      RSK ⟨B,S⟩ W e σ H (match hs.find? (fun h=>h.1.contains x.cls) with
        | none=>.ex x g1
        | some h=>match h.2 (st (e.map keepS) i (.xc x)) g1 with
          | .ok (.nx e1) g2=>.ok (.nx ((st e1 i .un).map noX)) g2
          | .ok (.rt r) g2=>.ok (.rt r) g2
          | _=>.no) Dd→wCl X.K X.N.length i W Dd us c d σ H1:=by
    clear body
    generalize c0 :: cs=hd at C
    induction C with
    | nil=>exact ⟨[],.nil,fun S e g g1 σ H H1 x c d Dd R kp gh ok _ h=>h c d σ H1 (fun b o q n=>kp b o q fun z=>n (.inl z)) gh ok⟩
    | @cons y k cs m s0 ss q1 q2 rest more hk hx hu hm ih=>
      obtain ⟨us,cl,wish⟩:=ih
      refine ⟨(k,fun x cls d=>RS (B.at (x,cls,d)) W0 m) :: us,.cons hk hu cl,fun S e g g1 σ H H1 x c d Dd R kp gh ok ha h => ?_⟩
      have hx1:=hx x.cls (by simpa using ha)
      have ec:c=B.T.cl x.cls:=ok.1
      rw [← ec] at hx1
      refine ⟨_,hx1,fun hy a na hl1 => ?_,fun hno => ?_⟩
      · rw [List.find?_cons,show (cs,m).fst.contains x.cls=true from hy] at h
        exact ZgY R kp gh ok h
      · rw [List.find?_cons,show (cs,m).fst.contains x.cls=false from hno] at h
        exact wish S e g g1 σ H H1 x c d Dd R kp gh ok ha h
  refine Zc0 (Zgz (us:=us) (tb:=fun W1=>tDrop (RE B W1 ma)) h1 h2 hN hi hl tk (fun W1 pn xe t po=>pss_one (ps_expr (body W1 pn xe t po) hsw)) cl) fun Dd σ H ⟨S,e,g,R,h⟩ => ?_
  unfold Zgq at h
  refine ⟨S,e,g,R,?_⟩
  cases km:ma e g with
  | no=>
    rw [km] at h
    exact h
  | ok v g1=>
    rw [km] at h
    intro vv H1 x1 i1 o1
    exact h σ H1 (R.exe x1 i1) (.exe R x1)
  | ex x g1=>
    rw [km] at h
    intro c od H1 kp i1 ok
    have h':RSK ⟨B,S⟩ W e σ H (if al.contains x.cls=true then _ else .no) Dd:=h
    by_cases ha:al.contains x.cls=true
    · rw [if_pos ha] at h'
      exact wish S e g g1 σ H H1 x c od Dd R kp i1 ok ha h'
    · rw [if_neg ha] at h'
      exact h'.elim
end
end PB
namespace PB
open PySem PySem.Spec PyProof.Rows L2
variable [Kts]
section
variable {γ ι:Type}
structure FnK2 (P:Program) (w:World) (K:Frag) (mg:Str→Option Value) (base:Heap) (T:XT) (fam:ι→Gho γ) (k:Nat) (f:Addr) (fd:FuncData) (ps:List Str) (F:MX2 γ):Prop where
  len:ps.length=2
  run:∀ (A:Around) (outer:List PySem.Env) (s:Shared) (H:Hp) (args:Args) (us:List Value) (Q:VK) (a:Addr) (ox:Obj) (c:Value) (d:Option Addr) (x:Xn) (v:V) (dd:D) (i:ι) (S:Addr→Prop) (g:γ),L2H.RoomH k A→L2H.Hot1 A (a,ox)→L2H.PinOk outer H s (a,ox)→L2N.Zn c d ox→(∃ fs,ox.data = .fields fs)→Env0 P w K mg base A outer s H →
    BindsTo s fd args (ps.zip us)→Vals [.ref a,v] us→ScV v dd→(∀ b,(fam i).F b→S b)→(∀ b,S b→Stk (H b))→XOk T x c d H→(fam i).I g H →
    (match F x dd g with
      | .ok r g'=>∀ v H',(∀ b o,H b=some o→¬ (fam i).F b→H' b=some o)→(fam i).I g' H'→FRet K S H H' r v→Q v H'
      | _=>False)→codeAny (model P w) A (.call (.ref f) args) (CR CX0 outer P w H s Q E0) s
end
section
variable {γ ι:Type} {P:Program} {w:World} {K:Frag} {mg:Str→Option Value} {base:Heap} {Tx:XT} {fam:ι→Gho γ}
theorem Zij:∀ n j,gt (List.replicate n Sl.un) j = .un:=by
  intro n
  induction n with
  | zero=>intro j; rfl
  | succ n ih=>
    intro j
    rw [List.replicate_succ]
    cases j with
    | zero=>rfl
    | succ j=>exact ih j
theorem ZgA {x:Xn} {d:D} {n j:Nat}:gt (.xc x :: .dat d :: List.replicate n .un) j=match j with
    | 0=>.xc x
    | 1=>.dat d
    | _ + 2=>.un:=by
  match j with
  | 0=>rfl
  | 1=>rfl
  | j + 2=>exact Zij n j
theorem ZgZ {x:Xn} {d:D} {n:Nat} {σ:L2.St} {b:Addr}:¬ OwnA (.xc x :: .dat d :: List.replicate n .un) σ b:=fun ⟨j,h1,_⟩=>by
  rw [ZgA] at h1
  match j,h1 with
  | 0,h1=>cases h1
  | 1,h1=>cases h1
  | _ + 2,h1=>cases h1
theorem Zik {x qual:Str} {sm:Stmt} {f:Addr} {fd:FuncData} {N:List Str} {y z:Str} {k:Nat} (m:MS γ) (n:Nat) (F:Fun K x qual sm f fd) (Sc:FnScope N [y,z] (defScope sm)) (hn:N.length=n + 2)
    (hb:∀ (i:ι) (cdv:Value) (A:Around) (outer:List PySem.Env) (s:Shared) (H:Hp) (a:Addr) (ox:Obj) (c:Value) (d:Option Addr),L2H.RoomH k (A.deeper (envOfC qual (defScope sm) s.heap.objs.size f cdv))→L2H.Hot1 A (a,ox)→L2N.Zn c d ox→(∃ fs,ox.data = .fields fs) →
      PSs (L2H.cxH CX0 P w K mg base N qual (defScope sm) f cdv A outer s H E0 (a,ox)).nox (defBody sm) (RS ⟨K,Tx,fam,i,(a,c,d)⟩ W0 m)) :
    FnK2 P w K mg base Tx fam (k + 1) f fd [y,z] (ZfF n m):=by
  obtain ⟨oc,od,kV,doc,pm,an,cdv,ct,osl,rfl,lk,hcd⟩:=F.ex
  refine ⟨rfl,fun A outer s H args us Q a ox c d xx v dd i S g hr hot hpin hz hf e0 hbi r sv fx xs ok gh hq => ?_⟩
  have KX:K.In s.heap:=e0.mod.kin.keeps fun b o z=>(e0.bs b o z).1
  have lim:s.heap.NoLimit:=e0.mod.nolimit.keeps fun b o z=>(e0.bs b o z).1
  have knd:∀ q∈[y,z].zip us,(defScope sm).names.lookup q.1=some .local∨((defScope sm).names.lookup q.1=some .cell∧((cellsFrom (s.heap.objs.size + 1) (defScope sm).names []).lookup q.1).isSome=true):=fun ⟨q,v⟩ hz'=>by
    rcases Sc.par q (List.of_mem_zip hz').1 with w | w
    · exact .inl w
    · exact .inr ⟨w,PySem.W.cellsFrom_some _ _ _ (.inl w)⟩
  refine codeAny_call_function hr.depth (KX _ _ lk) rfl Sc.co Sc.gen rfl (PySem.W.codeRec_of KX hcd) (hbi _ _ _ _ ?_)
  refine wpAny_newFunctionEnv_cells Sc.kind knd fun env he s1 start => ?_
  subst he
  refine ⟨lim.keeps start.toInCall.keep,codeAny_func ?_⟩
  have hl:([V.ref a,v]:List V).length=[y,z].length:=rfl
  have I:Inv (L2H.cxH CX0 P w K mg base N qual (defScope sm) f cdv A outer s H E0 (a,ox)) [] (L2.start N [.ref a,v]) H s1:=L2H.inv_startH Sc hpin e0 hl r start
  have es:L2.start N [V.ref a,v]=some (.ref a) :: some v :: List.replicate n none:=by
    unfold L2.start
    rw [hn]
    simp
  have R:Rep (⟨⟨K,Tx,fam,i,(a,c,d)⟩,S⟩:Act γ ι) (Sl.xc xx :: .dat dd :: List.replicate n .un) g (L2.start N [.ref a,v]) H:=by
    rw [es]
    exact {
      len:=by simp
      sl:=fun j=>by
        rw [ZgA]
        match j with
        | 0=>exact ⟨rfl,ok⟩
        | 1=>exact ⟨v,rfl,sv.at⟩
        | j + 2=>trivial
      inj:=fun j k p h1 _ _ _=>by
        rw [ZgA] at h1
        match j,h1 with
        | 0,h1=>cases h1
        | 1,h1=>cases h1
        | _ + 2,h1=>cases h1
      nx:=fun b z=>absurd z ZgZ
      gh:=gh
      fx:=fx
      xs:=xs }
  have nown:∀ b,¬ OwnA (Sl.xc xx :: .dat dd :: List.replicate n .un) (L2.start N [.ref a,v]) b:=fun b=>ZgZ
  have nmu:∀ b,¬ (fam i).F b→¬ Mu (⟨⟨K,Tx,fam,i,(a,c,d)⟩,S⟩:Act γ ι) (Sl.xc xx :: .dat dd :: List.replicate n .un) (L2.start N [.ref a,v]) b:=fun b z y=>y.elim z (nown b)
  have body:RSK (⟨⟨K,Tx,fam,i,(a,c,d)⟩,S⟩:Act γ ι) W0 (Sl.xc xx :: .dat dd :: List.replicate n .un) (L2.start N [.ref a,v]) H (m (Sl.xc xx :: .dat dd :: List.replicate n .un) g) { nx:=fun _ H'=>Q .non H',rt:=Q }:=by
    unfold ZfF at hq
    cases km:m (Sl.xc xx :: .dat dd :: List.replicate n .un) g with
    | no=>
      rw [km] at hq
      exact hq
    | ex z g1=>
      rw [km] at hq
      exact hq.elim
    | ok fl g1=>
      rw [km] at hq
      cases fl with
      | nx e'=>exact fun σ' H' R' s'=>hq .non H' (fun b o q z=>s'.keep b o q (nmu b z)) R'.gh .non
      | bk e'=>exact hq.elim
      | ct e'=>exact hq.elim
      | rt r=>
        intro v H' kp i' vr
        refine hq v H' (fun b o q z=>kp b o q (nmu b z)) i' ?_
        unfold VRet at vr
        show FRet K S H H' r.ret v
        cases kr:r.ret with
        | dat dd=>
          rw [kr] at vr
          exact vr
        | own es=>
          rw [kr] at vr
          obtain ⟨p,ys,e1,h0,_,k1,a1⟩:=vr
          exact ⟨p,ys,e1,h0.elim (fun z=>absurd z (nown p)) id,k1,a1⟩
        | bor es=>
          rw [kr] at vr
          exact vr.elim
        | odt t ks vs=>
          rw [kr] at vr
          obtain ⟨p,ys,e1,h0,_,k1,a1⟩:=vr
          exact ⟨p,ys,e1,h0.elim (fun z=>absurd z (nown p)) id,k1,a1⟩
        | bdt t ks vs=>
          rw [kr] at vr
          exact vr.elim
  have ht:=(hb i cdv A outer s H a ox c d (hr.deeper _) hot hz hf).nox
  refine wpAny_mono (ht.run [] s1 (L2.start N [.ref a,v]) H _ I ⟨S,_,g,R,body⟩) (fun fl s' hs => ?_) fun _ _ hs=>hs
  have fin:∀ {σ':L2.St} {H':Hp} {v:V} {u:Value},Inv (L2H.cxH CX0 P w K mg base N qual (defScope sm) f cdv A outer s H E0 (a,ox)) [] σ' H' s'→RelV v u→Q v H'→CE outer P w H s Q u s':=
    fun {σ' H' v u} J rv q=>⟨v,H',J.os,J.bare,J.base,J.hok,rv,q⟩
  cases fl with
  | ret u=>
    obtain ⟨v,σ',H',J,rv,q⟩:=hs
    exact fin J rv q
  | next=>
    obtain ⟨σ',H',J,q⟩:=hs
    exact fin (v:=V.non) (u:=Value.none) J rfl q
  | brk=>
    obtain ⟨_,_,_,q⟩:=hs
    exact q.elim
  | cont=>
    obtain ⟨_,_,_,q⟩:=hs
    exact q.elim
end
section
variable {γ ι:Type} {B:Bs γ ι} {W:WX} {X:Cx} {pos:Pos}
/-- within such a def: it is as in a suite -/
theorem Zhr {Y:Cx} {a:Addr} {ox:Obj} (hh:Y.A.handled=some (.ref a)) (hc:Y.calm=false) (hp:Y.pn=[(a,ox)]) (hx:Y.xe=fun _ _=>False):Y.suite a [(a,ox)]=Y:=by
  obtain ⟨prog,w,K,mg,base,A,N,s0,H0,env,outer,stack,ex,fn,calm,pn,xe⟩:=Y
  obtain ⟨handled,depth,frames,guards,units⟩:=A
  dsimp only at hh hc hp hx
  subst hh hc hp hx
  rfl
theorem Zea {i n:Nat} {x f:Str} {C a:Addr} {ox:Obj} {c:Value} {d:Option Addr} {p2:Pos} (hh:X.A.handled=some (.ref a)) (hc:X.calm=false) (hp:X.pn=[(a,ox)]) (hx:X.xe=fun _ _=>False) (E:XfC X.K C) (hno:PySem.W.findIn X.K (.ref C) f=some none) (hB:B.xa=(a,c,d)) (hn:B.T.cl n = .ref C) (hf':B.T.fn n=f) (hz:L2N.Zn c d ox) (hf:∃ fs,ox.data = .fields fs) (hN:X.N[i]?=some x)
    (hv:Vis X.env.scope x:=by first | exact Or.inl rfl | exact Or.inr (Or.inl rfl)) (hdb:(x == ("__debug__" : Str))=false:=by decide) (hcd:(x == ("__classdict__" : Str))=false:=by decide) (hb:attributeBase (.Name x p2) f X.env (eval (.Name x p2) X.env)=eval (.Name x p2) X.env:=by rfl) :
    PE X (.Attribute (.Name x p2) f pos) (RE B W (mXf n i)):=by
  have:=ZjC (γ:=γ) (ι:=ι) (B:=B) (W:=W) (X:=X) (pos:=pos) (pn:=[]) E hno hB hn hf' hz hf hN hv hdb hcd hb
  rw [Zhr hh hc hp hx] at this
  exact this
/-- f(x,y) -/
theorem Zg0 {i j k:Nat} {f:Addr} {fd:FuncData} {ps:List Str} {F:MX2 γ} {fx x y:Str} {a:Addr} {ox:Obj} {c:Value} {d:Option Addr} {pn:List (Addr×Obj)} {pz p2 p3:Pos} (G:FnK2 X.prog X.w X.K X.mg X.base B.T B.fam k f fd ps F) (hK:B.K=X.K) (hB:B.xa=(a,c,d)) (hz:L2N.Zn c d ox) (hf:∃ fs,ox.data = .fields fs) (hr:Room k X.A) (hg:Gl X fx) (hm:X.mg fx=some (.ref f)) (hk:PySem.W.keepIn X.K (.ref f)=true) (hbi:Binds X.K fd ps []) (hN:X.N[i]?=some x) (hN2:X.N[j]?=some y)
    (hv:Vis X.env.scope x:=by first | exact Or.inl rfl | exact Or.inr (Or.inl rfl)) (hdb:(x == ("__debug__" : Str))=false:=by decide) (hcd:(x == ("__classdict__" : Str))=false:=by decide) (hv2:Vis X.env.scope y:=by first | exact Or.inl rfl | exact Or.inr (Or.inl rfl)) (hdb2:(y == ("__debug__" : Str))=false:=by decide) (hcd2:(y == ("__classdict__" : Str))=false:=by decide) (hdf:(fx == ("__debug__" : Str))=false:=by decide)
    (he:starEach [.Name x p2,.Name y p3] X.env=(false,eval (.Name x p2) X.env) :: starEach [.Name y p3] X.env:=by rfl) (he2:starEach [.Name y p3] X.env=(false,eval (.Name y p3) X.env) :: starEach [] X.env:=by rfl) (hpl:(backTo pos (starEach [.Name y p3] X.env)).any (·.1)=false:=by rfl) :
    PE (X.suite a ((a,ox) :: pn)) (.Call (.Name fx pz) [.Name x p2,.Name y p3] [] pos) (RE B W (Zfe F i j)):=by
  refine ⟨fun pins s σ H Q I ⟨S,e,g,R,h⟩ => ?_⟩
  unfold Zfe at h
  split at h
  · rename_i xx dd hy hd
    split at h
    · rename_i hs
      have sl:=R.sl i
      rw [hy] at sl
      obtain ⟨s1,ok⟩:=sl
      have s1:σ[i]?=some (some (.ref B.xa.1)):=s1
      have ok:XOk B.T xx B.xa.2.1 B.xa.2.2 H:=ok
      rw [hB] at s1 ok
      have sl2:=R.sl j
      rw [hd] at sl2
      obtain ⟨v,s2,al⟩:=sl2
      have sv:=ZfH al hs
      have av:PA (X.suite a ((a,ox) :: pn)) [.Name x p2,.Name y p3] (tCons (tVar i) (tCons (tVar j) tNil)):=pa_cons (pe_var (X:=X.suite a ((a,ox) :: pn)) hN hv hdb hcd) (pa_cons (pe_var (X:=X.suite a ((a,ox) :: pn)) hN2 hv2 hdb2 hcd2) pa_nil he2) he
      refine wpAny_Call_Name_kw (ld_glob (X:=X.suite a ((a,ox) :: pn)) I hg hm ?_ hdf)
      refine PySem.W.callWith_K (h₀:=X.base) I.ok.mod.kin hk (thn (av.run pos pins s σ H (fun vs H1=>vs=[V.ref a,v]∧H1=H) I ⟨.ref a,s1,v,s2,rfl,rfl⟩) fun us s3 ⟨vs,H2,I2,r,ev,eH⟩=>⟨I2.kIn,?_⟩) he hpl
      subst ev eH
      have hl:us.length=ps.length:=by rw [← r.length,G.len]; rfl
      have bi:=hbi s3 us I2.kIn (by rw [List.append_nil]; exact hl)
      rw [List.append_nil] at bi
      have P1:=I2.pin (a,ox) (List.mem_append_left _ List.mem_cons_self)
      have hpin:L2H.PinOk (X.suite a ((a,ox) :: pn)).stack H2 s3 (a,ox):=⟨P1.1,P1.2.1,fun hm=>(List.mem_cons.mp (I2.stkSub a hm)).elim P1.2.2.1 P1.2.2.2.1,P1.2.2.2.2⟩
      refine wpAny_call (codeAny_mono (G.run (X.suite a ((a,ox) :: pn)).A (X.suite a ((a,ox) :: pn)).stack s3 H2 ⟨us,[]⟩ us Q a ox c d xx v dd B.i (Om ⟨B,S⟩ e σ) g ⟨hr.dp,hr.un⟩ (Zfv hz hf) hpin hz hf I2.env0 bi r sv (fun b z=>.inl (R.fx b z)) (fun b z=>R.oms z) ok R.gh ?_) fun r2 s4 hq => ?_)
      · cases kf:F xx dd g with
        | ok r g2=>
          rw [kf] at h
          intro v H' x' i' o'
          refine h v H' x' i' ?_
          have o2:FRet B.K (Om ⟨B,S⟩ e σ) H2 H' r v:=by rw [hK]; exact o'
          exact ZdP R (.refl H2) R.gh o2
        | ex z g2=>
          rw [kf] at h
          exact h.elim
        | no=>
          rw [kf] at h
          exact h.elim
      · cases r2 with
        | error er=>exact hq.elim
        | ok fl=>
          cases fl with
          | ret u=>exact I2.after hq
          | next=>exact hq.elim
          | brk=>exact hq.elim
          | cont=>exact hq.elim
    · exact h.elim
  · exact h.elim
end
end PB
namespace PB
open PySem PySem.Spec PyProof.Rows L2
variable [Kts]
theorem roomU {k:Nat} {A:Around} (h:L2H.RoomH k A):A.units + 64 < cLine:=by
  have:=h.un
  omega
section
variable {γ ι:Type}
def exG (C:Addr) (G:Gho γ) (a:Addr):Gho (γ×Nat) where
  F:=fun b=>G.F b∨b=a
  I:=fun g H=>g.2=a∧G.I g.1 H∧H a=some (ExO (.ref C) a)
  stab:=fun g H H' h k t=>⟨h.1,G.stab _ _ _ h.2.1 (fun b z=>k b (.inl z)) t,by rw [k a (.inr rfl)]; exact h.2.2⟩
  lsts:=fun g H b h z=>z.elim (fun z=>G.lsts _ _ _ h.2.1 z) fun z=>by rw [z]; exact Stk.of h.2.2 trivial
  ad:=G.ad
abbrev exF (C:Addr) (fam:ι→Gho γ):ι×Addr→Gho (γ×Nat):=fun z=>exG C (fam z.1) z.2
abbrev exB (B:Bs γ ι) (C a:Addr):Bs (γ×Nat) (ι×Addr):=⟨B.K,B.T,exF C B.fam,(B.i,a),B.xa⟩
end
section
variable {γ ι:Type} {B:Bs γ ι} {W:WX} {X:Cx} {pos:Pos}
theorem Rep.growE {S:Addr→Prop} {e:Env} {g:γ} {σ:L2.St} {H:Hp} {C a:Addr} (R:Rep ⟨B,S⟩ e g σ H) (ha:H a=none) :
    Rep (⟨exB B C a,fun b=>S b∨b=a⟩:Act (γ×Nat) (ι×Addr)) e (g,a) σ (upd H a (ExO (.ref C) a)):=by
  have k:∀ b o,H b=some o→upd H a (ExO (.ref C) a) b=some o:=fun b o q=>by
    rw [upd_ne (ne_of_none q ha)]
    exact q
  have t:∀ b,(S b∨b=a)→Stk (upd H a (ExO (.ref C) a) b):=fun b z=>z.elim (fun z=>(R.xs b z).same fun u q=>k b u q) fun z=>by
    rw [z]
    exact Stk.of upd_same trivial
  have R2:=R.more (S':=fun b=>S b∨b=a) (fun b o q _=>k b o q) (fun b z=>.inl z) (fun b z=>z.imp_right fun z=>by rw [z]; exact ha) t (Gho.new (o:=ExO (.ref C) a) R.gh ha)
  refine ⟨R2.len,fun j => ?_,R2.inj,R2.nx,⟨rfl,R2.gh,upd_same⟩,fun b z=>z.imp_left (R.fx b),t⟩
  have q:=R2.sl j
  cases h:gt e j with
  | un=>trivial
  | dat d=>
    rw [h] at q
    exact q
  | own ds=>
    rw [h] at q
    exact q
  | xc y=>
    rw [h] at q
    exact q
  | gh y=>
    rw [h] at q
    exact q
  | owd tt ks vs=>
    rw [h] at q
    exact q
/-- x=C(e),and what stands behind it,which tells something at once -/
theorem Zi0 {i:Nat} {x y:Str} {C:Addr} {e0:Expr} {me:ME γ} {m:MS (γ×Nat)} {py pz apos spos:Pos} {rest:List Stmt} (E:ExN X.K X.mg x C) (hg:Gl X x) (he:PE X e0 (RE B W me)) (hN:X.N.Nodup) (hi:X.N[i]?=some y) (hx:Loc X.env.scope y) (hrest:∀ a,PSs X rest (RS (exB B C a) W m))
    (hst:starEach [e0] X.env=(false,eval e0 X.env) :: starEach [] X.env:=by rfl) (hdb:(x == ("__debug__" : Str))=false:=by decide) (hs:swapsWith (.Call (.Name x pz) [e0] [] apos) (some (.Name y py)) spos.line X.env=pure false:=by rfl) (hf:X.fn y=true∨X.env.scope.names.lookup y=some .local:=by first | exact .inl rfl | exact .inr rfl | assumption) :
    PSs X (.Assign [.Name y py] (.Call (.Name x pz) [e0] [] apos) spos :: rest) (RS B W (ZfG i me m)):=by
  have hr:PSs X rest (fun Dd σ H=>∃ a,RS (exB B C a) W m Dd σ H):=⟨fun pins s σ H Dd I ⟨a,hh⟩=>(hrest a).run pins s σ H Dd I hh⟩
  refine ZfA (pss_cons (ps_set hN hi hx (pe_exc1 PySem.F.excBase_ValueError E.e E.g E.k hg he hst hdb) hs hf) hr) fun Dd σ H ⟨S,e,g,R,h⟩ => ?_
  refine ⟨S,e,g,R,RSK.bind R h fun z g1 vz H1 x1 i1 o1 h1 => ?_⟩
  have R1:=R.exe x1 i1
  intro a ha
  refine ⟨a,?_⟩
  have hx':=ZhN (r:=kMkE i m e g1) (fun z=>by
    rw [z] at h1
    exact h1) a
  rw [← hx'] at h1
  unfold kMkE at h1
  have k1:∀ b o,H1 b=some o→upd H1 a (ExO (.ref C) a) b=some o:=fun b o q=>by
    rw [upd_ne (ne_of_none q ha)]
    exact q
  have R2:=(R1.growE (C:=C) ha).set (v:=.ref a) (d:=.ref a) (.ref a) i
  refine ⟨_,_,_,R2,?_⟩
  have own:∀ b,OwnA (st e i (.dat (.ref a))) (σ.set i (some (.ref a))) b→OwnA e σ b:=fun b z=>Ze1 z R.len
  have mu:∀ b o,H1 b=some o→¬ Mu ⟨B,S⟩ e σ b→¬ Mu (⟨exB B C a,fun b=>S b∨b=a⟩:Act (γ×Nat) (ι×Addr)) (st e i (.dat (.ref a))) (σ.set i (some (.ref a))) b:=fun b o q n z=>z.elim (fun z=>z.elim (fun z=>n (.inl z)) fun z=>by
    rw [z,ha] at q
    cases q) fun z=>n (.inr (own b z))
  cases km:m (st e i (.dat (.ref a))) (g1,a) with
  | no=>
    rw [km] at h1
    exact h1.elim
  | ex z g3=>
    rw [km] at h1
    exact h1.elim
  | ok fl g3=>
    rw [km] at h1
    cases fl with
    | bk e1=>exact h1.elim
    | ct e1=>exact h1.elim
    | nx e1=>exact h1.elim
    | rt r=>
      cases r with
      | dat d=>
        intro v H4 k4 gd vr
        have al:At B.K (fun b=>S b∨b=a) H4 v d:=vr
        exact h1 v H4 (fun b o q nm=>k4 b o (k1 b o (x1 b o q fun z=>nm (.inl z))) (mu b o (x1 b o q fun z=>nm (.inl z)) nm)) gd.2.1 (al.less fun b z=>.inl z)
      | _=>exact h1.elim
def rIsE (K:Frag) (C a:Addr):List V→Hp→VK→Prop:=fun xs H Q=>∃ (k:V) (kv:Value) (b:Bool),L2.ExcC K C∧xs=[.ref a,k]∧(∀ u,RelV k u→u=kv)∧PySem.W.kitOne K (.ref C) kv=some b∧H a=some (ExO (.ref C) a)∧Q (.bl b) H
theorem Zhs {X:Cx} {C a:Addr}:CallR X (.builtin "isinstance") (rIsE X.K C a):=by
  intro pins s σ H xs us Q I r h
  obtain ⟨k,kv,b,E,rfl,hk,e,hx,q⟩:=h
  cases r with
  | cons ra rr=>
    cases rr with
    | cons rk rr=>
      cases rr
      cases ra
      have ek:=hk _ rk
      subst ek
      have ok:ObjOk X.prog X.w H s.heap a (ExO (.ref C) a):=I.hok a _ hx
      obtain ⟨⟨oe,vs,hget,zc,hd,_⟩,_⟩:=ok
      have J:PySem.W.InstAt s.heap a oe C none:=by
        obtain ⟨oc,o2,oda,osl⟩:=oe
        obtain ⟨z1,z2⟩:=zc
        dsimp only at z1 z2 hd
        subst z1 z2 hd
        exact ⟨hget,rfl,rfl,trivial⟩
      have hcl:(PySem.W.clsIn X.K C).isSome=true:=by
        obtain ⟨cd,hcd,_⟩:=PySem.W.any_some E.hd
        rw [hcd]
        rfl
      exact PySem.W.kia_one (PySem.W.kitx_exc hcl E.hg E.hk E.hs E.ha E.hn E.ht E.hm) I.kIn J e (fun z=>nomatch z) fun tk=>⟨.bl b,H,I.kept (t':=tk) fun _ _ z=>z,rfl,q⟩
theorem Za4 {i:Nat} {x:Str} {cs:List Nat} {b:Bool} {C a:Addr} {tv:V} {tu:Value} {te:Expr} {p p2:Pos} (hN:X.N[i]?=some x) (hg:Gl X "isinstance") (hm:X.mg "isinstance" = none)
    (ht:PE X te (tC tv)) (hr:∀ u,RelV tv u→u=tu) (hn:B.T.cl 0 = .ref C) (hC:∃ D,B.T.cl 0 = .ref D∧L2.ExcC X.K D∧PySem.W.kitOne X.K (.ref D) tu=some (cs.contains 0)) (hcs:cs.contains 0=b)
    (hv:Vis X.env.scope x:=by first | exact Or.inl rfl | exact Or.inr (Or.inl rfl)) (hdb:(x == ("__debug__" : Str))=false:=by decide) (hcd:(x == ("__classdict__" : Str))=false:=by decide)
    (hs:starEach [.Name x p2,te] X.env=(false,eval (.Name x p2) X.env) :: starEach [te] X.env:=by rfl) (hs2:starEach [te] X.env=(false,eval te X.env) :: starEach [] X.env:=by rfl) (hpl:(backTo pos (starEach [te] X.env)).any (·.1)=false:=by rfl) :
    PE X (.Call (.Name "isinstance" p) [.Name x p2,te] [] pos) (RE (exB B C a) W (ZaL i b)):=by
  refine ZaS (pe_callB (Zhs (C:=C) (a:=a)) hg hm (by decide +kernel) (pa_cons (pe_var hN hv hdb hcd) (pa_cons ht pa_nil hs2) hs) (by decide) (by decide) hs hpl) fun σ H Q ⟨S,e,g,R,h⟩ => ?_
  obtain ⟨D,e1,E,hb⟩:=hC
  have:C=D:=by
    have:=hn.symm.trans e1
    injection this
  subst this
  rw [hcs] at hb
  unfold ZaL at h
  split at h
  · rename_i y hy
    split at h
    · rename_i ha
      have sl:=R.sl i
      rw [hy] at sl
      obtain ⟨v,s1,al⟩:=sl
      obtain ⟨g1,g2,g3⟩:g.2=a∧(B.fam B.i).I g.1 H∧H a=some (ExO (.ref C) a):=R.gh
      have hya:y=a:=ha.trans g1
      subst hya
      cases al with
      | ref _=>exact ⟨.ref y,s1,tv,tu,b,E,rfl,hr,hb,g3,h _ H (.refl H) R.gh (.bl _)⟩
    · exact h.elim
  · exact h.elim
end
end PB
set_option maxHeartbeats 0
namespace G_k17
open PySem PySem.Spec PyProof.Rows L2 PB
instance:Kts:=⟨True⟩
def topS (i:Nat):Stmt:=PySem.Challenge.pw_pricebend_k17_refusals_made.main.body.getD i (.Pass ⟨0,0,0,0⟩)
abbrev ZbF:Stmt:=topS 16
abbrev Zcs:Stmt:=topS 18
abbrev Zb4:Stmt:=topS 17
abbrev Zb5:Stmt:=topS 19
abbrev Zbx:Stmt:=topS 22
abbrev ZbG:Stmt:=topS 20
abbrev ZbH:Stmt:=topS 23
abbrev Zby:Stmt:=topS 24
abbrev Zb6:Stmt:=topS 21
abbrev Ze4:Stmt:=topS 25
abbrev Zcd:Stmt:=(C8.clsBody (topS 10)).headD (.Pass ⟨0,0,0,0⟩)
abbrev Zbu:Stmt:=(C8.clsBody (topS 11)).headD (.Pass ⟨0,0,0,0⟩)
abbrev Zbv:Stmt:=(C8.clsBody (topS 12)).headD (.Pass ⟨0,0,0,0⟩)
abbrev Zbi:Stmt:=(C8.clsBody (topS 13)).headD (.Pass ⟨0,0,0,0⟩)
abbrev ZbI:Stmt:=(C8.clsBody (topS 14)).headD (.Pass ⟨0,0,0,0⟩)
def ZdZ:He.DefD:=⟨("_law_start",none),"_law_start","_law_start",defArgs ZbF,defBody ZbF,defScope ZbF,[],[]⟩
def Zez:He.DefD:=⟨("_law_mix",none),"_law_mix","_law_mix",defArgs Zcs,defBody Zcs,defScope Zcs,[],[]⟩
def Zeb:He.DefD:=⟨("_law_draw",none),"_law_draw","_law_draw",defArgs Zb4,defBody Zb4,defScope Zb4,[],[]⟩
def Zec:He.DefD:=⟨("_law_same",none),"_law_same","_law_same",defArgs Zb5,defBody Zb5,defScope Zb5,[],[]⟩
def ZdF:He.DefD:=⟨("_law_raised",none),"_law_raised","_law_raised",defArgs Zbx,defBody Zbx,defScope Zbx,[],[]⟩
def Zd0:He.DefD:=⟨("_law_kinds",none),"_law_kinds","_law_kinds",defArgs ZbG,defBody ZbG,defScope ZbG,[],[]⟩
def Zd1:He.DefD:=⟨("_law_field",none),"_law_field","_law_field",defArgs ZbH,defBody ZbH,defScope ZbH,[],[]⟩
def ZdG:He.DefD:=⟨("_law_caught",none),"_law_caught","_law_caught",defArgs Zby,defBody Zby,defScope Zby,[],[]⟩
def Zed:He.DefD:=⟨("_law_only",none),"_law_only","_law_only",defArgs Zb6,defBody Zb6,defScope Zb6,[],[]⟩
def Zg1:He.DefD:=⟨("law",none),"law","law",defArgs Ze4,defBody Ze4,defScope Ze4,[],[]⟩
def Zfw:He.DefD:=⟨("NotOn",some "__init__"),"__init__","NotOn.__init__",defArgs Zcd,defBody Zcd,defScope Zcd,[],[]⟩
def ZeA:He.DefD:=⟨("TooLong",some "__init__"),"__init__","TooLong.__init__",defArgs Zbu,defBody Zbu,defScope Zbu,[],[]⟩
def ZeB:He.DefD:=⟨("TooMany",some "__init__"),"__init__","TooMany.__init__",defArgs Zbv,defBody Zbv,defScope Zbv,[],[]⟩
def Zee:He.DefD:=⟨("NoNumber",some "__init__"),"__init__","NoNumber.__init__",defArgs Zbi,defBody Zbi,defScope Zbi,[],[]⟩
def Ze5:He.DefD:=⟨("NoName",some "__init__"),"__init__","NoName.__init__",defArgs ZbI,defBody ZbI,defScope ZbI,[],[]⟩
def hfn:List He.DefD:=[ZdZ,Zez,Zeb,Zec,ZdF,Zd0,Zd1,ZdG,Zed,Zg1,Zfw,ZeA,ZeB,Zee,Ze5]
def hfa:List He.Fa:=[.glo "_law_start",.glo "_law_mix",.glo "_law_draw",.glo "_law_same",.glo "_law_raised",.glo "_law_kinds",.glo "_law_field",.glo "_law_caught",.glo "_law_only",.glo "law",.free "ValueError",.free "all",.free "bool",.free "enumerate",.free "int",.free "isinstance",.free "len",.free "range",.free "str",.free "tuple",.free "zip"]
def hts:List He.Tab:=[]
def hex (K:Frag):Bool:=(exfB K "NotOn" "word" && (exfB K "TooLong" "letters" && (exfB K "TooMany" "many" && (exfB K "NoNumber" "number" && (exfB K "NoName" "name" && (exnB K "BendError" && (exnB K "NoWord" && (exnB K "NoText" && (exnB K "NoFraction" && (exnB K "NoPrice" && (exnB K "NoPoint" && (exnB K "NotLeast" && (exnB K "NoLine" && (exnB K "NothingDone" && (exbB K "BendError" && (exmB K [0,1,2,3,4,5,6,7,8,9,10,11,12,13] [0,1,2,3,4,5,6,7,8,9,10,11,12,13] "BendError" && (exyB K [0,1,2,3,4,5,6,7,8,9,10,11,12,13] [3] "NoFraction" && (exyB K [0,1,2,3,4,5,6,7,8,9,10,11,12,13] [7] "NoLine" && (exyB K [0,1,2,3,4,5,6,7,8,9,10,11,12,13] [13] "NoName" && (exyB K [0,1,2,3,4,5,6,7,8,9,10,11,12,13] [12] "NoNumber" && (exyB K [0,1,2,3,4,5,6,7,8,9,10,11,12,13] [5] "NoPoint" && (exyB K [0,1,2,3,4,5,6,7,8,9,10,11,12,13] [4] "NoPrice" && (exyB K [0,1,2,3,4,5,6,7,8,9,10,11,12,13] [2] "NoText" && (exyB K [0,1,2,3,4,5,6,7,8,9,10,11,12,13] [1] "NoWord" && (exyB K [0,1,2,3,4,5,6,7,8,9,10,11,12,13] [6] "NotLeast" && (exyB K [0,1,2,3,4,5,6,7,8,9,10,11,12,13] [9] "NotOn" && (exyB K [0,1,2,3,4,5,6,7,8,9,10,11,12,13] [8] "NothingDone" && (exyB K [0,1,2,3,4,5,6,7,8,9,10,11,12,13] [10] "TooLong" && (exyB K [0,1,2,3,4,5,6,7,8,9,10,11,12,13] [11] "TooMany" && (exkB K [0,1,2,3,4,5,6,7,8,9,10,11,12,13] [0,1,2,3,4,5,6,7,8,9,10,11,12,13] (.type "ValueError") && (exrB K "NoName" "name" && (exrB K "NoNumber" "number" && (exrB K "NotOn" "word" && (exrB K "TooLong" "letters" && (exrB K "TooMany" "many" && true)))))))))))))))))))))))))))))))))))
abbrev HR:PySem.W.OpenRow:=PySem.W.OpenLaw.row PySem.Challenge.rw_pricebend_k17_refusals_made
abbrev hk:PySem.W.Hook:=hookY 6 hfa hfn hts hex
def hob (s:PySem.W.SharedT):He.AlX:=obsY 6 hfa hfn hts hex (HandSHeadRun.getT s)
theorem Zi1 (s:PySem.W.SharedT):hob s=hk.obs s.abs:=Zif (HandSHeadRun.getT_eq s)
theorem hrun (w:World):HandSHeadRun.RunEq HR (PySem.W.view HR.prog [25]) hk hob 20000 ["BendError","NoWord","NoText","NoFraction","NoPrice","NoPoint","NotLeast","NoLine","NothingDone","NotOn","TooLong","TooMany","NoNumber","NoName","_law_start","_law_draw","_law_mix","_law_same","_law_kinds","_law_only","_law_raised","_law_field","_law_caught"] w:=by
  refine PySem.W.byRow2 "special-get-raises" (P:=fun w=>HandSHeadRun.RunEq HR (PySem.W.view HR.prog [25]) hk hob 20000 ["BendError","NoWord","NoText","NoFraction","NoPrice","NoPoint","NotLeast","NoLine","NothingDone","NotOn","TooLong","TooMany","NoNumber","NoName","_law_start","_law_draw","_law_mix","_law_same","_law_kinds","_law_only","_law_raised","_law_field","_law_caught"] w) (fun w => ?_) (fun w => ?_) w
  · intro os
    kernel_rfl
  · intro os
    kernel_rfl
end G_k17
namespace PB
section
variable {γ α β:Type}
def Sat (r:Rs γ α) (Q:α→γ→Prop):Prop:=match r with
  | .ok a g=>Q a g
  | _=>False
def SatO (o:Option α) (Q:α→γ→Prop) (g:γ):Prop:=match o with
  | some a=>Q a g
  | none=>False
theorem ZfT (a:α) (g:γ) (Q:α→γ→Prop):Sat (.ok a g) Q=Q a g:=rfl
theorem ZbY (o:Option α) (g:γ) (Q:α→γ→Prop):Sat (ofO o g) Q=SatO o Q g:=by cases o <;> rfl
theorem Zah (a:α) (Q:α→γ→Prop) (g:γ):SatO (some a) Q g=Q a g:=rfl
theorem ZdR (c:Prop) [Decidable c] (a:α) (Q:α→γ→Prop) (g:γ):SatO (if c then some a else none) Q g=(c∧Q a g):=by
  by_cases h:c
  · rw [if_pos h]
    exact propext ⟨fun q=>⟨h,q⟩,fun q=>q.2⟩
  · rw [if_neg h]
    exact propext ⟨fun q=>q.elim,fun q=>h q.1⟩
theorem Zai (r:Rs γ α) (f:α→γ→Rs γ β) (Q:β→γ→Prop):Sat (r.bind f) Q=Sat r fun a g=>Sat (f a g) Q:=by cases r <;> rfl
theorem Zgj (r:Rs γ α) (Q:α→γ→Prop):Sat (okO r) Q=Sat r Q:=by cases r <;> rfl
theorem Sat.mono {r:Rs γ α} {Q R:α→γ→Prop} (h:Sat r Q) (k:∀ a g,Q a g→R a g):Sat r R:=by
  cases r with
  | ok a g=>exact k a g h
  | ex x g=>exact h
  | no=>exact h
theorem Sat.get {r:Rs γ α} {Q:α→γ→Prop} (h:Sat r Q):∃ a g,r = .ok a g∧Q a g:=by
  cases r with
  | ok a g=>exact ⟨a,g,rfl,h⟩
  | ex x g=>exact h.elim
  | no=>exact h.elim
variable {e:Env} {g:γ} {f:Op2} {f1:Op1} {fN:OpN} {a b c:ME γ} {t u:MT γ} {as:MA γ} {s1 s2:MS γ} {Q:Rv→γ→Prop} {QB:Bool→γ→Prop} {QA:List Rv→γ→Prop} {QS:Fl→γ→Prop} {QI:List D→γ→Prop} {x y:Rv} {i j k:Nat} {F:MF γ}
def kVar (Q:Rv→γ→Prop) (g:γ):Sl→Prop
  | .dat d=>Q (.dat d) g
  | .own ds=>Q (.bor ds) g
  | .owd t ks vs=>Q (.bdt t ks vs) g
  | _=>False
theorem ZaI:Sat (Zaa i e g) Q=kVar Q g (gt e i):=by
  unfold Zaa
  cases gt e i <;> rfl
theorem Zap {d:D}:kVar Q g (.dat d)=Q (.dat d) g:=rfl
theorem ZbJ {d:List D}:kVar Q g (.own d)=Q (.bor d) g:=rfl
theorem S_C {d:D}:Sat (mC d e g) Q=Q (.dat d) g:=rfl
def k1 (f:Op1) (Q:Rv→γ→Prop) (x:Rv) (g:γ):Prop:=SatO (f x) Q g
theorem Zc6:Sat (ZaY f1 a e g) Q=Sat (a e g) (k1 f1 Q):=by
  unfold ZaY
  rw [Zai]
  congr 1
  funext x g
  exact ZbY _ _ _
theorem k1_:k1 f1 Q x g=SatO (f1 x) Q g:=rfl
def k2 (f:Op2) (b:ME γ) (e:Env) (Q:Rv→γ→Prop) (x:Rv) (g:γ):Prop:=Sat (b e g) fun y g2=>SatO (f x y) Q g2
def k2b (f:Op2) (Q:Rv→γ→Prop) (x y:Rv) (g:γ):Prop:=SatO (f x y) Q g
theorem ZaD:Sat (Zad f a b e g) Q=Sat (a e g) (k2 f b e Q):=by
  unfold Zad k2
  rw [Zai]
  congr 1
  funext x g
  rw [Zai]
  congr 1
  funext y g
  exact ZbY _ _ _
theorem k2_:k2 f b e Q x g=Sat (b e g) (k2b f Q x):=rfl
theorem k2b_:k2b f Q x y g=SatO (f x y) Q g:=rfl
theorem Zb8:Sat (Zal e g) QA=QA [] g:=rfl
def kc (as:MA γ) (e:Env) (Q:List Rv→γ→Prop) (x:Rv) (g:γ):Prop:=Sat (as e g) fun xs g2=>Q (x :: xs) g2
def kcb (Q:List Rv→γ→Prop) (x:Rv) (xs:List Rv) (g:γ):Prop:=Q (x :: xs) g
theorem Zbz:Sat (Zab a as e g) QA=Sat (a e g) (kc as e QA):=by
  unfold Zab kc
  rw [Zai]
  congr 1
  funext x g
  rw [Zai]
  rfl
theorem kc_:kc as e QA x g=Sat (as e g) (kcb QA x):=rfl
theorem kcb_ {xs:List Rv}:kcb QA x xs g=QA (x :: xs) g:=rfl
def kN (f:OpN) (Q:Rv→γ→Prop) (xs:List Rv) (g:γ):Prop:=SatO (f xs) Q g
theorem Zc7:Sat (Zca fN as e g) Q=Sat (as e g) (kN fN Q):=by
  unfold Zca kN
  rw [Zai]
  congr 1
  funext x g
  exact ZbY _ _ _
theorem kN_ {xs:List Rv}:kN fN Q xs g=SatO (fN xs) Q g:=rfl
def kT (Q:Rv→γ→Prop) (xs:List Rv) (g:γ):Prop:=match stoL xs with
  | some ds=>ds.length≤SZ∧Q (.dat (.tup ds)) g
  | none=>False
def kL (Q:Rv→γ→Prop) (xs:List Rv) (g:γ):Prop:=match stoL xs with
  | some ds=>ds.length≤SZ∧Q (.own ds) g
  | none=>False
theorem Zc8:Sat (Zcq as e g) Q=Sat (as e g) (kT Q):=by
  unfold Zcq
  rw [Zai]
  congr 1
  funext xs g
  unfold kT
  cases stoL xs with
  | some ds=>
    dsimp only
    by_cases h:ds.length≤SZ
    · rw [if_pos h]
      exact propext ⟨fun q=>⟨h,q⟩,fun q=>q.2⟩
    · rw [if_neg h]
      exact propext ⟨fun q=>q.elim,fun q=>h q.1⟩
  | none=>rfl
theorem Zc9:Sat (Za3 as e g) Q=Sat (as e g) (kL Q):=by
  unfold Za3
  rw [Zai]
  congr 1
  funext xs g
  unfold kL
  cases stoL xs with
  | some ds=>
    dsimp only
    by_cases h:ds.length≤SZ
    · rw [if_pos h]
      exact propext ⟨fun q=>⟨h,q⟩,fun q=>q.2⟩
    · rw [if_neg h]
      exact propext ⟨fun q=>q.elim,fun q=>h q.1⟩
  | none=>rfl
theorem Za5:stoL []=some []:=rfl
def consO (d:D):Option (List D)→Option (List D)
  | some ds=>some (d :: ds)
  | none=>none
theorem Za6 {d:D} {xs:List Rv}:stoL (.dat d :: xs)=consO d (stoL xs):=by
  show (match (Rv.dat d).sto,stoL xs with | some d,some ds=>some (d :: ds) | _,_=>none)=_
  cases stoL xs <;> rfl
theorem ZbK {d:List D} {xs:List Rv}:stoL (.own d :: xs)=consO (.lst d) (stoL xs):=by
  show (match (Rv.own d).sto,stoL xs with | some d,some ds=>some (d :: ds) | _,_=>none)=_
  cases stoL xs <;> rfl
theorem ZaR {d:D} {ds:List D}:consO d (some ds)=some (d :: ds):=rfl
def kCall (F:MF γ) (Q:Rv→γ→Prop) (xs:List Rv) (g:γ):Prop:=match stoL xs with
  | some ds=>Sat (F ds g) Q
  | none=>False
theorem ZbA:Sat (Zat F as e g) Q=Sat (as e g) (kCall F Q):=by
  unfold Zat
  rw [Zai]
  congr 1
  funext xs g
  unfold kCall
  cases stoL xs with
  | some ds=>exact Zgj _ _
  | none=>rfl
theorem kCall_ {xs:List Rv} {ds:List D} (h:stoL xs=some ds):kCall F Q xs g=Sat (F ds g) Q:=by
  unfold kCall
  rw [h]
def kI {α:Type} (A B:Env→γ→Rs γ α) (e:Env) (Q:α→γ→Prop) (c:Bool) (g:γ):Prop:=match c with
  | true=>Sat (A e g) Q
  | false=>Sat (B e g) Q
theorem Zef:Sat (mIf t a b e g) Q=Sat (t e g) (kI a b e Q):=by
  unfold mIf
  rw [Zai]
  congr 1
  funext c g
  cases c <;> rfl
theorem Zb9:Sat (Zau t s1 s2 e g) QS=Sat (t e g) (kI s1 s2 e QS):=by
  unfold Zau
  rw [Zai]
  congr 1
  funext c g
  cases c <;> rfl
theorem Zcf {A B:Env→γ→Rs γ α} {Q:α→γ→Prop}:kI A B e Q true g=Sat (A e g) Q:=rfl
theorem ZbL {A B:Env→γ→Rs γ α} {Q:α→γ→Prop}:kI A B e Q false g=Sat (B e g) Q:=rfl
theorem kI_c {A B:Env→γ→Rs γ α} {Q:α→γ→Prop} {c:Bool} (h1:c=true→Sat (A e g) Q) (h2:c=false→Sat (B e g) Q):kI A B e Q c g:=by
  cases c
  · exact h2 rfl
  · exact h1 rfl
theorem kI_d {A B:Env→γ→Rs γ α} {Q:α→γ→Prop} {p:Prop} [Decidable p] (h1:p→Sat (A e g) Q) (h2:¬ p→Sat (B e g) Q):kI A B e Q (decide p) g:=
  kI_c (fun h=>h1 (of_decide_eq_true h)) (fun h=>h2 (of_decide_eq_false h))
def kAndV (b:ME γ) (e:Env) (Q:Rv→γ→Prop) (x:Rv) (g:γ):Prop:=match x with
  | .dat (.bl true)=>Sat (b e g) Q
  | .dat (.bl false)=>Q (dB false) g
  | _=>False
def kOrV (b:ME γ) (e:Env) (Q:Rv→γ→Prop) (x:Rv) (g:γ):Prop:=match x with
  | .dat (.bl true)=>Q (dB true) g
  | .dat (.bl false)=>Sat (b e g) Q
  | _=>False
theorem ZcC:Sat (ZbV a b e g) Q=Sat (a e g) (kAndV b e Q):=by
  unfold ZbV
  rw [Zai]
  congr 1
  funext x g
  unfold kAndV
  cases x with
  | dat d=>cases d <;> first
    | rfl
    | (rename_i b; cases b <;> rfl)
  | own d=>rfl
  | bor d=>rfl
  | odt _ _ _=>rfl
  | bdt _ _ _=>rfl
theorem Zda:Sat (mOrV a b e g) Q=Sat (a e g) (kOrV b e Q):=by
  unfold mOrV
  rw [Zai]
  congr 1
  funext x g
  unfold kOrV
  cases x with
  | dat d=>cases d <;> first
    | rfl
    | (rename_i b; cases b <;> rfl)
  | own d=>rfl
  | bor d=>rfl
  | odt _ _ _=>rfl
  | bdt _ _ _=>rfl
theorem Zbb:kAndV b e Q (.dat (.bl true)) g=Sat (b e g) Q:=rfl
theorem Za0:kAndV b e Q (.dat (.bl false)) g=Q (.dat (.bl false)) g:=rfl
theorem Zbq:kOrV b e Q (.dat (.bl true)) g=Q (.dat (.bl true)) g:=rfl
theorem Zbc:kOrV b e Q (.dat (.bl false)) g=Sat (b e g) Q:=rfl
def kTest (Q:Bool→γ→Prop) (x:Rv) (g:γ):Prop:=match x with
  | .dat (.bl c)=>Q c g
  | _=>False
theorem ZbB:Sat (Zan a e g) QB=Sat (a e g) (kTest QB):=by
  unfold Zan
  rw [Zai]
  congr 1
  funext x g
  unfold kTest
  cases x with
  | dat d=>cases d <;> first
    | rfl
    | (rename_i b; cases b <;> rfl)
  | own d=>rfl
  | bor d=>rfl
  | odt _ _ _=>rfl
  | bdt _ _ _=>rfl
theorem kTest_ {c:Bool}:kTest QB (.dat (.bl c)) g=QB c g:=rfl
def kTru (Q:Bool→γ→Prop) (x:Rv) (g:γ):Prop:=SatO (oTru x) Q g
theorem Zdb:Sat (mTru a e g) QB=Sat (a e g) (kTru QB):=by
  unfold mTru kTru
  rw [Zai]
  congr 1
  funext x g
  exact ZbY _ _ _
theorem kTru_:kTru QB x g=SatO (oTru x) QB g:=rfl
def kAnd (u:MT γ) (e:Env) (Q:Bool→γ→Prop) (c:Bool) (g:γ):Prop:=match c with
  | true=>Sat (u e g) Q
  | false=>Q false g
def kOr (u:MT γ) (e:Env) (Q:Bool→γ→Prop) (c:Bool) (g:γ):Prop:=match c with
  | true=>Q true g
  | false=>Sat (u e g) Q
def kNot (Q:Bool→γ→Prop) (c:Bool) (g:γ):Prop:=Q (!c) g
theorem Zcz:Sat (ZeF t u e g) QB=Sat (t e g) (kAnd u e QB):=by
  unfold ZeF
  rw [Zai]
  congr 1
  funext c g
  cases c <;> rfl
theorem Zeg:Sat (mOr t u e g) QB=Sat (t e g) (kOr u e QB):=by
  unfold mOr
  rw [Zai]
  congr 1
  funext c g
  cases c <;> rfl
theorem Zdc:Sat (ZdL t e g) QB=Sat (t e g) (kNot QB):=by
  unfold ZdL
  rw [Zai]
  rfl
theorem Zbd:kAnd u e QB true g=Sat (u e g) QB:=rfl
theorem ZaZ:kAnd u e QB false g=QB false g:=rfl
theorem ZbM:kOr u e QB true g=QB true g:=rfl
theorem Zbr:kOr u e QB false g=Sat (u e g) QB:=rfl
theorem kNot_ {c:Bool}:kNot QB c g=QB (!c) g:=rfl
/-- statements -/
def kS (s2:MS γ) (Q:Fl→γ→Prop) (f:Fl) (g:γ):Prop:=match f with
  | .nx e=>Sat (s2 e g) Q
  | .rt r=>Q (.rt r) g
  | .bk e=>Q (.bk e) g
  | .ct e=>Q (.ct e) g
theorem ZaE:Sat (Zae s1 s2 e g) QS=Sat (s1 e g) (kS s2 QS):=by
  unfold Zae
  rw [Zai]
  congr 1
  funext f g
  cases f <;> rfl
theorem ZaG:kS s2 QS (.nx e) g=Sat (s2 e g) QS:=rfl
theorem Zdd {r:Rv}:kS s2 QS (.rt r) g=QS (.rt r) g:=rfl
theorem Zde:kS s2 QS (.bk e) g=QS (.bk e) g:=rfl
theorem Zdf:kS s2 QS (.ct e) g=QS (.ct e) g:=rfl
theorem ZcD:Sat (Zao e g) QS=QS (.nx e) g:=rfl
def kSet (i:Nat) (e:Env) (Q:Fl→γ→Prop) (x:Rv) (g:γ):Prop:=match x.slot with
  | some s=>Q (.nx (st e i s)) g
  | none=>False
theorem ZaT:Sat (Zam i a e g) QS=Sat (a e g) (kSet i e QS):=by
  unfold Zam
  rw [Zai]
  congr 1
  funext x g
  unfold kSet
  cases x <;> rfl
theorem Zax {d:D}:kSet i e QS (.dat d) g=QS (.nx (st e i (.dat d))) g:=rfl
theorem ZbN {d:List D}:kSet i e QS (.own d) g=QS (.nx (st e i (.own d))) g:=rfl
def kTgtL (is:List Nat) (e:Env) (Q:Fl→γ→Prop) (x:Rv) (g:γ):Prop:=SatO (x.items) (fun ds g=>SatO (tgL is ds e) (fun e1 g=>Q (.nx e1) g) g) g
theorem ZcE {is:List Nat}:Sat (ZhD is a e g) QS=Sat (a e g) (kTgtL is e QS):=by
  unfold ZhD
  rw [Zai]
  congr 1
  funext x g
  unfold kTgtL
  cases x.items with
  | none=>rfl
  | some ds=>
    dsimp only
    show _=SatO (tgL is ds e) _ g
    cases tgL is ds e <;> rfl
theorem kTgtL_ {is:List Nat}:kTgtL is e QS x g=SatO (x.items) (fun ds g=>SatO (tgL is ds e) (fun e1 g=>QS (.nx e1) g) g) g:=rfl
def kP (b:ME γ) (i j:Nat) (e:Env) (Q:Fl→γ→Prop) (x:Rv) (g:γ):Prop:=Sat (b e g) fun y g2=>match x,y with
  | .dat x,.dat y=>Q (.nx (st (st e i (.dat x)) j (.dat y))) g2
  | _,_=>False
theorem Zdg:Sat (mPar i j a b e g) QS=Sat (a e g) (kP b i j e QS):=by
  unfold mPar
  rw [Zai]
  congr 1
  funext x g
  unfold kP
  rw [Zai]
  congr 1
  funext y g
  cases x <;> cases y <;> rfl
def kPb (i j:Nat) (e:Env) (Q:Fl→γ→Prop) (x y:Rv) (g:γ):Prop:=match x,y with
  | .dat x,.dat y=>Q (.nx (st (st e i (.dat x)) j (.dat y))) g
  | _,_=>False
theorem kP_:kP b i j e QS x g=Sat (b e g) (kPb i j e QS x):=rfl
theorem kPb_ {d d':D}:kPb i j e QS (.dat d) (.dat d') g=QS (.nx (st (st e i (.dat d)) j (.dat d'))) g:=rfl
theorem ZjE:Sat (ZaB a e g) QS=Sat (a e g) fun x g=>QS (.rt x) g:=by
  unfold ZaB
  rw [Zai]
  rfl
def kR (Q:Fl→γ→Prop) (x:Rv) (g:γ):Prop:=Q (.rt x) g
theorem ZbO:Sat (ZaB a e g) QS=Sat (a e g) (kR QS):=ZjE
theorem kR_:kR QS x g=QS (.rt x) g:=rfl
theorem ZcF:Sat (Zjj e g) QS=QS (.rt (.dat .non)) g:=rfl
theorem Zcg:Sat (Ziz e g) QS=QS (.bk e) g:=rfl
theorem ZcG:Sat (Zjk e g) QS=QS (.ct e) g:=rfl
theorem Zdh {d:D} (h:gt e i = .dat d):Sat (ZbE i e g) QS=QS (.nx e) g:=by
  unfold ZbE
  rw [h]
  rfl
/-- loops -/
def kF (tg:MG) (b:MS γ) (e:Env) (Q:Fl→γ→Prop) (ds:List D) (g:γ):Prop:=Sat (forL tg b ds e g) Q
theorem Zdi {src:MI γ} {tg:MG} {b:MS γ}:Sat (ZeH src tg b e g) QS=Sat (src e g) (kF tg b e QS):=by
  unfold ZeH
  rw [Zai]
  rfl
theorem kF_ {tg:MG} {b:MS γ} {ds:List D}:kF tg b e QS ds g=Sat (forL tg b ds e g) QS:=rfl
theorem ZbP {tg:MG} {b:MS γ}:Sat (forL tg b [] e g) QS=QS (.nx e) g:=rfl
def kFb (tg:MG) (b:MS γ) (ds:List D) (Q:Fl→γ→Prop) (f:Fl) (g:γ):Prop:=match f with
  | .nx e2=>Sat (forL tg b ds e2 g) Q
  | .ct e2=>Sat (forL tg b ds e2 g) Q
  | .bk e2=>Q (.nx e2) g
  | .rt r=>Q (.rt r) g
theorem ZcH {tg:MG} {b:MS γ} {ds:List D}:kFb tg b ds QS (.nx e) g=Sat (forL tg b ds e g) QS:=rfl
theorem ZcI {tg:MG} {b:MS γ} {ds:List D}:kFb tg b ds QS (.ct e) g=Sat (forL tg b ds e g) QS:=rfl
theorem ZcJ {tg:MG} {b:MS γ} {ds:List D}:kFb tg b ds QS (.bk e) g=QS (.nx e) g:=rfl
theorem ZcK {tg:MG} {b:MS γ} {ds:List D} {r:Rv}:kFb tg b ds QS (.rt r) g=QS (.rt r) g:=rfl
theorem tgN_ {d:D}:tgN i d e=some (st e i (.dat d)):=rfl
def kItems (Q:List D→γ→Prop) (x:Rv) (g:γ):Prop:=SatO (seqOf x) Q g
theorem Zch:Sat (ZcZ a e g) QI=Sat (a e g) (kItems QI):=by
  unfold ZcZ kItems
  rw [Zai]
  congr 1
  funext x g
  exact ZbY _ _ _
theorem Zbe {ds:List D}:kItems QI (.dat (.tup ds)) g=QI ds g:=rfl
theorem Zbf {ds:List D}:kItems QI (.dat (.lst ds)) g=QI ds g:=rfl
theorem Zbg {ds:List D}:kItems QI (.own ds) g=QI ds g:=rfl
def kRng (Q:List D→γ→Prop) (x:Rv) (g:γ):Prop:=match x with
  | .dat (.int n)=>RngOk n∧Q (rng 0 n.toNat) g
  | _=>False
theorem ZbQ:Sat (ZdB a e g) QI=Sat (a e g) (kRng QI):=by
  unfold ZdB
  rw [Zai]
  congr 1
  funext x g
  unfold kRng
  cases x with
  | dat d=>
    cases d with
    | int n=>
      dsimp only
      by_cases h:RngOk n
      · rw [if_pos h]
        exact propext ⟨fun q=>⟨h,q⟩,fun q=>q.2⟩
      · rw [if_neg h]
        exact propext ⟨fun q=>q.elim,fun q=>h q.1⟩
    | _=>rfl
  | own d=>rfl
  | bor d=>rfl
  | odt _ _ _=>rfl
  | bdt _ _ _=>rfl
theorem kRng_ {n:Int}:kRng QI (.dat (.int n)) g=(RngOk n∧QI (rng 0 n.toNat) g):=rfl
/-- list comprehensions -/
def kLc (tg:MG) (c:MT γ) (a:ME γ) (e:Env) (Q:Rv→γ→Prop) (ds:List D) (g:γ):Prop:=Sat (lcL tg c a e ds [] g) Q
theorem Zeh {src:MI γ} {tg:MG} {own:List Nat}:Sat (mLc src tg t a own e g) Q=Sat (src e g) (kLc tg t a (wp e own) Q):=by
  unfold mLc
  rw [Zai]
  rfl
theorem kLc_ {tg:MG} {ds:List D}:kLc tg t a e Q ds g=Sat (lcL tg t a e ds [] g) Q:=rfl
theorem Zci {tg:MG} {acc:List D}:Sat (lcL tg t a e [] acc g) Q=Q (.own acc) g:=rfl
def kLcA (tg:MG) (t:MT γ) (a:ME γ) (e:Env) (ds acc:List D) (Q:Rv→γ→Prop) (x:Rv) (g:γ):Prop:=match x.sto with
  | some y=>acc.length < SZ∧Sat (lcL tg t a e ds (acc ++ [y]) g) Q
  | none=>False
def kLcT (tg:MG) (t:MT γ) (a:ME γ) (e e1:Env) (ds acc:List D) (Q:Rv→γ→Prop) (c:Bool) (g:γ):Prop:=match c with
  | true=>Sat (a e1 g) (kLcA tg t a e ds acc Q)
  | false=>Sat (lcL tg t a e ds acc g) Q
theorem ZfU {tg:MG} {d:D} {ds acc:List D} {e1:Env} (h:tg d e=some e1):Sat (lcL tg t a e (d :: ds) acc g) Q=Sat (t e1 g) (kLcT tg t a e e1 ds acc Q):=by
  show Sat (match tg d e with
    | none=>.no
    | some e1=>match t e1 g with
      | .ok true g1=>match a e1 g1 with
        | .ok r g2=>match r.sto with
          | some y=>if acc.length < SZ then lcL tg t a e ds (acc ++ [y]) g2 else .no
          | none=>.no
        | _=>.no
      | .ok false g1=>lcL tg t a e ds acc g1
      | _=>.no) Q=_
  rw [h]
  dsimp only
  cases t e1 g with
  | ok c g1=>
    cases c with
    | false=>rfl
    | true=>
      show Sat (match a e1 g1 with
        | .ok r g2=>match r.sto with
          | some y=>if acc.length < SZ then lcL tg t a e ds (acc ++ [y]) g2 else .no
          | none=>.no
        | _=>.no) Q=Sat (a e1 g1) (kLcA tg t a e ds acc Q)
      cases a e1 g1 with
      | ok r g2=>
        show Sat (match r.sto with
          | some y=>if acc.length < SZ then lcL tg t a e ds (acc ++ [y]) g2 else .no
          | none=>.no) Q=kLcA tg t a e ds acc Q r g2
        unfold kLcA
        cases r.sto with
        | none=>rfl
        | some y=>
          dsimp only
          by_cases hl:acc.length < SZ
          · rw [if_pos hl]
            exact propext ⟨fun q=>⟨hl,q⟩,fun q=>q.2⟩
          · rw [if_neg hl]
            exact propext ⟨fun q=>q.elim,fun q=>hl q.1⟩
      | ex x g=>rfl
      | no=>rfl
  | ex x g=>rfl
  | no=>rfl
theorem Zg2 {tg:MG} {e1:Env} {ds acc:List D}:kLcT tg t a e e1 ds acc Q true g=Sat (a e1 g) (kLcA tg t a e ds acc Q):=rfl
theorem Zht {tg:MG} {ds acc:List D} {d:D}:kLcA tg t a e ds acc Q (.dat d) g=(acc.length < SZ∧Sat (lcL tg t a e ds (acc ++ [d]) g) Q):=rfl
theorem ZcW:Sat (ZeG e g) QB=QB true g:=rfl
/-- while: what holds ahead of each test,what goes down -/
theorem Zil {n:Nat} (I:Nat→Env→γ→Prop) (m0:Nat) (h0:I m0 e g) (hn:m0 < n)
    (hs:∀ m e g,I m e g→Sat (t e g) fun c g1=>match c with
      | true=>Sat (s1 e g1) fun f g2=>match f with
        | .nx e2=>∃ m',m' < m∧I m' e2 g2
        | .ct e2=>∃ m',m' < m∧I m' e2 g2
        | .bk e2=>QS (.nx e2) g2
        | .rt r=>QS (.rt r) g2
      | false=>QS (.nx e) g1):Sat (Zbk t s1 n e g) QS:=by
  induction n generalizing m0 e g with
  | zero=>omega
  | succ n ih=>
    have h:=hs m0 e g h0
    show Sat (match t e g with
    | .ok true g1=>match s1 e g1 with
      | .ok (.nx e2) g2=>Zbk t s1 n e2 g2
      | .ok (.ct e2) g2=>Zbk t s1 n e2 g2
      | .ok (.bk e2) g2=>.ok (.nx e2) g2
      | .ok (.rt r) g2=>.ok (.rt r) g2
      | .ex x g2=>.ex x g2
      | .no=>.no
    | .ok false g1=>.ok (.nx e) g1
    | .ex x g1=>.ex x g1
    | .no=>.no) QS
    cases ht:t e g with
    | no=>
      rw [ht] at h
      exact h
    | ex x g1=>
      rw [ht] at h
      exact h
    | ok c g1=>
      rw [ht] at h
      cases c with
      | false=>exact h
      | true=>
        have h':Sat (s1 e g1) _:=h
        dsimp only
        cases hb:s1 e g1 with
        | no=>
          rw [hb] at h'
          exact h'
        | ex x g2=>
          rw [hb] at h'
          exact h'
        | ok f g2=>
          rw [hb] at h'
          cases f with
          | nx e2=>
            obtain ⟨m',hm,hi⟩:=h'
            exact ih m' hi (by omega)
          | ct e2=>
            obtain ⟨m',hm,hi⟩:=h'
            exact ih m' hi (by omega)
          | bk e2=>exact h'
          | rt r=>exact h'
/-- a def -/
def kD (Q:Rv→γ→Prop) (f:Fl) (g:γ):Prop:=match f with
  | .nx _=>Q (.dat .non) g
  | .rt r=>Q r.ret g
  | _=>False
theorem ZdS {n k:Nat} {b:MS γ} {ds:List D} (h:ds.length=k):Sat (Zbh n k b ds g) Q=Sat (b (ds.map Sl.dat ++ List.replicate (n - k) .un) g) (kD Q):=by
  unfold Zbh
  rw [if_pos h]
  cases b (ds.map Sl.dat ++ List.replicate (n - k) .un) g with
  | ok f g=>cases f <;> rfl
  | ex x g=>rfl
  | no=>rfl
theorem Zct {r:Rv}:kD Q (.rt r) g=Q r.ret g:=rfl
theorem Zdj:kD Q (.nx e) g=Q (.dat .non) g:=rfl
/-- operations -/
theorem ZbZ {i j:Int}:oAdd (.dat (.int i)) (.dat (.int j))=some (.dat (.int (i + j))):=rfl
theorem Zdk {i j:Int}:oSub (.dat (.int i)) (.dat (.int j))=some (.dat (.int (i - j))):=rfl
theorem ZdT {i j:Int} (h:MulOk i j):oMul (.dat (.int i)) (.dat (.int j))=some (.dat (.int (i * j))):=if_pos h
theorem ZjF {i j:Int} (h:DivOk j):oDiv (.dat (.int i)) (.dat (.int j))=some (.dat (.int (i / j))):=if_pos h
theorem Ze6 {i j:Int} (h:0 < j):oMod (.dat (.int i)) (.dat (.int j))=some (.dat (.int (i % j))):=if_pos h
theorem ZjG {i j:Int} (h:PowOk i j):oPow (.dat (.int i)) (.dat (.int j))=some (.dat (.int (i ^ j.toNat))):=if_pos h
theorem ZdU {i j:Int}:oEq (.dat (.int i)) (.dat (.int j))=some (.dat (.bl (decide (i=j)))):=rfl
theorem Zei {i j:Int}:oNe (.dat (.int i)) (.dat (.int j))=some (.dat (.bl (!decide (i=j)))):=rfl
theorem ZdV {i j:Int}:oLt (.dat (.int i)) (.dat (.int j))=some (.dat (.bl (decide (i < j)))):=rfl
theorem Zej {i j:Int}:oLe (.dat (.int i)) (.dat (.int j))=some (.dat (.bl (decide (i≤j)))):=rfl
theorem ZdW {i j:Int}:oGt (.dat (.int i)) (.dat (.int j))=some (.dat (.bl (decide (j < i)))):=rfl
theorem Zek {i j:Int}:oGe (.dat (.int i)) (.dat (.int j))=some (.dat (.bl (decide (j≤i)))):=rfl
theorem Zdl {i j:Bool}:oEq (.dat (.bl i)) (.dat (.bl j))=some (.dat (.bl (i == j))):=rfl
theorem Zdm {i j:Bool}:oNe (.dat (.bl i)) (.dat (.bl j))=some (.dat (.bl (!(i == j)))):=rfl
theorem Zdn {i j:Bool}:oIs2 (.dat (.bl i)) (.dat (.bl j))=some (.dat (.bl (decide (i=j)))):=rfl
theorem ZbR {i j:Bool}:oIsNot2 (.dat (.bl i)) (.dat (.bl j))=some (.dat (.bl (!decide (i=j)))):=rfl
theorem Zdo {i:Int}:oAbs [.dat (.int i)]=some (.dat (.int (if i < 0 then -i else i))):=rfl
theorem Zel {ds:List D} {i:Int}:oIx (.dat (.tup ds)) (.dat (.int i))=(atI ds i).map .dat:=rfl
theorem Zdp {ds:List D} {i:Int}:oIx (.own ds) (.dat (.int i))=(atI ds i).map .dat:=rfl
theorem Zdq {ds:List D} {i:Int}:oIx (.bor ds) (.dat (.int i))=(atI ds i).map .dat:=rfl
theorem Zdr {ds:List D} {i:Int}:oIx (.dat (.lst ds)) (.dat (.int i))=(atI ds i).map .dat:=rfl
theorem ZcL {ds:List D}:oTuple [.own ds]=some (.dat (.tup ds)):=rfl
theorem ZbS {b:Bool}:oIs .bool (.dat (.bl b))=some (.dat (.bl true)):=rfl
end
section
variable {γ:Type} {g:γ} {F:MF γ} {Q:Rv→γ→Prop} {xs:List Rv} {e:Env} {t:MT γ} {a:ME γ}
theorem Zbm:kCall F Q xs g=SatO (stoL xs) (fun ds g=>Sat (F ds g) Q) g:=by
  unfold kCall
  cases stoL xs <;> rfl
theorem Zem:kT Q xs g=SatO (stoL xs) (fun ds g=>ds.length≤SZ∧Q (.dat (.tup ds)) g) g:=by
  unfold kT
  cases stoL xs <;> rfl
theorem Zen:kL Q xs g=SatO (stoL xs) (fun ds g=>ds.length≤SZ∧Q (.own ds) g) g:=by
  unfold kL
  cases stoL xs <;> rfl
theorem Zcj {i j:Int} {P:Rv→γ→Prop}:SatO (oMul (.dat (.int i)) (.dat (.int j))) P g=(MulOk i j∧P (.dat (.int (i * j))) g):=ZdR _ _ _ _
theorem Zck {i j:Int} {P:Rv→γ→Prop}:SatO (oDiv (.dat (.int i)) (.dat (.int j))) P g=(DivOk j∧P (.dat (.int (i / j))) g):=ZdR _ _ _ _
theorem Zcl {i j:Int} {P:Rv→γ→Prop}:SatO (oMod (.dat (.int i)) (.dat (.int j))) P g=(0 < j∧P (.dat (.int (i % j))) g):=ZdR _ _ _ _
theorem Zcm {i j:Int} {P:Rv→γ→Prop}:SatO (oPow (.dat (.int i)) (.dat (.int j))) P g=(PowOk i j∧P (.dat (.int (i ^ j.toNat))) g):=ZdR _ _ _ _
theorem Zbs {α β:Type} (f:α→β) (x:α):(some x).map f=some (f x):=rfl
theorem Zhu (n:Nat):dBls (List.replicate n (.bl true))=some (List.replicate n true):=by
  induction n with
  | zero=>rfl
  | succ n ih=>
    rw [List.replicate_succ,List.replicate_succ]
    show (dBls _).map _=_
    rw [ih]
    rfl
theorem Zg3 {n:Nat}:oAll [.own (List.replicate n (.bl true))]=some (.dat (.bl true)):=by
  show (dBls _).map _=_
  rw [Zhu]
  have:(List.replicate n true).all id=true:=by
    induction n with
    | zero=>rfl
    | succ n ih=>rw [List.replicate_succ,List.all_cons,ih]; rfl
  show some (dB ((List.replicate n true).all id))=_
  rw [this]
  rfl
/-- a comprehension that tells True of each item it takes -/
theorem Zim {tg:MG} {ds:List D} (hl:ds.length≤SZ)
    (hs:∀ d∈ds,∃ e1,tg d e=some e1∧Sat (t e1 g) fun c g1=>g1=g∧(c=true→Sat (a e1 g) fun r g2=>g2=g∧r = .dat (.bl true)))
    (hd:∀ n,Q (.own (List.replicate n (.bl true))) g):Sat (lcL tg t a e ds [] g) Q:=by
  have key:∀ post n,post.length + n≤SZ→(∀ d∈post,d∈ds)→Sat (lcL tg t a e post (List.replicate n (.bl true)) g) Q:=by
    intro post
    induction post with
    | nil=>
      intro n _ _
      exact hd n
    | cons d post ih=>
      intro n hn hm
      obtain ⟨e1,h1,h2⟩:=hs d (hm d (by simp))
      rw [ZfU h1]
      refine h2.mono fun c g1 q => ?_
      obtain ⟨rfl,q⟩:=q
      rw [List.length_cons] at hn
      cases c with
      | false=>exact ih n (by omega) (fun d hd=>hm d (by simp [hd]))
      | true=>
        refine (q rfl).mono fun r g2 q2 => ?_
        obtain ⟨rfl,rfl⟩:=q2
        rw [Zht]
        refine ⟨by rw [List.length_replicate]; omega,?_⟩
        have:=ih (n + 1) (by omega) (fun d hd=>hm d (by simp [hd]))
        rw [List.replicate_succ'] at this
        exact this
  exact key ds 0 (by omega) (fun d h=>h)
end
section
variable {γ:Type} {g:γ} {QS:Fl→γ→Prop} {QI:List D→γ→Prop} {Q:Rv→γ→Prop} {e:Env} {a b k:ME γ} {i:Nat}
def kPutK (i:Nat) (e:Env) (ds:List D) (QS:Fl→γ→Prop) (y z:Rv) (g:γ):Prop:=SatO y.sto (fun d g=>match z with
  | .dat (.int n)=>SatO (ixN ds.length n) (fun j g=>QS (.nx (st e i (.own (ds.set j d)))) g) g
  | _=>False) g
def kPut (k:ME γ) (i:Nat) (e:Env) (ds:List D) (QS:Fl→γ→Prop) (y:Rv) (g:γ):Prop:=Sat (k e g) (kPutK i e ds QS y)
theorem Zds {ds:List D} (h:gt e i = .own ds):Sat (mPut i k a e g) QS=Sat (a e g) (kPut k i e ds QS):=by
  unfold mPut
  rw [Zai]
  congr 1
  funext y g
  rw [h]
  dsimp only
  rw [Zai]
  unfold kPut
  congr 1
  funext z g
  unfold kPutK
  cases hy:y.sto with
  | none=>rfl
  | some d=>
    cases z with
    | dat z => 
      cases z with
      | int n=>
        dsimp only [SatO]
        cases ixN ds.length n <;> rfl
      | _=>rfl
    | own z=>rfl
    | bor z=>rfl
    | odt _ _ _=>rfl
    | bdt _ _ _=>rfl
theorem kPut_ {ds:List D} {y:Rv}:kPut k i e ds QS y g=Sat (k e g) (kPutK i e ds QS y):=rfl
theorem kPutK_ {ds:List D} {d:D} {n:Int}:kPutK i e ds QS (.dat d) (.dat (.int n)) g=SatO (ixN ds.length n) (fun j g=>QS (.nx (st e i (.own (ds.set j d)))) g) g:=rfl
def kZip (b:ME γ) (e:Env) (QI:List D→γ→Prop) (x:Rv) (g:γ):Prop:=Sat (b e g) fun y g=>SatO (zip2 x y) QI g
def kZipb (QI:List D→γ→Prop) (x y:Rv) (g:γ):Prop:=SatO (zip2 x y) QI g
theorem ZcM:Sat (ZeS a b e g) QI=Sat (a e g) (kZip b e QI):=by
  unfold ZeS kZip
  rw [Zai]
  congr 1
  funext x g
  rw [Zai]
  congr 1
  funext y g
  exact ZbY _ _ _
theorem kZip_ {x:Rv}:kZip b e QI x g=Sat (b e g) (kZipb QI x):=rfl
theorem Zbt {xs ys:List D}:kZipb QI (.dat (.tup xs)) (.dat (.tup ys)) g=QI (zipD xs ys) g:=rfl
theorem Zdt {ds:List D}:oSum [.own ds]=(dInts ds).map fun ns=>.dat (.int ns.sum):=rfl
theorem ZcN {ds:List D}:oSum [.bor ds]=(dInts ds).map fun ns=>.dat (.int ns.sum):=rfl
theorem ZcO {ds:List D}:oTuple [.bor ds]=some (.dat (.tup ds)):=rfl
theorem ZcP {ds:List D}:oTuple [.dat (.lst ds)]=some (.dat (.tup ds)):=rfl
theorem ZcQ {ds:List D}:oLen [.dat (.tup ds)]=some (.dat (.int ds.length)):=rfl
theorem ZcR:kRng QI (.dat (.int 3)) g=QI [.int 0,.int 1,.int 2] g:=by
  rw [kRng_]
  exact propext ⟨fun h=>h.2,fun h=>⟨by decide,h⟩⟩
end
section
variable {γ:Type} {g:γ} {QS:Fl→γ→Prop} {Q:Rv→γ→Prop} {e:Env} {t:MT γ} {a b:ME γ}
theorem Zdu {i j:List Nat}:oEq (.dat (.str i)) (.dat (.str j))=some (.dat (.bl (i == j))):=rfl
theorem Zdv {i j:List Nat}:oNe (.dat (.str i)) (.dat (.str j))=some (.dat (.bl (!(i == j)))):=rfl
theorem Zi2 {i j:List Nat} (h:i.length + j.length≤SZ):oAdd (.dat (.str i)) (.dat (.str j))=some (.dat (.str (i ++ j))):=if_pos h
theorem Zdw {ds:List D} {i:Int}:oIx (.dat (.tup ds)) (.dat (.int i))=(atI ds i).map .dat:=rfl
theorem ZcX {s:List Nat} {i:Int}:oIx (.dat (.str s)) (.dat (.int i))=(atI s i).map fun c=>.dat (.str [c]):=rfl
theorem ZcS {b:Bool}:oInt [.dat (.bl b)]=some (.dat (.int (if b then 1 else 0))):=rfl
theorem ZcT {s:List Nat}:oLen [.dat (.str s)]=some (.dat (.int s.length)):=rfl
theorem ZcU {s:List D}:oLen [.own s]=some (.dat (.int s.length)):=rfl
theorem ZcV {s:List D}:oLen [.bor s]=some (.dat (.int s.length)):=rfl
theorem Zcn {i j:Int}:oIAdd (.dat (.int i)) (.dat (.int j))=some (.dat (.int (i + j))):=rfl
def kS1 (f:List Nat→Rv→Option Rv) (b:ME γ) (e:Env) (Q:Rv→γ→Prop) (x:Rv) (g:γ):Prop:=match x with
  | .dat (.str s)=>Sat (b e g) fun y g2=>SatO (f s y) Q g2
  | _=>False
def kS1b (f:List Nat→Rv→Option Rv) (s:List Nat) (Q:Rv→γ→Prop) (y:Rv) (g:γ):Prop:=SatO (f s y) Q g
theorem Zeo {f:List Nat→Rv→Option Rv}:Sat (mS1 f a b e g) Q=Sat (a e g) (kS1 f b e Q):=by
  unfold mS1
  rw [Zai]
  congr 1
  funext x g
  unfold kS1
  cases x with
  | dat d=>
    cases d with
    | str s=>
      dsimp only
      rw [Zai]
      congr 1
      funext y g2
      exact ZbY _ _ _
    | _=>rfl
  | own d=>rfl
  | bor d=>rfl
  | odt _ _ _=>rfl
  | bdt _ _ _=>rfl
theorem kS1_ {f:List Nat→Rv→Option Rv} {s:List Nat}:kS1 f b e Q (.dat (.str s)) g=Sat (b e g) (kS1b f s Q):=rfl
theorem kS1b_ {f:List Nat→Rv→Option Rv} {s:List Nat} {y:Rv}:kS1b f s Q y g=SatO (f s y) Q g:=rfl
def kLm (f:List D→D→Option Int) (b:ME γ) (e:Env) (Q:Rv→γ→Prop) (x:Rv) (g:γ):Prop:=match x.items with
  | some l=>Sat (b e g) fun y g2=>SatO (f l y.val) (fun n g=>Q (.dat (.int n)) g) g2
  | none=>False
def kLmb (f:List D→D→Option Int) (l:List D) (Q:Rv→γ→Prop) (y:Rv) (g:γ):Prop:=SatO (f l y.val) (fun n g=>Q (.dat (.int n)) g) g
theorem Zep {f:List D→D→Option Int}:Sat (mLm f a b e g) Q=Sat (a e g) (kLm f b e Q):=by
  unfold mLm
  rw [Zai]
  congr 1
  funext x g
  unfold kLm
  cases x.items with
  | none=>rfl
  | some l=>
    dsimp only
    rw [Zai]
    congr 1
    funext y g2
    rw [ZbY]
    cases f l y.val <;> rfl
theorem Zco {f:List D→D→Option Int} {l:List D}:kLm f b e Q (.bor l) g=Sat (b e g) (kLmb f l Q):=rfl
theorem Zcp {f:List D→D→Option Int} {l:List D}:kLm f b e Q (.own l) g=Sat (b e g) (kLmb f l Q):=rfl
theorem kLmb_ {f:List D→D→Option Int} {l:List D} {d:D}:kLmb f l Q (.dat d) g=SatO (f l d) (fun n g=>Q (.dat (.int n)) g) g:=rfl
def kTab (tab:List (List Nat×D)) (Q:Rv→γ→Prop) (y:Rv) (g:γ):Prop:=match y with
  | .dat (.str s)=>SatO (tab.find? (fun q=>q.1 == s)) (fun q g=>Q (.dat q.2) g) g
  | _=>False
theorem Zdx {tab:List (List Nat×D)}:Sat (mTab tab a e g) Q=Sat (a e g) (kTab tab Q):=by
  unfold mTab
  rw [Zai]
  congr 1
  funext x g
  unfold kTab
  cases x with
  | dat d=>
    cases d with
    | str s=>
      dsimp only
      rw [ZbY]
      cases tab.find? (fun q=>q.1 == s) <;> rfl
    | _=>rfl
  | own d=>rfl
  | bor d=>rfl
  | odt _ _ _=>rfl
  | bdt _ _ _=>rfl
end
theorem Zg4 {α:Type} (f:α→List Nat) (ls:List α):dStrs (ls.map fun x=>.str (f x))=some (ls.map f):=by
  induction ls with
  | nil=>rfl
  | cons x xs ih=>
    rw [List.map_cons,List.map_cons]
    show (dStrs _).map _=_
    rw [ih]
    rfl
theorem Zfx (ls:List (List Nat)):joinL [] ls=ls.flatten:=by
  match ls with
  | []=>rfl
  | [x]=>simp [joinL]
  | x :: y :: r=>
    have:=Zfx (y :: r)
    simp only [joinL,List.append_nil,List.flatten_cons] at *
    rw [this]
theorem Zi3 {α:Type} (f:α→List Nat) (ls:List α) (h:(ls.map fun x=>(f x).length).sum≤SZ):oJoin [] (.own (ls.map fun x=>.str (f x)))=some (.dat (.str (ls.flatMap f))):=by
  unfold oJoin
  show (match dStrs (ls.map fun x=>.str (f x)) with | some ss=>_ | none=>none)=_
  rw [Zg4]
  dsimp only
  rw [if_pos (by
    rw [List.map_map]
    show (List.map (fun x=>(f x).length) ls).sum + 0 * _≤SZ
    rw [Nat.zero_mul]
    exact h),Zfx]
  rfl
theorem ZeQ (i:Int) (n:Nat):(rng i n).length=n:=by
  induction n generalizing i with
  | zero=>rfl
  | succ n ih=>rw [rng,List.length_cons,ih]
theorem Zin (n:Nat):∀ (i:Int),rng i n=(List.range n).map fun k=>D.int (i + (k:Nat)):=by
  induction n with
  | zero=>intro i; rfl
  | succ n ih=>
    intro i
    rw [rng,ih,List.range_succ_eq_map,List.map_cons,List.map_map]
    congr 1
    · simp
    · apply List.map_congr_left
      intro k _
      show D.int _=D.int _
      congr 1
      show i + 1 + (k:Int)=i + ((k + 1:Nat):Int)
      omega
theorem log2_lt {a n:Nat} (h:a < 2 ^ n) (hn:0 < n):a.log2 < n:=by
  by_cases h0:a=0
  · subst h0
    exact hn
  · exact (Nat.log2_lt h0).mpr h
theorem mulOk {i j:Int} {a b:Nat} (hi:i.natAbs < 2 ^ a) (hj:j.natAbs < 2 ^ b) (h:a + b≤1000000) (ha:0 < a) (hb:0 < b):MulOk i j:=by
  have h1:=log2_lt hi ha
  have h2:=log2_lt hj hb
  show _ + _ < _
  omega
theorem divOk {j:Int} {b:Nat} (h0:0 < j) (hj:j.natAbs < 2 ^ b) (h:b≤9000) (hb:0 < b):DivOk j:=⟨h0,by have:=log2_lt hj hb; omega⟩
end PB
set_option maxRecDepth 10000
set_option exponentiation.threshold 2000
namespace PB
def mixM:MS LS:=(Zae (Zet 0)
    (Zae (Zam 1 (ZfD 0))
    (Zae (Zam 2 (mC (.int 5)))
    (Zae (Zau (ZeV 0) (Zam 2 (Zfd 0 (Zad oMod (Zaa 1) (Zes 0)))) Zao)
    (Zae (Zam 3 (Zad oMod (Zad oPow (Zad oAdd (Zad oAdd (Zad oAdd (Zaa 2) (Zad oMul (Zad oMul (mC (.int 1009)) (Zaa 1)) (Zaa 1))) (Zad oMul (mC (.int 48611)) (Zaa 1))) (mC (.int 17))) (mC (.int 5))) (mC (.int 2147483647))))
    (ZaB (Zad oMod (Zad oAdd (Zad oMul (Zaa 3) (mC (.int 39373))) (Zad oMul (mC (.int 7919)) (Zaa 1))) (mC (.int 1000000007)))))))))
def mixF:MF LS:=Zbh 4 1 mixM
def drawM:MS LS:=(Zae (Zau (ZeF (Zan (Zad oEq (Za7 0) (mC (.int 0)))) (ZeU 0)) (ZdM 0) Zao)
    (Zae (Zau (Zan (Zad oGt (Za7 0) (mC (.int 0)))) (Zae (Zam 2 (Zad oMod (Za7 0) (Zaa 1)))
    (Zae (Zcb 0 (Zad oDiv (Za7 0) (Zaa 1)))
    (ZaB (Zaa 2)))) Zao)
    (Zae (Zam 2 (mC (.int 0)))
    (Zae (Zam 3 (mC (.int 1)))
    (Zae (Zbk (Zan (Zad oLt (Zaa 3) (Zaa 1))) (Zae (Zam 2 (Zad oAdd (Zad oMul (Zaa 2) (mC (.int 1000000007))) (Zat mixF (Zab (Zaa 0) Zal))))
    (Zam 3 (Zad oMul (Zaa 3) (mC (.int 1000000007))))) 100)
    (ZaB (Zad oMod (Zaa 2) (Zaa 1))))))))
def drawF:MF LS:=Zbh 4 2 drawM
theorem Zgk {j k:Nat} (h:j≤k):(1000000007:Int) ^ j≤1000000007 ^ k:=by
  have e:∀ j:Nat,(1000000007:Int) ^ j=((1000000007 ^ j:Nat):Int):=fun j=>by
    rw [Int.natCast_pow]
    rfl
  rw [e,e]
  exact Int.ofNat_le.mpr (Nat.pow_le_pow_right (by decide) h)
/-- the state,so many draws to come -/
structure Bud (a b:Nat) (s:LS):Prop where
  ok:s.Ok
  ea:s.a=a
  cn:s.cnt + 16 * b≤100000000
theorem Bud.le {a b c:Nat} {s:LS} (h:Bud a b s) (k:c≤b):Bud a c s:=⟨h.ok,h.ea,by have:=h.cn; omega⟩
theorem isSt_ {e:Env} {i a:Nat} {s:LS} (h:gt e i = .dat (.ref a)) (k:s.a=a):isSt e i s=true:=by
  unfold isSt
  rw [h]
  simp [k]
section
variable {e:Env} {i a b:Nat} {s:LS} {Q:Rv→LS→Prop} {QS:Fl→LS→Prop} {QB:Bool→LS→Prop}
theorem ZfV (h:isSt e i s=true):Sat (Za7 i e s) Q=Q (.dat (.int s.told)) s:=by
  unfold Za7
  rw [if_pos h]
  rfl
theorem ZjH (h:isSt e i s=true):Sat (ZfD i e s) Q=Q (.dat (.int s.cnt)) s:=by
  unfold ZfD
  rw [if_pos h]
  rfl
theorem Zi4 (h:isSt e i s=true):Sat (ZeU i e s) QB=QB (!s.gr.isEmpty) s:=by
  unfold ZeU
  rw [if_pos h]
  rfl
theorem Zi5 (h:isSt e i s=true):Sat (ZeV i e s) QB=QB (!s.cs.isEmpty) s:=by
  unfold ZeV
  rw [if_pos h]
  rfl
theorem Zi6 (h:isSt e i s=true):Sat (Zet i e s) QS=QS (.nx e) { s with cnt:=s.cnt + 1 }:=by
  unfold Zet
  rw [if_pos h]
  rfl
end
theorem Zgl {α:Type} {xs:List α} {i:Int} (h0:0≤i) (h1:i < xs.length):∃ x,x∈xs∧atI xs i=some x:=by
  have hi:i.toNat < xs.length:=by omega
  refine ⟨xs[i.toNat],List.getElem_mem hi,?_⟩
  unfold atI ixN
  rw [if_pos h0,if_pos h1]
  show xs[i.toNat]?=_
  exact List.getElem?_eq_getElem hi
theorem pw5 {x:Int} (h0:0≤x) (h1:x < 2 ^ 64):PowOk x 5:=⟨by decide,by decide,by omega⟩
theorem ZjI {a b:Nat} {s:LS} {Q:Rv→LS→Prop} (h:s.Ok) (ea:s.a=a) (hc:s.cnt < 100000000)
    (q:∀ k:Int,0≤k→k < 1000000007→Q (.dat (.int k)) { s with cnt:=s.cnt + 1 }):Sat (mixF [.ref a] s) Q:=by
  unfold mixF
  rw [ZdS (k:=1) (ds:=[.ref a]) rfl]
  show Sat (mixM [.dat (.ref a),.un,.un,.un] s) _
  unfold mixM
  rw [ZaE,Zi6 (isSt_ rfl ea),ZaG,ZaE,ZaT,ZjH (s:={ s with cnt:=s.cnt + 1 }) (isSt_ rfl ea),Zax,ZaG,ZaE,ZaT,S_C,Zax,ZaG]
  dsimp only [st]
  rw [ZaE,Zb9,Zi5 (s:={ s with cnt:=s.cnt + 1 }) (isSt_ rfl ea)]
  have fin:∀ c:Int,0≤c→c < 2147483648→Sat ((Zae (Zam 3 (Zad oMod (Zad oPow (Zad oAdd (Zad oAdd (Zad oAdd (Zaa 2) (Zad oMul (Zad oMul (mC (.int 1009)) (Zaa 1)) (Zaa 1))) (Zad oMul (mC (.int 48611)) (Zaa 1))) (mC (.int 17))) (mC (.int 5))) (mC (.int 2147483647))))
    (ZaB (Zad oMod (Zad oAdd (Zad oMul (Zaa 3) (mC (.int 39373))) (Zad oMul (mC (.int 7919)) (Zaa 1))) (mC (.int 1000000007))))) [.dat (.ref a),.dat (.int ((s.cnt + 1:Nat):Int)),.dat (.int c),.un] { s with cnt:=s.cnt + 1 }) (kD Q):=by
    intro c c0 c1
    have hn:(s.cnt + 1:Nat)≤100000000:=by omega
    have hn0:0≤((s.cnt + 1:Nat):Int):=by omega
    have hn1:((s.cnt + 1:Nat):Int)≤100000000:=by omega
    generalize ((s.cnt + 1:Nat):Int)=n at *
    rw [ZaE,ZaT,ZaD,ZaD,ZaD,ZaD,ZaD,ZaI]
    dsimp only [gt]
    rw [Zap,k2_,ZaD,ZaD,S_C,k2_,ZaI]
    dsimp only [gt]
    rw [Zap,k2b_,ZdT (mulOk (a:=10) (b:=27) (by decide) (by omega) (by decide) (by decide) (by decide)),Zah,k2_,ZaI]
    dsimp only [gt]
    have b1:0≤1009 * n:=by omega
    have b2:1009 * n≤100900000000:=by omega
    have b3:0≤1009 * n * n:=Int.mul_nonneg b1 hn0
    have b4:1009 * n * n≤100900000000 * 100000000:=Int.mul_le_mul b2 hn1 hn0 (by decide)
    rw [Zap,k2b_,ZdT (mulOk (a:=40) (b:=27) (by omega) (by omega) (by decide) (by decide) (by decide)),Zah,k2b_,ZbZ,Zah,k2_,ZaD,S_C,k2_,ZaI]
    dsimp only [gt]
    rw [Zap,k2b_,ZdT (mulOk (a:=20) (b:=27) (by decide) (by omega) (by decide) (by decide) (by decide)),Zah,k2b_,ZbZ,Zah,k2_,S_C,k2b_,ZbZ,Zah,k2_,S_C,k2b_,ZjG (pw5 (by omega) (by omega)),Zah,k2_,S_C,k2b_,Ze6 (by decide),Zah,Zax,ZaG]
    dsimp only [st]
    have m0:=Int.emod_nonneg ((c + 1009 * n * n + 48611 * n + 17) ^ (5:Int).toNat) (show (2147483647:Int)≠0 by decide)
    have m1:=Int.emod_lt_of_pos ((c + 1009 * n * n + 48611 * n + 17) ^ (5:Int).toNat) (show (0:Int) < 2147483647 by decide)
    generalize (c + 1009 * n * n + 48611 * n + 17) ^ (5:Int).toNat % 2147483647=m at *
    rw [ZbO,ZaD,ZaD,ZaD,ZaI]
    dsimp only [gt]
    rw [Zap,k2_,S_C,k2b_,ZdT (mulOk (a:=32) (b:=20) (by omega) (by decide) (by decide) (by decide) (by decide)),Zah,k2_,ZaD,S_C,k2_,ZaI]
    dsimp only [gt]
    rw [Zap,k2b_,ZdT (mulOk (a:=20) (b:=27) (by decide) (by omega) (by decide) (by decide) (by decide)),Zah,k2b_,ZbZ,Zah,k2_,S_C,k2b_,Ze6 (by decide),Zah,kR_,Zct]
    exact q _ (Int.emod_nonneg _ (by decide)) (Int.emod_lt_of_pos _ (by decide))
  cases hcs:s.cs.isEmpty with
  | true=>exact fin 5 (by decide) (by decide)
  | false=>
    show Sat (Zam 2 (Zfd 0 (Zad oMod (Zaa 1) (Zes 0))) _ _) _
    have hl:0 < s.cs.length:=by
      cases hq:s.cs with
      | nil=>
        rw [hq] at hcs
        cases hcs
      | cons x xs=>simp
    have r0:=Int.emod_nonneg ((s.cnt + 1:Nat):Int) (show ((s.cs.length:Nat):Int)≠0 by omega)
    have r1:=Int.emod_lt_of_pos ((s.cnt + 1:Nat):Int) (show (0:Int) < (s.cs.length:Nat) by omega)
    obtain ⟨x,hx,ex⟩:=Zgl r0 r1
    have hx2:=h.2.2 x hx
    have key:Zfd 0 (Zad oMod (Zaa 1) (Zes 0)) [.dat (.ref a),.dat (.int ((s.cnt + 1:Nat):Int)),.dat (.int 5),.un] { s with cnt:=s.cnt + 1 } = .ok (.dat (.int x)) { s with cnt:=s.cnt + 1 }:=by
      unfold Zfd Zad Zaa Zes
      have z:∀ m,isSt [.dat (.ref a),.dat (.int ((s.cnt + 1:Nat):Int)),.dat (.int 5),.un] 0 { s with cnt:=m }=true:=fun m=>isSt_ rfl ea
      rw [if_pos (z _)]
      dsimp only [gt,Rs.bind_ok]
      rw [if_pos (z _)]
      dsimp only [Rs.bind_ok]
      rw [Ze6 (by omega),ofO_some]
      dsimp only [Rs.bind_ok]
      rw [if_pos (z _),ex]
      rfl
    rw [ZaT,key,ZfT,Zax,ZaG]
    exact fin x hx2.1 (by omega)
/-- a draw -/
theorem Zeq {a b:Nat} {n:Int} {s:LS} {Q:Rv→LS→Prop} (h:Bud a (b + 1) s) (n0:0 < n) (n1:n≤10 ^ 90)
    (q:∀ (k:Int) (s':LS),0≤k→k < n→Bud a b s'→Q (.dat (.int k)) s'):Sat (drawF [.ref a,.int n] s) Q:=by
  have nb:n.natAbs < 2 ^ 300:=by
    have:(10:Int) ^ 90 < 2 ^ 300:=by decide
    omega
  have hcn:=h.cn
  -- with a number told
  have told:∀ s':LS,s'.Ok→s'.a=a→s'.cnt=s.cnt→0 < s'.told→Sat ((Zae (Zam 2 (Zad oMod (Za7 0) (Zaa 1)))
    (Zae (Zcb 0 (Zad oDiv (Za7 0) (Zaa 1)))
    (ZaB (Zaa 2)))) [.dat (.ref a),.dat (.int n),.un,.un] s') (fun f g=>kD Q f g∧∃ r,f = .rt r):=by
    intro s' h1 h2 h3 h4
    rw [ZaE,ZaT,ZaD,ZfV (isSt_ rfl h2),k2_,ZaI]
    dsimp only [gt]
    rw [Zap,k2b_,Ze6 n0,Zah,Zax,ZaG]
    dsimp only [st]
    have key:Zcb 0 (Zad oDiv (Za7 0) (Zaa 1)) [.dat (.ref a),.dat (.int n),.dat (.int (s'.told % n)),.un] s' = .ok (.nx [.dat (.ref a),.dat (.int n),.dat (.int (s'.told % n)),.un]) { s' with told:=s'.told / n }:=by
      unfold Zcb Zad Zaa Za7
      have z:isSt [.dat (.ref a),.dat (.int n),.dat (.int (s'.told % n)),.un] 0 s'=true:=isSt_ rfl h2
      rw [if_pos z]
      dsimp only [gt,Rs.bind_ok]
      rw [ZjF (divOk n0 nb (by decide) (by decide)),ofO_some]
      dsimp only [Rs.bind_ok]
      rw [if_pos z]
    rw [ZaE,key,ZfT,ZaG,ZbO,ZaI]
    dsimp only [gt]
    rw [Zap,kR_]
    refine ⟨?_,_,rfl⟩
    rw [Zct]
    refine q _ _ (Int.emod_nonneg _ (by omega)) (Int.emod_lt_of_pos _ n0) ⟨⟨?_,h1.2.1,h1.2.2⟩,h2,?_⟩
    · show 0≤s'.told / n
      exact Int.ediv_nonneg (by omega) (by omega)
    · show s'.cnt + 16 * b≤_
      omega
  -- the rest
  have rest:∀ s':LS,s'.Ok→s'.a=a→s'.cnt=s.cnt→Sat ((Zae (Zam 2 (mC (.int 0)))
    (Zae (Zam 3 (mC (.int 1)))
    (Zae (Zbk (Zan (Zad oLt (Zaa 3) (Zaa 1))) (Zae (Zam 2 (Zad oAdd (Zad oMul (Zaa 2) (mC (.int 1000000007))) (Zat mixF (Zab (Zaa 0) Zal))))
    (Zam 3 (Zad oMul (Zaa 3) (mC (.int 1000000007))))) 100)
    (ZaB (Zad oMod (Zaa 2) (Zaa 1)))))) [.dat (.ref a),.dat (.int n),.un,.un] s') (kD Q):=by
    intro s' h1 h2 h3
    rw [ZaE,ZaT,S_C,Zax,ZaG,ZaE,ZaT,S_C,Zax,ZaG]
    dsimp only [st]
    rw [ZaE]
    refine Zil (fun m e g=>∃ (t z:Int) (j:Nat),e=[.dat (.ref a),.dat (.int n),.dat (.int t),.dat (.int z)]∧g.Ok∧g.a=a∧g.cnt=s.cnt + j∧j + m=12∧z=1000000007 ^ j∧0≤t∧t < z) 12 ⟨0,1,0,rfl,h1,h2,h3,rfl,rfl,by decide,by decide⟩ (by decide) ?_
    rintro m e g ⟨t,z,j,rfl,g1,g2,g3,g4,g5,g6,g7⟩
    rw [ZbB,ZaD,ZaI]
    dsimp only [gt]
    rw [Zap,k2_,ZaI]
    dsimp only [gt]
    rw [Zap,k2b_,ZdV,Zah,kTest_]
    have zle:∀ j:Nat,j≤12→(1000000007:Int) ^ j < 2 ^ 400:=fun j hj=>by
      have e1:(1000000007:Int) ^ j≤1000000007 ^ 12:=Zgk hj
      have e2:(1000000007:Int) ^ 12 < 2 ^ 400:=by decide
      omega
    have zpos:(0:Int) < 1000000007 ^ j:=Int.pow_pos (by decide)
    by_cases hz:z < n
    · rw [decide_eq_true hz]
      dsimp only
      have hj:j < 11:=by
        by_cases hj:j < 11
        · exact hj
        · exfalso
          have e1:(1000000007:Int) ^ 11≤1000000007 ^ j:=Zgk (by omega)
          have e2:(10:Int) ^ 90 < 1000000007 ^ 11:=by decide
          omega
      have zb:=zle j (by omega)
      rw [ZaE,ZaT,ZaD,ZaD,ZaI]
      dsimp only [gt]
      rw [Zap,k2_,S_C,k2b_,ZdT (mulOk (a:=400) (b:=32) (by omega) (by decide) (by decide) (by decide) (by decide)),Zah,k2_,ZbA,Zbz,ZaI]
      dsimp only [gt]
      rw [Zap,kc_,Zb8,kcb_,kCall_ (ds:=[.ref a]) rfl]
      refine ZjI (b:=0) g1 g2 (by omega) fun k k0 k1 => ?_
      rw [k2b_,ZbZ,Zah,Zax,ZaG]
      dsimp only [st]
      rw [ZaT,ZaD,ZaI]
      dsimp only [gt]
      rw [Zap,k2_,S_C,k2b_,ZdT (mulOk (a:=400) (b:=32) (by omega) (by decide) (by decide) (by decide) (by decide)),Zah,Zax]
      dsimp only [st]
      refine ⟨m - 1,by omega,_,_,j + 1,rfl,g1,g2,?_,by omega,?_,?_,?_⟩
      · show g.cnt + 1=_
        omega
      · rw [g5,Int.pow_succ]
      · omega
      · omega
    · rw [decide_eq_false hz]
      dsimp only
      rw [ZaG,ZbO,ZaD,ZaI]
      dsimp only [gt]
      rw [Zap,k2_,ZaI]
      dsimp only [gt]
      rw [Zap,k2b_,Ze6 n0,Zah,kR_,Zct]
      exact q _ _ (Int.emod_nonneg _ (by omega)) (Int.emod_lt_of_pos _ n0) ⟨g1,g2,by omega⟩
  unfold drawF
  rw [ZdS (k:=2) (ds:=[.ref a,.int n]) rfl]
  show Sat (drawM [.dat (.ref a),.dat (.int n),.un,.un] s) _
  unfold drawM
  -- behind the first statement
  have mid:∀ s':LS,s'.Ok→s'.a=a→s'.cnt=s.cnt→Sat ((Zae (Zau (Zan (Zad oGt (Za7 0) (mC (.int 0)))) (Zae (Zam 2 (Zad oMod (Za7 0) (Zaa 1)))
    (Zae (Zcb 0 (Zad oDiv (Za7 0) (Zaa 1)))
    (ZaB (Zaa 2)))) Zao)
    (Zae (Zam 2 (mC (.int 0)))
    (Zae (Zam 3 (mC (.int 1)))
    (Zae (Zbk (Zan (Zad oLt (Zaa 3) (Zaa 1))) (Zae (Zam 2 (Zad oAdd (Zad oMul (Zaa 2) (mC (.int 1000000007))) (Zat mixF (Zab (Zaa 0) Zal))))
    (Zam 3 (Zad oMul (Zaa 3) (mC (.int 1000000007))))) 100)
    (ZaB (Zad oMod (Zaa 2) (Zaa 1))))))) [.dat (.ref a),.dat (.int n),.un,.un] s') (kD Q):=by
    intro s' h1 h2 h3
    rw [ZaE,Zb9,ZbB,ZaD,ZfV (isSt_ rfl h2),k2_,S_C,k2b_,ZdW,Zah,kTest_]
    refine kI_d (fun hp => ?_) (fun _ => ?_)
    · refine (told s' h1 h2 h3 hp).mono fun f g ⟨w,r,e⟩ => ?_
      subst e
      exact w
    · exact rest s' h1 h2 h3
  rw [ZaE,Zb9,Zcz,ZbB,ZaD,ZfV (isSt_ rfl h.ea),k2_,S_C,k2b_,ZdU,Zah,kTest_]
  by_cases ht:s.told=0
  · rw [decide_eq_true ht,Zbd,Zi4 (isSt_ rfl h.ea)]
    cases hg:s.gr with
    | nil=>exact mid s h.ok h.ea rfl
    | cons x r=>
      show Sat (ZdM 0 _ s) _
      have key:ZdM 0 [.dat (.ref a),.dat (.int n),.un,.un] s = .ok (.nx [.dat (.ref a),.dat (.int n),.un,.un]) { s with gr:=r,told:=x }:=by
        unfold ZdM
        rw [if_pos (isSt_ rfl h.ea),hg]
      rw [key,ZfT,ZaG]
      have hx:=h.ok.2.1
      rw [hg] at hx
      exact mid _ ⟨Int.le_of_lt (hx x (by simp)),fun y hy=>hx y (by simp [hy]),h.ok.2.2⟩ h.ea rfl
  · rw [decide_eq_false ht,ZaZ]
    exact mid s h.ok h.ea rfl
end PB
namespace PB
def v3 (x y z:Int):D:=.tup [.int x,.int y,.int z]
mutual
/-- numbers,texts,truths,None,and tuples of such,not deeper than n -/
def plainN:Nat→D→Bool
  | _,.non=>true
  | _,.bl _=>true
  | _,.int _=>true
  | _,.str _=>true
  | n + 1,.tup ds=>plainL n ds && decide (ds.length≤SZ)
  | _,_=>false
def plainL:Nat→List D→Bool
  | _,[]=>true
  | n,d :: ds=>plainN n d && plainL n ds
end
theorem ZgB {n:Nat} {ds:List D} (h:plainL n ds=true):∀ d∈ds,plainN n d=true:=by
  induction ds with
  | nil=>intro d hd; cases hd
  | cons x xs ih=>
    unfold plainL at h
    rw [Bool.and_eq_true] at h
    intro d hd
    rcases List.mem_cons.mp hd with rfl | hd
    · exact h.1
    · exact ih h.2 d hd
theorem Zhv {ds:List D}:∀ d∈zipD ds ds,∃ x∈ds,d = .tup [x,x]:=by
  induction ds with
  | nil=>intro d hd; cases hd
  | cons x xs ih=>
    intro d hd
    rcases List.mem_cons.mp hd with rfl | hd
    · exact ⟨x,by simp,rfl⟩
    · obtain ⟨y,hy,e⟩:=ih d hd
      exact ⟨y,by simp [hy],e⟩
theorem Zhw {ds es:List D}:(zipD ds es).length≤ds.length:=by
  induction ds generalizing es with
  | nil=>simp [zipD]
  | cons x xs ih=>
    cases es with
    | nil=>simp [zipD]
    | cons y ys=>
      have:=ih (es:=ys)
      simp only [zipD,List.length_cons]
      omega
end PB
namespace PB
inductive Mv where
  | keep (c:Nat) | oth (c e:Nat) | out (c:Nat) | inn (c:Nat)
abbrev wKeep:List Nat:=[107,101,101,112]
abbrev wOther:List Nat:=[111,116,104,101,114]
abbrev wOut:List Nat:=[111,117,116]
abbrev wIn:List Nat:=[105,110]
def Mv.d:Mv→D
  | .keep c=>.tup [.str wKeep,.str [c]]
  | .oth c e=>.tup [.str wOther,.str [c],.str [e]]
  | .out c=>.tup [.str wOut,.str [c]]
  | .inn c=>.tup [.str wIn,.str [c]]
def Mv.taken:Mv→List Nat
  | .keep c=>[c]
  | .oth c _=>[c]
  | .out c=>[c]
  | .inn _=>[]
def Mv.made:Mv→List Nat
  | .keep c=>[c]
  | .oth _ e=>[e]
  | .out _=>[]
  | .inn c=>[c]
def Mv.isO:Mv→Bool
  | .oth _ _=>true
  | _=>false
def nO (ls:List Mv):Int:=(ls.countP Mv.isO:Nat)
end PB
namespace PB
end PB
namespace PB
theorem Zi7 {n:Nat} (h:n≤1000):RngOk (n:Int):=log2_lt (n:=62) (by omega) (by decide)
end PB
namespace PB
def dueM (F:MF LS):MS LS:=(Zae (Zau (Zan (ZaY (oIs .tuple) (Zaa 1))) (Zae (Zau (mOr (ZdL (Zan (ZaY (oIs .tuple) (Zaa 0)))) (Zan (Zad oNe (Zca oLen (Zab (Zaa 0) Zal)) (Zca oLen (Zab (Zaa 1) Zal))))) (ZaB (mC (.bl false))) Zao)
    (ZaB (Zca oAll (Zab (mLc (ZeS (Zaa 0) (Zaa 1)) (tgT [2,3]) ZeG (Zat F (Zab (Zaa 2) (Zab (Zaa 3) Zal))) [2,3]) Zal)))) Zao)
    (Zae (Zau (Zan (ZaY oIsN (Zaa 1))) (ZaB (ZaY oIsN (Zaa 0))) Zao)
    (Zae (Zau (Zan (ZaY (oIs .str) (Zaa 1))) (ZaB (ZbV (ZaY (oIs .str) (Zaa 0)) (Zad oEq (Zaa 0) (Zaa 1)))) Zao)
    (ZaB (ZbV (ZaY (oIs .int) (Zaa 0)) (ZbV (Zad oEq (ZaY (oIs .bool) (Zaa 0)) (ZaY (oIs .bool) (Zaa 1))) (Zad oEq (Zaa 0) (Zaa 1))))))))
def dueF:Nat→MF LS
  | 0=>fun _ _=>.no
  | n + 1=>Zbh 4 2 (dueM (dueF n))
/-- what is due is found -/
theorem ZjJ {n:Nat} {s:LS}:∀ {d:D} {Q:Rv→LS→Prop},plainN n d=true→Q (.dat (.bl true)) s→Sat (dueF (n + 1) [d,d] s) Q:=by
  induction n with
  | zero=>
    intro d Q h q
    cases d with
    | tup ds=>cases h
    | lst ds=>cases h
    | ref a=>cases h
    | dct t ks vs=>cases h
    | non=>exact q
    | bl b=>cases b <;> exact q
    | int i=>
      unfold dueF
      rw [ZdS (k:=2) (ds:=[.int i,.int i]) rfl]
      show Sat (dueM (dueF 0) [.dat (.int i),.dat (.int i),.un,.un] s) _
      unfold dueM
      simp only [ZaI,S_C,Zc6,k1_,ZaD,k2_,k2b_,Zb8,Zbz,kc_,kcb_,Zc7,kN_,Zc8,Zc9,Zem,Zen,Za5,Za6,ZbK,ZaR,Zah,ZbA,Zbm,Zef,Zb9,Zcf,ZbL,ZcC,Zda,Zbb,Za0,Zbq,Zbc,ZbB,kTest_,Zdb,kTru_,Zcz,Zeg,Zdc,Zbd,ZaZ,ZbM,Zbr,kNot_,ZaE,ZaG,Zdd,Zde,Zdf,ZcD,ZaT,Zax,ZbN,Zdg,kP_,kPb_,ZbO,kR_,ZcF,Zcg,ZcG,Zdi,kF_,ZbP,ZcH,ZcI,ZcJ,ZcK,Zch,Zbe,Zbf,Zbg,Zeh,kLc_,Zci,ZcW,Zct,Zdj,Rv.ret,gt,st,Zap,ZbJ,ZbZ,Zdk,ZdU,Zei,ZdV,Zej,ZdW,Zek,Zdl,Zdm,Zdn,ZbR,Zdo,Zel,Zdp,Zdq,Zdr,ZcL,ZbS,Zbs,wp,tgN_,List.length_cons,List.length_nil,Nat.reduceAdd,Nat.reduceLeDiff,true_and,decide_true,decide_false,Bool.not_true,Bool.not_false,Zcj,Zck,Zcl,Zcm,Zdu,Zdv,ZcS,ZcT,ZcU,ZcV,Zcn,Zeo,kS1_,kS1b_,Zep,Zco,Zcp,kLmb_,Zdx,Zdw,ZcX,Zds,kPut_,kPutK_,ZcM,kZip_,Zbt,Zdt,ZcN,ZcO,ZcP,ZcQ,ZbQ,ZcR,ZcE,kTgtL_,List.nil_append,List.cons_append,Nat.reduceLT,SZ,forall_const,true_implies,oIs,isTy,oIsN,isNon,dB,Rv.val,beq_self_eq_true]
      exact q
    | str i=>
      unfold dueF
      rw [ZdS (k:=2) (ds:=[.str i,.str i]) rfl]
      show Sat (dueM (dueF 0) [.dat (.str i),.dat (.str i),.un,.un] s) _
      unfold dueM
      simp only [ZaI,S_C,Zc6,k1_,ZaD,k2_,k2b_,Zb8,Zbz,kc_,kcb_,Zc7,kN_,Zc8,Zc9,Zem,Zen,Za5,Za6,ZbK,ZaR,Zah,ZbA,Zbm,Zef,Zb9,Zcf,ZbL,ZcC,Zda,Zbb,Za0,Zbq,Zbc,ZbB,kTest_,Zdb,kTru_,Zcz,Zeg,Zdc,Zbd,ZaZ,ZbM,Zbr,kNot_,ZaE,ZaG,Zdd,Zde,Zdf,ZcD,ZaT,Zax,ZbN,Zdg,kP_,kPb_,ZbO,kR_,ZcF,Zcg,ZcG,Zdi,kF_,ZbP,ZcH,ZcI,ZcJ,ZcK,Zch,Zbe,Zbf,Zbg,Zeh,kLc_,Zci,ZcW,Zct,Zdj,Rv.ret,gt,st,Zap,ZbJ,ZbZ,Zdk,ZdU,Zei,ZdV,Zej,ZdW,Zek,Zdl,Zdm,Zdn,ZbR,Zdo,Zel,Zdp,Zdq,Zdr,ZcL,ZbS,Zbs,wp,tgN_,List.length_cons,List.length_nil,Nat.reduceAdd,Nat.reduceLeDiff,true_and,decide_true,decide_false,Bool.not_true,Bool.not_false,Zcj,Zck,Zcl,Zcm,Zdu,Zdv,ZcS,ZcT,ZcU,ZcV,Zcn,Zeo,kS1_,kS1b_,Zep,Zco,Zcp,kLmb_,Zdx,Zdw,ZcX,Zds,kPut_,kPutK_,ZcM,kZip_,Zbt,Zdt,ZcN,ZcO,ZcP,ZcQ,ZbQ,ZcR,ZcE,kTgtL_,List.nil_append,List.cons_append,Nat.reduceLT,SZ,forall_const,true_implies,oIs,isTy,oIsN,isNon,dB,Rv.val]
      rw [beq_self_eq_true]
      exact q
  | succ n ih=>
    intro d Q h q
    cases d with
    | lst ds=>cases h
    | ref a=>cases h
    | dct t ks vs=>cases h
    | non=>exact q
    | bl b=>cases b <;> exact q
    | int i=>
      unfold dueF
      rw [ZdS (k:=2) (ds:=[.int i,.int i]) rfl]
      show Sat (dueM (dueF (n + 1)) [.dat (.int i),.dat (.int i),.un,.un] s) _
      unfold dueM
      simp only [ZaI,S_C,Zc6,k1_,ZaD,k2_,k2b_,Zb8,Zbz,kc_,kcb_,Zc7,kN_,Zc8,Zc9,Zem,Zen,Za5,Za6,ZbK,ZaR,Zah,ZbA,Zbm,Zef,Zb9,Zcf,ZbL,ZcC,Zda,Zbb,Za0,Zbq,Zbc,ZbB,kTest_,Zdb,kTru_,Zcz,Zeg,Zdc,Zbd,ZaZ,ZbM,Zbr,kNot_,ZaE,ZaG,Zdd,Zde,Zdf,ZcD,ZaT,Zax,ZbN,Zdg,kP_,kPb_,ZbO,kR_,ZcF,Zcg,ZcG,Zdi,kF_,ZbP,ZcH,ZcI,ZcJ,ZcK,Zch,Zbe,Zbf,Zbg,Zeh,kLc_,Zci,ZcW,Zct,Zdj,Rv.ret,gt,st,Zap,ZbJ,ZbZ,Zdk,ZdU,Zei,ZdV,Zej,ZdW,Zek,Zdl,Zdm,Zdn,ZbR,Zdo,Zel,Zdp,Zdq,Zdr,ZcL,ZbS,Zbs,wp,tgN_,List.length_cons,List.length_nil,Nat.reduceAdd,Nat.reduceLeDiff,true_and,decide_true,decide_false,Bool.not_true,Bool.not_false,Zcj,Zck,Zcl,Zcm,Zdu,Zdv,ZcS,ZcT,ZcU,ZcV,Zcn,Zeo,kS1_,kS1b_,Zep,Zco,Zcp,kLmb_,Zdx,Zdw,ZcX,Zds,kPut_,kPutK_,ZcM,kZip_,Zbt,Zdt,ZcN,ZcO,ZcP,ZcQ,ZbQ,ZcR,ZcE,kTgtL_,List.nil_append,List.cons_append,Nat.reduceLT,SZ,forall_const,true_implies,oIs,isTy,oIsN,isNon,dB,Rv.val,beq_self_eq_true]
      exact q
    | str i=>
      unfold dueF
      rw [ZdS (k:=2) (ds:=[.str i,.str i]) rfl]
      show Sat (dueM (dueF (n + 1)) [.dat (.str i),.dat (.str i),.un,.un] s) _
      unfold dueM
      simp only [ZaI,S_C,Zc6,k1_,ZaD,k2_,k2b_,Zb8,Zbz,kc_,kcb_,Zc7,kN_,Zc8,Zc9,Zem,Zen,Za5,Za6,ZbK,ZaR,Zah,ZbA,Zbm,Zef,Zb9,Zcf,ZbL,ZcC,Zda,Zbb,Za0,Zbq,Zbc,ZbB,kTest_,Zdb,kTru_,Zcz,Zeg,Zdc,Zbd,ZaZ,ZbM,Zbr,kNot_,ZaE,ZaG,Zdd,Zde,Zdf,ZcD,ZaT,Zax,ZbN,Zdg,kP_,kPb_,ZbO,kR_,ZcF,Zcg,ZcG,Zdi,kF_,ZbP,ZcH,ZcI,ZcJ,ZcK,Zch,Zbe,Zbf,Zbg,Zeh,kLc_,Zci,ZcW,Zct,Zdj,Rv.ret,gt,st,Zap,ZbJ,ZbZ,Zdk,ZdU,Zei,ZdV,Zej,ZdW,Zek,Zdl,Zdm,Zdn,ZbR,Zdo,Zel,Zdp,Zdq,Zdr,ZcL,ZbS,Zbs,wp,tgN_,List.length_cons,List.length_nil,Nat.reduceAdd,Nat.reduceLeDiff,true_and,decide_true,decide_false,Bool.not_true,Bool.not_false,Zcj,Zck,Zcl,Zcm,Zdu,Zdv,ZcS,ZcT,ZcU,ZcV,Zcn,Zeo,kS1_,kS1b_,Zep,Zco,Zcp,kLmb_,Zdx,Zdw,ZcX,Zds,kPut_,kPutK_,ZcM,kZip_,Zbt,Zdt,ZcN,ZcO,ZcP,ZcQ,ZbQ,ZcR,ZcE,kTgtL_,List.nil_append,List.cons_append,Nat.reduceLT,SZ,forall_const,true_implies,oIs,isTy,oIsN,isNon,dB,Rv.val]
      rw [beq_self_eq_true]
      exact q
    | tup ds=>
      unfold plainN at h
      rw [Bool.and_eq_true] at h
      obtain ⟨h1,h2⟩:=h
      have h2:=of_decide_eq_true h2
      rw [dueF]
      rw [ZdS (k:=2) (ds:=[.tup ds,.tup ds]) rfl]
      show Sat (dueM (dueF (n + 1)) [.dat (.tup ds),.dat (.tup ds),.un,.un] s) _
      unfold dueM
      simp only [ZaI,S_C,Zc6,k1_,ZaD,k2_,k2b_,Zb8,Zbz,kc_,kcb_,Zc7,kN_,Zc8,Zc9,Zem,Zen,Za5,Za6,ZbK,ZaR,Zah,ZbA,Zbm,Zef,Zb9,Zcf,ZbL,ZcC,Zda,Zbb,Za0,Zbq,Zbc,ZbB,kTest_,Zdb,kTru_,Zcz,Zeg,Zdc,Zbd,ZaZ,ZbM,Zbr,kNot_,ZaE,ZaG,Zdd,Zde,Zdf,ZcD,ZaT,Zax,ZbN,Zdg,kP_,kPb_,ZbO,kR_,ZcF,Zcg,ZcG,Zdi,kF_,ZbP,ZcH,ZcI,ZcJ,ZcK,Zch,Zbe,Zbf,Zbg,Zeh,kLc_,Zci,ZcW,Zct,Zdj,Rv.ret,gt,st,Zap,ZbJ,ZbZ,Zdk,ZdU,Zei,ZdV,Zej,ZdW,Zek,Zdl,Zdm,Zdn,ZbR,Zdo,Zel,Zdp,Zdq,Zdr,ZcL,ZbS,Zbs,wp,tgN_,List.length_cons,List.length_nil,Nat.reduceAdd,Nat.reduceLeDiff,true_and,decide_true,decide_false,Bool.not_true,Bool.not_false,Zcj,Zck,Zcl,Zcm,Zdu,Zdv,ZcS,ZcT,ZcU,ZcV,Zcn,Zeo,kS1_,kS1b_,Zep,Zco,Zcp,kLmb_,Zdx,Zdw,ZcX,Zds,kPut_,kPutK_,ZcM,kZip_,Zbt,Zdt,ZcN,ZcO,ZcP,ZcQ,ZbQ,ZcR,ZcE,kTgtL_,List.nil_append,List.cons_append,Nat.reduceLT,SZ,forall_const,true_implies,oIs,isTy,oIsN,isNon,dB,Rv.val]
      refine Zim (Nat.le_trans Zhw h2) (fun d hd => ?_) (fun m => ?_)
      · obtain ⟨x,hx,rfl⟩:=Zhv d hd
        refine ⟨_,rfl,?_⟩
        simp only [ZaI,S_C,Zc6,k1_,ZaD,k2_,k2b_,Zb8,Zbz,kc_,kcb_,Zc7,kN_,Zc8,Zc9,Zem,Zen,Za5,Za6,ZbK,ZaR,Zah,ZbA,Zbm,Zef,Zb9,Zcf,ZbL,ZcC,Zda,Zbb,Za0,Zbq,Zbc,ZbB,kTest_,Zdb,kTru_,Zcz,Zeg,Zdc,Zbd,ZaZ,ZbM,Zbr,kNot_,ZaE,ZaG,Zdd,Zde,Zdf,ZcD,ZaT,Zax,ZbN,Zdg,kP_,kPb_,ZbO,kR_,ZcF,Zcg,ZcG,Zdi,kF_,ZbP,ZcH,ZcI,ZcJ,ZcK,Zch,Zbe,Zbf,Zbg,Zeh,kLc_,Zci,ZcW,Zct,Zdj,Rv.ret,gt,st,Zap,ZbJ,ZbZ,Zdk,ZdU,Zei,ZdV,Zej,ZdW,Zek,Zdl,Zdm,Zdn,ZbR,Zdo,Zel,Zdp,Zdq,Zdr,ZcL,ZbS,Zbs,wp,tgN_,List.length_cons,List.length_nil,Nat.reduceAdd,Nat.reduceLeDiff,true_and,decide_true,decide_false,Bool.not_true,Bool.not_false,Zcj,Zck,Zcl,Zcm,Zdu,Zdv,ZcS,ZcT,ZcU,ZcV,Zcn,Zeo,kS1_,kS1b_,Zep,Zco,Zcp,kLmb_,Zdx,Zdw,ZcX,Zds,kPut_,kPutK_,ZcM,kZip_,Zbt,Zdt,ZcN,ZcO,ZcP,ZcQ,ZbQ,ZcR,ZcE,kTgtL_,List.nil_append,List.cons_append,Nat.reduceLT,SZ,forall_const,true_implies]
        exact ih (ZgB h1 x hx) ⟨rfl,rfl⟩
      · simp only [ZaI,S_C,Zc6,k1_,ZaD,k2_,k2b_,Zb8,Zbz,kc_,kcb_,Zc7,kN_,Zc8,Zc9,Zem,Zen,Za5,Za6,ZbK,ZaR,Zah,ZbA,Zbm,Zef,Zb9,Zcf,ZbL,ZcC,Zda,Zbb,Za0,Zbq,Zbc,ZbB,kTest_,Zdb,kTru_,Zcz,Zeg,Zdc,Zbd,ZaZ,ZbM,Zbr,kNot_,ZaE,ZaG,Zdd,Zde,Zdf,ZcD,ZaT,Zax,ZbN,Zdg,kP_,kPb_,ZbO,kR_,ZcF,Zcg,ZcG,Zdi,kF_,ZbP,ZcH,ZcI,ZcJ,ZcK,Zch,Zbe,Zbf,Zbg,Zeh,kLc_,Zci,ZcW,Zct,Zdj,Rv.ret,gt,st,Zap,ZbJ,ZbZ,Zdk,ZdU,Zei,ZdV,Zej,ZdW,Zek,Zdl,Zdm,Zdn,ZbR,Zdo,Zel,Zdp,Zdq,Zdr,ZcL,ZbS,Zbs,wp,tgN_,List.length_cons,List.length_nil,Nat.reduceAdd,Nat.reduceLeDiff,true_and,decide_true,decide_false,Bool.not_true,Bool.not_false,Zcj,Zck,Zcl,Zcm,Zdu,Zdv,ZcS,ZcT,ZcU,ZcV,Zcn,Zeo,kS1_,kS1b_,Zep,Zco,Zcp,kLmb_,Zdx,Zdw,ZcX,Zds,kPut_,kPutK_,ZcM,kZip_,Zbt,Zdt,ZcN,ZcO,ZcP,ZcQ,ZbQ,ZcR,ZcE,kTgtL_,List.nil_append,List.cons_append,Nat.reduceLT,SZ,forall_const,true_implies,Zg3]
        exact q
end PB
namespace PB
/-- a fraction in lowest terms -/
def fr (p q:Int):D:=.tup [.int p,.int q]
structure Low (n:Nat) (p q:Int):Prop where
  qp:0 < q
  co:Nat.gcd p.natAbs q.natAbs=1
  pb:p.natAbs < 2 ^ n
  qb:q.natAbs < 2 ^ n
theorem Low.le {n m:Nat} {p q:Int} (h:Low n p q) (k:n≤m):Low m p q:=
  ⟨h.qp,h.co,Nat.lt_of_lt_of_le h.pb (Nat.pow_le_pow_right (by decide) k),Nat.lt_of_lt_of_le h.qb (Nat.pow_le_pow_right (by decide) k)⟩
end PB
namespace PB
theorem Sat.eq {γ α:Type} {r:Rs γ α} {a:α} {g:γ} (h:∀ Q:α→γ→Prop,Q a g→Sat r Q):r = .ok a g:=by
  have k:=h (fun b k=>b=a∧k=g) ⟨rfl,rfl⟩
  cases r with
  | ok b k'=>
    obtain ⟨rfl,rfl⟩:=k
    rfl
  | ex x g=>exact k.elim
  | no=>exact k.elim
section
variable {γ:Type} {g:γ} {F:MF γ} {Q:Rv→γ→Prop} {xs:List Rv} {e:Env} {as:MA γ} {es:List D}
def kCallD (F:MF γ) (es:List D) (Q:Rv→γ→Prop) (xs:List Rv) (g:γ):Prop:=SatO (stoL xs) (fun ds g=>Sat (F (ds ++ es) g) Q) g
theorem Zio:Sat (ZgF F as es e g) Q=Sat (as e g) (kCallD F es Q):=by
  unfold ZgF
  rw [Zai]
  congr 1
  funext xs g
  unfold kCallD
  cases stoL xs with
  | some ds=>exact Zgj _ _
  | none=>rfl
theorem kCallD_:kCallD F es Q xs g=SatO (stoL xs) (fun ds g=>Sat (F (ds ++ es) g) Q) g:=rfl
theorem ZjK {ds:List D}:oIs .tuple (.dat (.tup ds))=some (.dat (.bl true)):=rfl
theorem ZjL {i:Int}:oIs .tuple (.dat (.int i))=some (.dat (.bl false)):=rfl
theorem ZjM {i:List Nat}:oIs .tuple (.dat (.str i))=some (.dat (.bl false)):=rfl
theorem ZjN {i:Int}:oIs .int (.dat (.int i))=some (.dat (.bl true)):=rfl
theorem ZjO {i:List Nat}:oIs .str (.dat (.str i))=some (.dat (.bl true)):=rfl
theorem ZjP {i:Int}:oIs .bool (.dat (.int i))=some (.dat (.bl false)):=rfl
/-- what is known of a call -/
theorem Zi8 {r:Rs γ Rv} {v:Rv} {g:γ} (h:r = .ok v g) (q:Q v g):Sat r Q:=by
  rw [h]
  exact q
end
def gcdL:List Int→Nat→Nat
  | [],g=>g
  | n :: r,g=>gcdL r (Nat.gcd g n.natAbs)
theorem ZfW {l:List Int}:∀ {g},gcdL l g ∣ g∧∀ n∈l,((gcdL l g:Nat):Int) ∣ n:=by
  induction l with
  | nil=>intro g; exact ⟨Nat.dvd_refl _,fun n hn=>by cases hn⟩
  | cons m r ih=>
    intro g
    obtain ⟨h1,h2⟩:=ih (g:=Nat.gcd g m.natAbs)
    refine ⟨Nat.dvd_trans h1 (Nat.gcd_dvd_left _ _),fun n hn => ?_⟩
    rcases List.mem_cons.mp hn with rfl | hn
    · exact Int.ofNat_dvd_left.mpr (Nat.dvd_trans h1 (Nat.gcd_dvd_right _ _))
    · exact h2 n hn
theorem ZfX {l:List Int}:∀ {g},(0 < g∨∃ n∈l,n≠0)→0 < gcdL l g:=by
  induction l with
  | nil=>intro g h; exact h.elim id fun ⟨n,hn,_⟩=>by cases hn
  | cons m r ih=>
    intro g h
    refine ih ?_
    by_cases h0:0 < Nat.gcd g m.natAbs
    · exact .inl h0
    · refine .inr ?_
      have hz:Nat.gcd g m.natAbs=0:=by omega
      obtain ⟨g0,m0⟩:=Nat.gcd_eq_zero_iff.mp hz
      rcases h with h | ⟨n,hn,hne⟩
      · omega
      · rcases List.mem_cons.mp hn with rfl | hn
        · omega
        · exact ⟨n,hn,hne⟩
theorem ltUp {a b:Nat} {x:Int} (hx:x.natAbs < 2 ^ a) (h:a≤b):x.natAbs < 2 ^ b:=Nat.lt_of_lt_of_le hx (Nat.pow_le_pow_right (by decide) h)
end PB
local macro_rules | `(tactic| simp_arith [$xs,*]) => `(tactic| simp only [PB.ZaI, PB.S_C, PB.Zc6, PB.k1_, PB.ZaD, PB.k2_, PB.k2b_, PB.Zb8, PB.Zbz, PB.kc_, PB.kcb_, PB.Zc7, PB.kN_, PB.Zc8, PB.Zc9, PB.Zem, PB.Zen, PB.Za5, PB.Za6, PB.ZbK, PB.ZaR, PB.Zah, PB.ZbA, PB.Zbm, PB.Zef, PB.Zb9, PB.Zcf, PB.ZbL, PB.ZcC, PB.Zda, PB.Zbb, PB.Za0, PB.Zbq, PB.Zbc, PB.ZbB, PB.kTest_, PB.Zdb, PB.kTru_, PB.Zcz, PB.Zeg, PB.Zdc, PB.Zbd, PB.ZaZ, PB.ZbM, PB.Zbr, PB.kNot_, PB.ZaE, PB.ZaG, PB.Zdd, PB.Zde, PB.Zdf, PB.ZcD, PB.ZaT, PB.Zax, PB.ZbN, PB.Zdg, PB.kP_, PB.kPb_, PB.ZbO, PB.kR_, PB.ZcF, PB.Zcg, PB.ZcG, PB.Zdi, PB.kF_, PB.ZbP, PB.ZcH, PB.ZcI, PB.ZcJ, PB.ZcK, PB.Zch, PB.Zbe, PB.Zbf, PB.Zbg, PB.Zeh, PB.kLc_, PB.Zci, PB.ZcW, PB.Zct, PB.Zdj, PB.Rv.ret, PB.gt, PB.st, PB.Zap, PB.ZbJ, PB.ZbZ, PB.Zdk, PB.ZdU, PB.Zei, PB.ZdV, PB.Zej, PB.ZdW, PB.Zek, PB.Zdl, PB.Zdm, PB.Zdn, PB.ZbR, PB.Zdo, PB.Zel, PB.Zdp, PB.Zdq, PB.Zdr, PB.ZcL, PB.ZbS, PB.Zbs, PB.wp, PB.tgN_, List.length_cons, List.length_nil, Nat.reduceAdd, Nat.reduceLeDiff, true_and, decide_true, decide_false, Bool.not_true, Bool.not_false, PB.Zcj, PB.Zck, PB.Zcl, PB.Zcm, PB.Zdu, PB.Zdv, PB.ZcS, PB.ZcT, PB.ZcU, PB.ZcV, PB.Zcn, PB.Zeo, PB.kS1_, PB.kS1b_, PB.Zep, PB.Zco, PB.Zcp, PB.kLmb_, PB.Zdx, PB.Zdw, PB.ZcX, PB.Zds, PB.kPut_, PB.kPutK_, PB.ZcM, PB.kZip_, PB.Zbt, PB.Zdt, PB.ZcN, PB.ZcO, PB.ZcP, PB.ZcQ, PB.ZbQ, PB.ZcR, PB.ZcE, PB.kTgtL_, List.nil_append, List.cons_append, Nat.reduceLT, PB.SZ, forall_const, true_implies, PB.Zio, PB.kCallD_, PB.ZjK, PB.ZjL, PB.ZjM, PB.ZjN, PB.ZjO, PB.ZjP, $xs,*])
namespace PB
end PB
namespace PB
def g3 (x y z:Int):Nat:=gcdL [x,y,z] 0
end PB
namespace PB
section
variable {γ:Type} {g:γ} {Q:Rv→γ→Prop} {QI:List D→γ→Prop} {e:Env} {t:MT γ} {a b:ME γ}
/-- a comprehension whose elements are only known to be of a kind -/
theorem ZjQ {tg:MG} {ds:List D} (hl:ds.length≤SZ) (P:D→Prop) (I:Nat→γ→Prop) (h0:I ds.length g)
    (hs:∀ d∈ds,∀ k g,I (k + 1) g→∃ e1,tg d e=some e1∧Sat (t e1 g) fun c g1=>c=true∧Sat (a e1 g1) fun r g2=>∃ y,r.sto=some y∧P y∧I k g2)
    (hd:∀ ys g,ys.length=ds.length→(∀ y∈ys,P y)→I 0 g→Q (.own ys) g):Sat (lcL tg t a e ds [] g) Q:=by
  have key:∀ post ys g,ys.length + post.length=ds.length→(∀ y∈ys,P y)→(∀ d∈post,d∈ds)→I post.length g→Sat (lcL tg t a e post ys g) Q:=by
    intro post
    induction post with
    | nil=>
      intro ys g hn hp _ hi
      exact hd ys g (by simpa using hn) hp hi
    | cons d post ih=>
      intro ys g hn hp hm hi
      obtain ⟨e1,h1,h2⟩:=hs d (hm d (by simp)) post.length g hi
      rw [ZfU h1]
      refine h2.mono fun c g1 q => ?_
      obtain ⟨rfl,q⟩:=q
      rw [Zg2]
      refine q.mono fun r g2 q2 => ?_
      obtain ⟨y,e2,py,hi2⟩:=q2
      unfold kLcA
      rw [e2]
      rw [List.length_cons] at hn
      refine ⟨by omega,ih (ys ++ [y]) g2 (by rw [List.length_append]; simp; omega) (fun z hz => ?_) (fun d hd=>hm d (by simp [hd])) hi2⟩
      rcases List.mem_append.mp hz with hz | hz
      · exact hp z hz
      · rw [List.mem_singleton.mp hz]
        exact py
  exact key ds [] g (by simp) (fun y hy=>by cases hy) (fun d h=>h) h0
end
theorem Zhx {ys:List D} (h:∀ y∈ys,∃ c,y = .str [c]):∃ cs:List Nat,ys=cs.map fun c=>.str [c]:=by
  induction ys with
  | nil=>exact ⟨[],rfl⟩
  | cons y r ih=>
    obtain ⟨c,rfl⟩:=h y (by simp)
    obtain ⟨cs,rfl⟩:=ih fun z hz=>h z (by simp [hz])
    exact ⟨c :: cs,rfl⟩
abbrev az:List Nat:=[97,98,99,100,101,102,103,104,105,106,107,108,109,110,111,112,113,114,115,116,117,118,119,120,121,122]
theorem Ziq (cs:List Nat) (h:cs.length≤SZ):oJoin [] (.own (cs.map fun c=>.str [c]))=some (.dat (.str cs)):=by
  rw [Zi3 (fun c=>[c]) cs (by
    have:(cs.map fun c=>([c]:List Nat).length).sum=cs.length:=by
      induction cs with
      | nil=>rfl
      | cons x xs ih=>
        rw [List.map_cons,List.sum_cons,ih (by rw [List.length_cons] at h; omega),List.length_cons]
        simp
        omega
    rw [this]
    exact h)]
  congr 3
  induction cs with
  | nil=>rfl
  | cons x xs ih=>rw [List.flatMap_cons,ih (by rw [List.length_cons] at h; omega)]; rfl
end PB
namespace PB
def Good (x:Mv):Prop:=match x with
  | .keep c=>c∈az
  | .oth c e=>c∈az∧e∈az∧c≠e
  | .out c=>c∈az
  | .inn c=>c∈az
end PB
namespace PB
end PB
namespace PB
end PB
namespace PB
abbrev V3:=Int×Int×Int
def vd (v:V3):D:=.tup [.int v.1,.int v.2.1,.int v.2.2]
def dot (a b:V3):Int:=a.1 * b.1 + a.2.1 * b.2.1 + a.2.2 * b.2.2
structure Lt3 (n:Nat) (v:V3):Prop where
  x:v.1.natAbs < 2 ^ n
  y:v.2.1.natAbs < 2 ^ n
  z:v.2.2.natAbs < 2 ^ n
theorem Lt3.up {n m:Nat} {v:V3} (h:Lt3 n v) (k:n≤m):Lt3 m v:=⟨ltUp h.x k,ltUp h.y k,ltUp h.z k⟩
theorem mulOkP {a b:Nat} {x y:Int} (hx:x.natAbs < 2 ^ a) (hy:y.natAbs < 2 ^ b) (h:a + b≤999990):MulOk x y:=
  mulOk (a:=a + 1) (b:=b + 1) (ltUp hx (by omega)) (ltUp hy (by omega)) (by omega) (by omega) (by omega)
def lowV (v:V3):V3:=(v.1 / (g3 v.1 v.2.1 v.2.2:Nat),v.2.1 / (g3 v.1 v.2.1 v.2.2:Nat),v.2.2 / (g3 v.1 v.2.1 v.2.2:Nat))
def iabs (x:Int):Int:=if x < 0 then -x else x
def addV (a b:V3):V3:=(a.1 + b.1,a.2.1 + b.2.1,a.2.2 + b.2.2)
def mulV (k:Int) (a:V3):V3:=(k * a.1,k * a.2.1,k * a.2.2)
/-- the corner between two,where the side is worth nought -/
def mid (w a b:V3):V3:=lowV (addV (mulV (iabs (dot w b)) a) (mulV (iabs (dot w a)) b))
def prevV (vs:List V3) (k:Nat):V3:=vs.getD ((k + vs.length - 1) % vs.length) (0,0,0)
def piece (w:V3) (vs:List V3) (k:Nat):List V3:=
  (if dot w (prevV vs k) * dot w (vs.getD k (0,0,0)) < 0 then [mid w (prevV vs k) (vs.getD k (0,0,0))] else []) ++ (if 0≤dot w (vs.getD k (0,0,0)) then [vs.getD k (0,0,0)] else [])
def kept (w:V3) (vs:List V3):List V3:=(List.range vs.length).flatMap (piece w vs)
def ltV (a b:V3):Bool:=if a.1=b.1 then (if a.2.1=b.2.1 then decide (a.2.2 < b.2.2) else decide (a.2.1 < b.2.1)) else decide (a.1 < b.1)
structure Prc (v:V3):Prop where
  x:0≤v.1
  y:0≤v.2.1
  z:0≤v.2.2
  n:v.1≠0∨v.2.1≠0∨v.2.2≠0
theorem ZdX (x:Int):iabs x=(x.natAbs:Int):=by
  unfold iabs
  split <;> omega
theorem Zhy {v:V3} (h:Prc v):Prc (lowV v):=by
  have hg:0 < g3 v.1 v.2.1 v.2.2:=by
    refine ZfX (.inr ?_)
    rcases h.n with k | k | k
    · exact ⟨_,List.mem_cons_self,k⟩
    · exact ⟨_,List.mem_cons_of_mem _ List.mem_cons_self,k⟩
    · exact ⟨_,List.mem_cons_of_mem _ (List.mem_cons_of_mem _ List.mem_cons_self),k⟩
  have hd:=(ZfW (l:=[v.1,v.2.1,v.2.2]) (g:=0)).2
  have nz:∀ x:Int,((g3 v.1 v.2.1 v.2.2:Nat):Int) ∣ x→x≠0→x / (g3 v.1 v.2.1 v.2.2:Nat)≠0:=by
    rintro x ⟨c,rfl⟩ hx
    rw [Int.mul_ediv_cancel_left _ (by omega)]
    intro z
    rw [z] at hx
    simp at hx
  refine ⟨Int.ediv_nonneg h.x (by omega),Int.ediv_nonneg h.y (by omega),Int.ediv_nonneg h.z (by omega),?_⟩
  rcases h.n with k | k | k
  · exact .inl (nz _ (hd _ List.mem_cons_self) k)
  · exact .inr (.inl (nz _ (hd _ (List.mem_cons_of_mem _ List.mem_cons_self)) k))
  · exact .inr (.inr (nz _ (hd _ (List.mem_cons_of_mem _ (List.mem_cons_of_mem _ List.mem_cons_self))) k))
theorem Zgm {w a b:V3} (ha:Prc a) (hb:Prc b) (h:dot w a * dot w b < 0):Prc (addV (mulV (iabs (dot w b)) a) (mulV (iabs (dot w a)) b)):=by
  have p1:0 < iabs (dot w b):=by
    rw [ZdX]
    have:dot w b≠0:=fun z=>by rw [z,Int.mul_zero] at h; exact absurd h (Int.lt_irrefl _)
    omega
  have p2:0 < iabs (dot w a):=by
    rw [ZdX]
    have:dot w a≠0:=fun z=>by rw [z,Int.zero_mul] at h; exact absurd h (Int.lt_irrefl _)
    omega
  generalize iabs (dot w b)=p at *
  generalize iabs (dot w a)=q at *
  have mm:∀ {k x:Int},0 < k→0≤x→0≤k * x∧(x≠0→0 < k * x):=fun hk hx=>⟨Int.mul_nonneg (Int.le_of_lt hk) hx,fun hn=>Int.mul_pos hk (by omega)⟩
  obtain ⟨a1,a2⟩:=mm p1 ha.x
  obtain ⟨a3,a4⟩:=mm p1 ha.y
  obtain ⟨a5,a6⟩:=mm p1 ha.z
  obtain ⟨b1,b2⟩:=mm p2 hb.x
  obtain ⟨b3,b4⟩:=mm p2 hb.y
  obtain ⟨b5,b6⟩:=mm p2 hb.z
  refine ⟨Int.add_nonneg a1 b1,Int.add_nonneg a3 b3,Int.add_nonneg a5 b5,?_⟩
  show p * a.1 + q * b.1≠0∨p * a.2.1 + q * b.2.1≠0∨p * a.2.2 + q * b.2.2≠0
  rcases ha.n with k | k | k
  · exact .inl (by have:=a2 k; omega)
  · exact .inr (.inl (by have:=a4 k; omega))
  · exact .inr (.inr (by have:=a6 k; omega))
theorem Zir {w a b:V3} (ha:Prc a) (hb:Prc b) (h:dot w a * dot w b < 0):Prc (mid w a b):=Zhy (Zgm ha hb h)
end PB
set_option maxHeartbeats 4000000
namespace PB
/-- the letters of a word,at most so many -/
def Wd (mm:Int) (w:List Nat):Prop:=(w.length:Int)≤mm∧∀ c∈w,c∈az
/-- two words of so many letters at most -/
def tw (x y:List Nat):D:=.tup [.str x,.str y]
end PB
namespace PB
def det (a b c:V3):Int:=a.1 * (b.2.1 * c.2.2 - b.2.2 * c.2.1) - a.2.1 * (b.1 * c.2.2 - b.2.2 * c.1) + a.2.2 * (b.1 * c.2.1 - b.2.1 * c.1)
theorem Zcx (a b c:V3):det a b c=det b c a:=by unfold det; grind
theorem Zey (a b:V3):det a a b=0:=by unfold det; grind
/-- between two: some times the one and some times the other -/
def Cmb (x a b:V3):Prop:=∃ g p q:Int,0 < g∧0 < p∧0 < q∧g * x.1=p * a.1 + q * b.1∧g * x.2.1=p * a.2.1 + q * b.2.1∧g * x.2.2=p * a.2.2 + q * b.2.2
theorem Zhz {a b x u v:V3} {g p q:Int} (h1:g * x.1=p * a.1 + q * b.1) (h2:g * x.2.1=p * a.2.1 + q * b.2.1) (h3:g * x.2.2=p * a.2.2 + q * b.2.2):g * det x u v=p * det a u v + q * det b u v:=by unfold det; grind
theorem ZjR {g z:Int} (hg:0 < g) (h:0≤g * z):0≤z:=by
  rcases Int.lt_or_le z 0 with hz | hz
  · have:=Int.mul_neg_of_pos_of_neg hg hz
    omega
  · exact hz
theorem Cmb.nn {x a b u v:V3} (h:Cmb x a b) (h1:0≤det a u v) (h2:0≤det b u v):0≤det x u v:=by
  obtain ⟨g,p,q,hg,hp,hq,e1,e2,e3⟩:=h
  refine ZjR hg ?_
  rw [Zhz e1 e2 e3]
  exact Int.add_nonneg (Int.mul_nonneg (Int.le_of_lt hp) h1) (Int.mul_nonneg (Int.le_of_lt hq) h2)
def Tri:List V3→Prop
  | []=>True
  | a :: r=>r.Pairwise (fun b c=>0≤det a b c)∧Tri r
theorem Tri.snoc {a:V3}:∀ {l:List V3},Tri (l ++ [a]) ↔ Tri l∧l.Pairwise (fun b c=>0≤det b c a)
  | []=>⟨fun _=>⟨trivial,.nil⟩,fun _=>⟨.nil,trivial⟩⟩
  | b :: l=>by
    show (l ++ [a]).Pairwise _∧Tri (l ++ [a]) ↔ (l.Pairwise _∧Tri l)∧(b :: l).Pairwise _
    rw [Tri.snoc (l:=l),List.pairwise_append,List.pairwise_cons (a:=b) (l:=l)]
    constructor
    · intro ⟨⟨h1,_,h2⟩,h3,h4⟩
      exact ⟨⟨h1,h3⟩,⟨fun u hu=>h2 u hu a (List.mem_singleton.mpr rfl),h4⟩⟩
    · intro ⟨⟨h1,h3⟩,⟨h2,h4⟩⟩
      exact ⟨⟨h1,List.pairwise_singleton _ _,fun u hu v hv=>by rw [List.mem_singleton.mp hv]; exact h2 u hu⟩,h3,h4⟩
theorem Tri.rot1 {a:V3} {l:List V3}:Tri (a :: l) ↔ Tri (l ++ [a]):=by
  rw [Tri.snoc]
  constructor
  · rintro ⟨h1,h2⟩
    exact ⟨h2,h1.imp fun {b c} h=>by rw [← Zcx]; exact h⟩
  · rintro ⟨h2,h1⟩
    exact ⟨h1.imp fun {b c} h=>by rw [Zcx]; exact h,h2⟩
theorem Tri.rot:∀ {l m:List V3},Tri (l ++ m)→Tri (m ++ l)
  | [],m,h=>by rw [List.append_nil]; exact h
  | a :: l,m,h=>by
    have h1:Tri (l ++ (m ++ [a])):=by
      rw [← List.append_assoc]
      exact Tri.rot1.mp h
    have:=Tri.rot h1
    rw [List.append_assoc] at this
    exact this
theorem Tri.ins0 {a b x:V3} {m:List V3} (h:Tri (a :: b :: m)) (c:Cmb x a b):Tri (a :: x :: b :: m):=by
  obtain ⟨h1,h2,h3⟩:=h
  have h1':=List.pairwise_cons.mp h1
  have av:∀ v∈m,0≤det a x v:=fun v hv=>by
    have:0≤det x v a:=c.nn (by rw [← Zcx,Zey]; exact Int.le_refl _) (by rw [← Zcx]; exact h1'.1 v hv)
    rw [Zcx]
    exact this
  have ab:0≤det a x b:=by
    have:0≤det x b a:=c.nn (by rw [← Zcx,Zey]; exact Int.le_refl _) (by rw [Zey]; exact Int.le_refl _)
    rw [Zcx]
    exact this
  refine ⟨List.pairwise_cons.mpr ⟨fun v hv => ?_,h1⟩,List.pairwise_cons.mpr ⟨fun v hv => ?_,?_⟩,h2,h3⟩
  · rcases List.mem_cons.mp hv with rfl | hv
    · exact ab
    · exact av v hv
  · exact c.nn (h1'.1 v hv) (by rw [Zey]; exact Int.le_refl _)
  · refine (h1'.2.and h2).imp fun {u v} h=>c.nn h.1 h.2
theorem Tri.ins {l m:List V3} {a b x:V3} (h:Tri (l ++ a :: b :: m)) (c:Cmb x a b):Tri (l ++ a :: x :: b :: m):=by
  have h1:Tri (a :: b :: (m ++ l)):=Tri.rot (l:=l) (m:=a :: b :: m) h
  have h2:Tri ((a :: x :: b :: m) ++ l):=Tri.ins0 h1 c
  exact Tri.rot h2
theorem Tri.insE {m:List V3} {a f x:V3} (h:Tri (f :: m ++ [a])) (c:Cmb x a f):Tri (f :: m ++ [a,x]):=by
  have h1:Tri (a :: f :: m):=Tri.rot1.mpr h
  exact Tri.rot (l:=[a,x]) (m:=f :: m) (Tri.ins0 h1 c)
def crossN (w a b:V3):List V3:=if dot w a * dot w b < 0 then [mid w a b] else []
def zipF (F:V3→V3→List V3):List V3→List V3→List V3
  | a :: r,b :: s=>F a b ++ zipF F r s
  | _,_=>[]
theorem Ze7 {w a b:V3} (ha:Prc a) (hb:Prc b) (h:dot w a * dot w b < 0):Cmb (mid w a b) a b:=by
  have hs:=Zgm ha hb h
  have p1:0 < iabs (dot w b):=by
    rw [ZdX]
    have:dot w b≠0:=fun z=>by rw [z,Int.mul_zero] at h; exact absurd h (Int.lt_irrefl _)
    omega
  have p2:0 < iabs (dot w a):=by
    rw [ZdX]
    have:dot w a≠0:=fun z=>by rw [z,Int.zero_mul] at h; exact absurd h (Int.lt_irrefl _)
    omega
  unfold mid
  generalize iabs (dot w b)=p at *
  generalize iabs (dot w a)=q at *
  generalize hv:addV (mulV p a) (mulV q b)=v at *
  have v1:v.1=p * a.1 + q * b.1:=by rw [← hv]; rfl
  have v2:v.2.1=p * a.2.1 + q * b.2.1:=by rw [← hv]; rfl
  have v3:v.2.2=p * a.2.2 + q * b.2.2:=by rw [← hv]; rfl
  have hg:0 < g3 v.1 v.2.1 v.2.2:=by
    refine ZfX (.inr ?_)
    rcases hs.n with k | k | k
    · exact ⟨_,List.mem_cons_self,k⟩
    · exact ⟨_,List.mem_cons_of_mem _ List.mem_cons_self,k⟩
    · exact ⟨_,List.mem_cons_of_mem _ (List.mem_cons_of_mem _ List.mem_cons_self),k⟩
  have hd:=(ZfW (l:=[v.1,v.2.1,v.2.2]) (g:=0)).2
  have mulc:∀ x:Int,((g3 v.1 v.2.1 v.2.2:Nat):Int) ∣ x→((g3 v.1 v.2.1 v.2.2:Nat):Int) * (x / (g3 v.1 v.2.1 v.2.2:Nat))=x:=fun x hx=>Int.mul_ediv_cancel' hx
  refine ⟨(g3 v.1 v.2.1 v.2.2:Nat),p,q,by omega,p1,p2,?_,?_,?_⟩
  · rw [← v1]
    exact mulc _ (hd _ List.mem_cons_self)
  · rw [← v2]
    exact mulc _ (hd _ (List.mem_cons_of_mem _ List.mem_cons_self))
  · rw [← v3]
    exact mulc _ (hd _ (List.mem_cons_of_mem _ (List.mem_cons_of_mem _ List.mem_cons_self)))
theorem Tri.zip {w:V3} (f:V3):∀ (r l:List V3) (a:V3),(l ++ a :: r).head?=some f→(∀ v∈l ++ a :: r,Prc v)→Tri (l ++ a :: r)→Prc f→Tri (l ++ zipF (fun a b=>a :: crossN w a b) (a :: r) (r ++ [f]))
  | [],l,a,hf,hp,h,pf=>by
    have ez:zipF (fun a b=>a :: crossN w a b) [a] ([] ++ [f])=a :: crossN w a f:=by
      show (a :: crossN w a f) ++ []=_
      rw [List.append_nil]
    rw [ez]
    unfold crossN
    by_cases hc:dot w a * dot w f < 0
    · rw [if_pos hc]
      cases l with
      | nil=>
        cases hf
        rcases Int.lt_or_le (dot w f) 0 with z | z
        · have:=Int.mul_pos_of_neg_of_neg z z
          omega
        · have:=Int.mul_nonneg z z
          omega
      | cons b l=>
        cases hf
        exact Tri.insE h (Ze7 (hp a (by simp)) pf hc)
    · rw [if_neg hc]
      exact h
  | b :: r,l,a,hf,hp,h,pf=>by
    have e:l ++ zipF (fun a b=>a :: crossN w a b) (a :: b :: r) (b :: r ++ [f])=(l ++ (a :: crossN w a b)) ++ zipF (fun a b=>a :: crossN w a b) (b :: r) (r ++ [f]):=by
      show l ++ ((a :: crossN w a b) ++ zipF _ (b :: r) (r ++ [f]))=_
      rw [List.append_assoc]
    rw [e]
    have pa:Prc a:=hp a (by simp)
    have pb:Prc b:=hp b (by simp)
    refine Tri.zip f r (l ++ (a :: crossN w a b)) b ?_ ?_ ?_ pf
    · cases l with
      | nil=>exact hf
      | cons c l=>exact hf
    · intro v hv
      unfold crossN at hv
      rw [List.append_assoc] at hv
      rcases List.mem_append.mp hv with hv | hv
      · exact hp v (List.mem_append_left _ hv)
      · rcases List.mem_append.mp hv with hv | hv
        · rcases List.mem_cons.mp hv with rfl | hv
          · exact pa
          · by_cases hc:dot w a * dot w b < 0
            · rw [if_pos hc] at hv
              rw [List.mem_singleton.mp hv]
              exact Zir pa pb hc
            · rw [if_neg hc] at hv
              cases hv
        · exact hp v (List.mem_append_right _ (List.mem_cons_of_mem _ hv))
    · unfold crossN
      by_cases hc:dot w a * dot w b < 0
      · rw [if_pos hc,List.append_assoc]
        exact Tri.ins h (Ze7 pa pb hc)
      · rw [if_neg hc,List.append_assoc]
        exact h
end PB
namespace PB
def Beg:List V3→Prop
  | []=>False
  | v :: r=>∀ x∈r,ltV x v=false
structure Shp (n k:Nat) (vs:List V3):Prop where
  le:vs.length≤k
  pr:∀ v∈vs,Prc v∧Lt3 n v
  tri:Tri vs
  beg:Beg vs
theorem Shp.up {n n' k k':Nat} {vs:List V3} (h:Shp n k vs) (hn:n≤n') (hk:k≤k'):Shp n' k' vs:=⟨Nat.le_trans h.le hk,fun v hv=>⟨(h.pr v hv).1,(h.pr v hv).2.up hn⟩,h.tri,h.beg⟩
theorem Shp.ne {n k:Nat} {vs:List V3} (h:Shp n k vs):0 < vs.length:=by
  cases vs with
  | nil=>exact h.beg.elim
  | cons v r=>exact Nat.succ_pos _
end PB
set_option exponentiation.threshold 20000
namespace PB
end PB
set_option exponentiation.threshold 2000
namespace PB
end PB
namespace PB
def sw (t:Int) (b:Bool):Int:=if b=true then 0 else t
def ne1 (o:Int) (x y:Nat):Int:=if x=y then 0 else o
def Lc (o s t:Int):Nat→List Nat→List Nat→Int
  | _,[],[]=>0
  | k,_ :: xs,[]=>s + sw t (k == 1) + Lc o s t 1 xs []
  | k,[],_ :: ys=>s + sw t (k == 2) + Lc o s t 2 [] ys
  | k,x :: xs,y :: ys=>min (ne1 o x y + Lc o s t 0 xs ys) (min (s + sw t (k == 1) + Lc o s t 1 xs (y :: ys)) (s + sw t (k == 2) + Lc o s t 2 (x :: xs) ys))
termination_by _ xs ys=>xs.length + ys.length
structure Pos (o s t:Int):Prop where
  o0:0≤o
  s0:0≤s
  t0:0≤t
section
variable {o s t:Int}
theorem ZjS {k x:Nat} {xs:List Nat}:Lc o s t k (x :: xs) []=s + sw t (k == 1) + Lc o s t 1 xs []:=by rw [Lc]
theorem ZjT {k y:Nat} {ys:List Nat}:Lc o s t k [] (y :: ys)=s + sw t (k == 2) + Lc o s t 2 [] ys:=by rw [Lc]
theorem ZgC {k x y:Nat} {xs ys:List Nat}:Lc o s t k (x :: xs) (y :: ys)=min (ne1 o x y + Lc o s t 0 xs ys) (min (s + sw t (k == 1) + Lc o s t 1 xs (y :: ys)) (s + sw t (k == 2) + Lc o s t 2 (x :: xs) ys)):=by rw [Lc]
def LL (o s t:Int) (xs ys:List Nat):V3:=(Lc o s t 0 xs ys,Lc o s t 1 xs ys,Lc o s t 2 xs ys)
def tri (a b c t:Int):V3:=(lmin a [b + t,c + t],lmin a [b,c + t],lmin a [b + t,c])
end
end PB
namespace PB
section
variable {γ α β:Type} {e:Env} {g:γ} {i:Nat}
/-- the rows,by what stands in them -/
def rowT (m:Nat) (f:Nat→V3):List D:=(List.range (m + 2)).map fun j=>vd (f j)
def tab (n m:Nat) (f:Nat→Nat→V3):NL:=(List.range (n + 2)).map fun i=>rowT m (f i)
end
/-- the number that stands beyond the words -/
def farN (n m:Nat) (p:V3):Int:=((n:Int) + m + 1) * (p.1 + p.2.1 + p.2.2)
def far3 (n m:Nat) (p:V3):V3:=(farN n m p,farN n m p,farN n m p)
def RTv (p:V3) (xs ys:List Nat) (i j:Nat):V3:=if i≤xs.length∧j≤ys.length then LL p.1 p.2.1 p.2.2 (xs.drop i) (ys.drop j) else far3 xs.length ys.length p
end PB
namespace PB
section
variable {o s t:Int}
theorem ZjU {k x y:Nat} {xs ys:List Nat}:Lc o s t k (x :: xs) (y :: ys)≤ne1 o x y + Lc o s t 0 xs ys:=by
  rw [ZgC]
  omega
theorem Zi9 {k x:Nat} {xs ys:List Nat}:Lc o s t k (x :: xs) ys≤s + sw t (k == 1) + Lc o s t 1 xs ys:=by
  cases ys with
  | nil=>rw [ZjS]; omega
  | cons y ys=>rw [ZgC]; omega
theorem Zja {k y:Nat} {xs ys:List Nat}:Lc o s t k xs (y :: ys)≤s + sw t (k == 2) + Lc o s t 2 xs ys:=by
  cases xs with
  | nil=>rw [ZjT]; omega
  | cons x xs=>rw [ZgC]; omega
def sg (k:Nat):Nat:=if k=1 then 2 else if k=2 then 1 else k
theorem sg1 (k:Nat):(sg k == 1)=(k == 2):=by
  unfold sg
  by_cases h1:k=1
  · subst h1; rfl
  · rw [if_neg h1]
    by_cases h2:k=2
    · subst h2; rfl
    · rw [if_neg h2,beq_eq_false_iff_ne.mpr h1,beq_eq_false_iff_ne.mpr h2]
end
end PB
namespace PB
def keepOr (x y:Nat):Mv:=if x=y then .keep x else .oth x y
/-- by the last move,the letters to come: the first of the moves by which least cost goes on -/
def fs (o s t:Int):Nat→List Nat→List Nat→List Mv
  | _,[],[]=>[]
  | _,x :: xs,[]=>.out x :: fs o s t 1 xs []
  | _,[],y :: ys=>.inn y :: fs o s t 2 [] ys
  | k,x :: xs,y :: ys=>
    if s + sw t (k == 1) + Lc o s t 1 xs (y :: ys) < ne1 o x y + Lc o s t 0 xs ys then
      (if s + sw t (k == 2) + Lc o s t 2 (x :: xs) ys < s + sw t (k == 1) + Lc o s t 1 xs (y :: ys) then .inn y :: fs o s t 2 (x :: xs) ys else .out x :: fs o s t 1 xs (y :: ys))
    else (if s + sw t (k == 2) + Lc o s t 2 (x :: xs) ys < ne1 o x y + Lc o s t 0 xs ys then .inn y :: fs o s t 2 (x :: xs) ys else keepOr x y :: fs o s t 0 xs ys)
termination_by _ xs ys=>xs.length + ys.length
end PB
namespace PB
def wd (c m:Int):D:=.tup [.int c,.int m]
def pl (i j k:Nat):D:=.tup [.int (i:Nat),.int (j:Nat),.int (k:Nat)]
/-- what each move from a place costs in all -/
def w0 (p:V3) (xs ys:List Nat) (i j:Nat) (h:i < xs.length∧j < ys.length):Int:=ne1 p.1 (xs[i]'h.1) (ys[j]'h.2) + (RTv p xs ys (i + 1) (j + 1)).1
def w1 (p:V3) (xs ys:List Nat) (i j k:Nat):Int:=p.2.1 + sw p.2.2 (k == 1) + (RTv p xs ys (i + 1) j).2.1
end PB
namespace PB
end PB
namespace PB
end PB
namespace PB
abbrev TabF:=Nat→Nat→Nat→Option Int
def StepP (p:V3) (xs ys:List Nat) (i j k i' j' k':Nat) (c:Int):Prop:=
  (k'=0∧i'=i + 1∧j'=j + 1∧∃ h:i < xs.length∧j < ys.length,c=ne1 p.1 (xs[i]'h.1) (ys[j]'h.2))∨(k'=1∧i'=i + 1∧j'=j∧i < xs.length∧c=p.2.1 + sw p.2.2 (k == 1))∨(k'=2∧i'=i∧j'=j + 1∧j < ys.length∧c=p.2.1 + sw p.2.2 (k == 2))
structure Tabl (p:V3) (xs ys:List Nat) (dn:Nat→Nat→Nat→Nat→Prop) (T:TabF):Prop where
  o:T 0 0 0=some 0
  snd:∀ i j k v,T i j k=some v→(i=0∧j=0∧k=0)∨∃ i' j' k' v' c,dn i' j' k' k∧T i' j' k'=some v'∧StepP p xs ys i' j' k' i j k c∧v=v' + c
  cmp:∀ i j k v,T i j k=some v→∀ i' j' k' c,dn i j k k'→StepP p xs ys i j k i' j' k' c→∃ w,T i' j' k'=some w∧w≤v + c
section
variable {p:V3} {xs ys:List Nat} {dn dn':Nat→Nat→Nat→Nat→Prop} {T:TabF}
theorem StepP.up {i j k a b l:Nat} {c:Int} (h:StepP p xs ys i j k a b l c):i + j < a + b∧i≤a∧j≤b∧a≤i + 1∧b≤j + 1∧l≤2:=by
  rcases h with ⟨h1,h2,h3,h4,h5⟩ | ⟨h1,h2,h3,h4,h5⟩ | ⟨h1,h2,h3,h4,h5⟩ <;> omega
theorem StepP.inn {i j k a b l:Nat} {c:Int} (h:StepP p xs ys i j k a b l c) (hi:i≤xs.length) (hj:j≤ys.length):a≤xs.length∧b≤ys.length:=by
  rcases h with ⟨h1,h2,h3,h4,h5⟩ | ⟨h1,h2,h3,h4,h5⟩ | ⟨h1,h2,h3,h4,h5⟩ <;> omega
end
end PB
namespace PB
section
variable {p:V3} {xs ys:List Nat} {dn dn':Nat→Nat→Nat→Nat→Prop} {T:TabF}
def tab0:TabF:=fun i j k=>if 0=i∧0=j∧0=k then some 0 else none
theorem Tabl.start:Tabl p xs ys (fun _ _ _ _=>False) tab0:=by
  refine ⟨rfl,fun i j k v hv => ?_,fun i j k v hv i' j' k' c hd=>hd.elim⟩
  unfold tab0 at hv
  by_cases h:0=i∧0=j∧0=k
  · exact .inl ⟨by omega,by omega,by omega⟩
  · rw [if_neg h] at hv
    cases hv
/-- the steps from a place,as things -/
abbrev It:=Nat×Nat×Nat×Int
end
end PB
namespace PB
end PB
namespace PB
end PB
namespace PB
end PB
namespace PB
section
variable {p:V3} {xs ys:List Nat}
abbrev LcP (p:V3) (xs ys:List Nat) (i j k:Nat):Int:=Lc p.1 p.2.1 p.2.2 k (xs.drop i) (ys.drop j)
theorem StepP.le {i j k a b c:Nat} {cost:Int} (hs:StepP p xs ys i j k a b c cost):LcP p xs ys i j k≤cost + LcP p xs ys a b c:=by
  unfold LcP
  rcases hs with ⟨rfl,rfl,rfl,h4,h5⟩ | ⟨rfl,rfl,rfl,h4,h5⟩ | ⟨rfl,rfl,rfl,h4,h5⟩
  · rw [List.drop_eq_getElem_cons h4.1,List.drop_eq_getElem_cons h4.2,h5]
    exact ZjU
  · rw [List.drop_eq_getElem_cons h4,h5]
    exact Zi9
  · rw [List.drop_eq_getElem_cons h4,h5]
    exact Zja
end
end PB
namespace PB
section
variable {s:LS} {Q:Rv→LS→Prop}
/-- a name; a word -/
def Nm (n:List Nat):Prop:=0 < n.length∧n.length≤8∧∀ c∈n,c∈az
end
end PB
set_option exponentiation.threshold 20000
namespace PB
def natDs (ns:List Nat):List D:=ns.map fun n:Nat=>D.int (n:Int)
end PB
namespace PB
abbrev Ws:=List (List Nat×List Nat)
def ksD (W:Ws):List D:=W.map fun q=>.str q.1
def vsD (W:Ws):List D:=W.map fun q=>.str q.2
def dctW (W:Ws):D:=.dct false (ksD W) (vsD W)
def wsGet (W:Ws) (n:List Nat):Option (List Nat):=(W.find? fun q=>q.1 == n).map (·.2)
theorem Zjb (W:Ws) (n:List Nat):dGet (ksD W) (vsD W) (.str n)=(wsGet W n).map .str:=by
  induction W with
  | nil=>rfl
  | cons q r ih=>
    show (if (q.1 == n)=true then some (D.str q.2) else dGet (ksD r) (vsD r) (.str n))=_
    unfold wsGet
    rw [List.find?_cons]
    cases h:q.1 == n with
    | true=>rfl
    | false=>
      rw [if_neg (by decide),ih]
      rfl
/-- names are names,words are words -/
structure WOk (m:Nat) (W:Ws):Prop where
  nm:∀ q∈W,Nm q.1
  wd:∀ q∈W,Wd 12 q.2
  len:W.length≤m
theorem WOk.get {m:Nat} {W:Ws} (h:WOk m W) {n w:List Nat} (k:wsGet W n=some w):Wd 12 w∧Nm n:=by
  unfold wsGet at k
  cases hf:W.find? fun q=>q.1 == n with
  | none=>rw [hf] at k; cases k
  | some q=>
    rw [hf] at k
    have e:q.2=w:=by injection k
    have h1:=List.mem_of_find?_eq_some hf
    have h2:=List.find?_some hf
    rw [← e,show n=q.1 from (eq_of_beq h2).symm]
    exact ⟨h.wd q h1,h.nm q h1⟩
theorem WOk.le {m k:Nat} {W:Ws} (h:WOk m W) (hk:m≤k):WOk k W:=⟨h.nm,h.wd,Nat.le_trans h.len hk⟩
theorem WOk.nil (m:Nat):WOk m []:=⟨fun q h=>by (cases h),fun q h=>by (cases h),Nat.zero_le _⟩
section
variable {s:LS} {Q:Rv→LS→Prop}
def pd (ns:List Nat):D:=.tup (natDs ns)
end
end PB
namespace PB
section
variable {a b:Nat} {s:LS} {Q:Rv→LS→Prop} {kn:List (List Nat)} {wy sz att:Int} {t:List Nat} {x7:Sl}
def zN (j:Nat):List Nat:=[122,122,122,122,122,122,122,97 + j]
/-- what the last loop keeps -/
def FrI (kn:List (List Nat)) (t:List Nat) (i:Nat):Prop:=t ∉ kn∨i=0∨t=zN (i - 1)∧∀ j,j < i - 1→zN j∈kn
theorem FrI.next {kn:List (List Nat)} {t:List Nat} {i:Nat} (h:FrI kn t i) (ht:t∈kn):FrI kn (zN i) (i + 1):=by
  refine .inr (.inr ⟨rfl,fun j hj => ?_⟩)
  rcases h with h | h | ⟨h1,h2⟩
  · exact absurd ht h
  · omega
  · by_cases hj':j=i - 1
    · rw [hj',← h1]
      exact ht
    · exact h2 j (by omega)
end
end PB
namespace PB
structure SoI (n:Nat) (mm:Int) (done:List Nat) (ls:List Mv) (k:Int):Prop where
  good:∀ x∈ls,Good x
  tk:ls.flatMap Mv.taken=done
  md:((ls.flatMap Mv.made).length:Int)=done.length + k
  le:k + n≤mm
theorem SoI.app {n:Nat} {mm k j:Int} {done add:List Nat} {ls:List Mv} (h:SoI n mm done ls k) {x:Mv} (hx:Good x) (ht:x.taken=add) (hm:(x.made.length:Int)=add.length + j) (hl:k + j + n≤mm):SoI n mm (done ++ add) (ls ++ [x]) (k + j) where
  good:=fun y hy=>by
    rcases List.mem_append.mp hy with hy | hy
    · exact h.good y hy
    · rw [List.mem_singleton.mp hy]
      exact hx
  tk:=by
    rw [List.flatMap_append,h.tk]
    simp [ht]
  md:=by
    rw [List.flatMap_append,List.length_append,List.length_append]
    have:=h.md
    have e:([x].flatMap Mv.made).length=x.made.length:=by simp
    rw [e]
    omega
  le:=hl
end PB
namespace PB
structure DkAt1 (ss:List DS) (a j:Nat) (d:DS):Prop where
  ix:dkIx ss a=some j
  at':ss[j]?=some d
section
variable {γ:Type} {ss:List DS} {a j i:Nat} {d:DS} {e:Env} {g:γ} {Q:Rv→GD γ→Prop} {QS:Fl→GD γ→Prop}
theorem Zjc {f:DS→D} (h:gt e i = .dat (.ref a)) (hA:DkAt1 ss a j d):ZfE f (Zaa i) e (g,ss) = .ok (.dat (f d)) (g,ss):=by
  unfold ZfE Zaa
  rw [h]
  show ofO (((dkIx ss a).bind fun j=>ss[j]?).map fun s=>Rv.dat (f s)) (g,ss)=_
  rw [hA.ix]
  show ofO ((ss[j]?).map fun s=>Rv.dat (f s)) (g,ss)=_
  rw [hA.at']
  rfl
theorem ZhA {b k:Nat} (hA:DkAt1 ss a j d) {d':DS} (hd:d'.a=d.a):dkIx (ss.set j d') b=dkIx ss b:=by
  unfold dkIx
  have hj:=hA.at'
  clear hA
  induction ss generalizing j with
  | nil=>rfl
  | cons x r ih=>
    cases j with
    | zero=>
      have e:x=d:=by simpa using hj
      rw [List.set_cons_zero,List.findIdx?_cons,List.findIdx?_cons,hd,e]
    | succ j=>
      rw [List.set_cons_succ,List.findIdx?_cons,List.findIdx?_cons,ih (by simpa using hj)]
theorem DkAt1.set (hA:DkAt1 ss a j d) {d':DS} (hd:d'.a=d.a):DkAt1 (ss.set j d') a j d':=by
  refine ⟨?_,?_⟩
  · rw [ZhA (k:=0) hA hd]
    exact hA.ix
  · have:j < ss.length:=(List.getElem?_eq_some_iff.mp hA.at').1
    rw [List.getElem?_set_self this]
end
theorem Zdy {γ:Type} {a b:MS γ} {e e1:Env} {g g1:γ} (h:a e g = .ok (.nx e1) g1):Zae a b e g=b e1 g1:=by
  unfold Zae
  rw [h]
  rfl
def dk (a:Nat) (W:Ws) (p:List Nat) (past und:List D):DS:=⟨a,dctW W,pd p,past,und⟩
section
variable {ss:List DS} {a j i:Nat} {d:DS} {e:Env} {s:LS} {Q:Rv→GD LS→Prop} {W W':Ws} {p p':List Nat} {past und:List D} {n w r:List Nat}
theorem Zg5 {γ α:Type} {r:Rs γ α} {v:α} {g:γ} {Q:α→γ→Prop} (h:r = .ok v g) (q:Q v g):Sat r Q:=by
  rw [h]
  exact q
def finR {γ:Type} (r:Rs γ Fl):Rs γ Rv:=match r with
  | .ok (.nx _) g1=>.ok (.dat .non) g1
  | .ok (.rt r) g1=>.ok r.ret g1
  | .ok (.bk _) _=>.no
  | .ok (.ct _) _=>.no
  | .ex x g1=>.ex x g1
  | .no=>.no
theorem ZhB {γ:Type} {n k:Nat} {b:MS γ} {ds:List D} {g:γ} {r:Rs γ Fl} (hl:ds.length=k) (h:b (ds.map Sl.dat ++ List.replicate (n - k) .un) g=r):Zbh n k b ds g=finR r:=by
  unfold Zbh
  rw [if_pos hl,h]
  rfl
end
end PB
namespace PB
abbrev wOld:List Nat:=[111,108,100]
/-- a part of a line: kind,worth -/
abbrev Pt:=List Nat×D
def pkD (p:Pt):D:=.tup [.str p.1,p.2]
def ptsD (ps:List Pt):D:=.lst (ps.map pkD)
def Known (W:Ws) (p:Pt):Prop:=(p.1 == wOld)=false∨∃ n,p.2 = .str n∧(wsGet W n).isSome=true
section
variable {ss:List DS} {a j:Nat} {s:LS} {W:Ws} {p:List Nat} {past und:List D} {line w0 n:List Nat} {ps:List Pt} {U:MS (GD LS)} {A:MF (GD LS)}
def teE (a:Nat) (line w0:List Nat) (ps:List Pt) (x4 x5 x6:Sl):Env:=[.dat (.ref a),.dat (.str line),.dat (.str w0),.dat (ptsD ps),x4,x5,x6]
def tellLoop:MS (GD LS):=(Zau (ZeF (Zan (Zad oEq (Zaa 5) (mC (.str [111,108,100])))) (Zan (Zgp true (Zaa 6) (ZfE DS.words (Zaa 0))))) (Zcw 13 (Zaa 6)) Zao)
theorem Zis {e:Env} {i k:Nat} (hA:DkAt1 ss a j (dk a W p past und)) (h:gt e i = .dat (.ref a)) (hk:gt e k = .dat (.str n)):Zgp true (Zaa k) (ZfE DS.words (Zaa i)) e (s,ss) = .ok (.dat (.bl (!(wsGet W n).isSome))) (s,ss):=by
  unfold Zgp
  have e1:Zaa k e (s,ss) = .ok (.dat (.str n)) (s,ss):=by
    unfold Zaa
    rw [hk]
  rw [e1]
  show Rs.bind (ZfE DS.words (Zaa i) e (s,ss)) _=_
  rw [Zjc h hA]
  show ofO (some (Rv.dat (.bl (xor true (dGet (ksD W) (vsD W) (.str n)).isSome)))) (s,ss)=_
  rw [Zjb,Option.isSome_map]
  cases (wsGet W n).isSome <;> rfl
theorem loop_ok (hA:DkAt1 ss a j (dk a W p past und)) {q:Pt} {x4 x5 x6:Sl} (hq:Known W q):tellLoop (teE a line w0 ps x4 (.dat (.str q.1)) (.dat q.2)) (s,ss) = .ok (.nx (teE a line w0 ps x4 (.dat (.str q.1)) (.dat q.2))) (s,ss):=by
  refine Sat.eq fun Q hQ => ?_
  unfold tellLoop
  rw [Zb9,Zcz,ZbB]
  rcases hq with h | ⟨n,hn,hg⟩
  · unfold teE at *
    simp_arith [h]
    exact hQ
  · have hd:=Zis (s:=s) (e:=teE a line w0 ps x4 (.dat (.str q.1)) (.dat q.2)) (i:=0) (k:=6) (n:=n) hA rfl (by rw [hn]; rfl)
    rw [hg] at hd
    by_cases h:(q.1 == wOld)=true
    · unfold teE at *
      simp_arith [h]
      refine Zi8 hd ?_
      simp_arith []
      exact hQ
    · have h:=Bool.eq_false_iff.mpr h
      unfold teE at *
      simp_arith [h]
      exact hQ
theorem Zit {γ:Type} {tg:MG} {b:MS γ} {x:D} {ds:List D} {e e1 e2:Env} {g g2:γ} (ht:tg x e=some e1) (hb:b e1 g = .ok (.nx e2) g2):forL tg b (x :: ds) e g=forL tg b ds e2 g2:=by
  conv=>lhs; unfold forL
  rw [ht]
  dsimp only
  rw [hb]
theorem ZjV {γ:Type} {t:MT γ} {b:MS γ} {e:Env} {g g1:γ} (h:t e g = .ok false g1):Zau t b Zao e g = .ok (.nx e) g1:=by
  unfold Zau
  rw [h]
  rfl
end
end PB
namespace PB
end PB
namespace PB
section
variable {s:LS}
theorem Nm.le {n:List Nat} (h:Nm n):n.length≤100:=Nat.le_trans h.2.1 (by decide)
end
end PB
namespace PB
end PB
namespace PB
section
variable {a b k:Nat} {s:LS} {W:Ws} {p:List Nat} {ns:List (List Nat)} {mm way:Int} {n o L w:List Nat} {x10 x11 x12 x13 x14:Sl} {Q:Rv→LS→Prop}
def Lm (mm:Int) (W:Ws):Prop:=∀ q∈W,(q.2.length:Int)≤mm
theorem Lm.get (h:Lm mm W) (hg:wsGet W n=some w):(w.length:Int)≤mm:=by
  unfold wsGet at hg
  cases hf:W.find? fun q=>q.1 == n with
  | none=>rw [hf] at hg; cases hg
  | some q=>
    rw [hf] at hg
    have:=h q (List.mem_of_find?_eq_some hf)
    cases hg
    exact this
end
end PB
namespace PB
end PB
namespace PB
end PB
namespace PB
inductive Ans where
  | told (d:D)
  | ref (x:Xn)
section
variable {ss:List DS} {a j:Nat} {s s':LS} {W:Ws} {p:List Nat} {past und:List D} {n m l w0 x y z:List Nat} {wy bY co tw:ME (GD LS)} {U:MS (GD LS)} {o:Ans} {tl ws:List D} {k:Nat}
theorem Za2 {γ:Type} {m:ME γ} {r:MA γ} {e:Env} {g:γ} {x:Rv} {xs:List Rv} (h:m e g = .ok x g) (hr:r e g = .ok xs g):Zab m r e g = .ok (x :: xs) g:=by
  unfold Zab
  rw [h]
  show Rs.bind (r e g) _=_
  rw [hr]
  rfl
end
end PB
set_option exponentiation.threshold 2000
namespace PB
end PB
namespace PB
end PB
namespace PB
end PB
set_option maxRecDepth 100000
set_option maxHeartbeats 0
namespace G_k17
open PB
noncomputable section
def Ze8:MS LS:=(Zae (Zet 0)
    (Zae (Zam 1 (ZfD 0))
    (Zae (Zam 2 (mC (.int 5)))
    (Zae (Zau (ZeV 0) (Zam 2 (Zfd 0 (Zad oMod (Zaa 1) (Zes 0)))) Zao)
    (Zae (Zam 3 (Zad oMod (Zad oPow (Zad oAdd (Zad oAdd (Zad oAdd (Zaa 2) (Zad oMul (Zad oMul (mC (.int 1009)) (Zaa 1)) (Zaa 1))) (Zad oMul (mC (.int 48611)) (Zaa 1))) (mC (.int 17))) (mC (.int 5))) (mC (.int 2147483647))))
    (ZaB (Zad oMod (Zad oAdd (Zad oMul (Zaa 3) (mC (.int 39373))) (Zad oMul (mC (.int 7919)) (Zaa 1))) (mC (.int 1000000007)))))))))
def ZdY:MF LS:=Zbh 4 1 (Ze8)
def ZeC:MS LS:=(Zae (Zau (ZeF (Zan (Zad oEq (Za7 0) (mC (.int 0)))) (ZeU 0)) (ZdM 0) Zao)
    (Zae (Zau (Zan (Zad oGt (Za7 0) (mC (.int 0)))) (Zae (Zam 2 (Zad oMod (Za7 0) (Zaa 1)))
    (Zae (Zcb 0 (Zad oDiv (Za7 0) (Zaa 1)))
    (ZaB (Zaa 2)))) Zao)
    (Zae (Zam 2 (mC (.int 0)))
    (Zae (Zam 3 (mC (.int 1)))
    (Zae (Zbk (Zan (Zad oLt (Zaa 3) (Zaa 1))) (Zae (Zam 2 (Zad oAdd (Zad oMul (Zaa 2) (mC (.int 1000000007))) (Zat ZdY (Zab (Zaa 0) Zal))))
    (Zam 3 (Zad oMul (Zaa 3) (mC (.int 1000000007))))) 100)
    (ZaB (Zad oMod (Zaa 2) (Zaa 1))))))))
def Zas:MF LS:=Zbh 4 2 (ZeC)
def ZdA (F:MF LS):MS LS:=(Zae (Zau (Zan (ZaY (oIs .tuple) (Zaa 1))) (Zae (Zau (mOr (ZdL (Zan (ZaY (oIs .tuple) (Zaa 0)))) (Zan (Zad oNe (Zca oLen (Zab (Zaa 0) Zal)) (Zca oLen (Zab (Zaa 1) Zal))))) (ZaB (mC (.bl false))) Zao)
    (ZaB (Zca oAll (Zab (mLc (ZeS (Zaa 0) (Zaa 1)) (tgT [2,3]) ZeG (Zat F (Zab (Zaa 2) (Zab (Zaa 3) Zal))) [2,3]) Zal)))) Zao)
    (Zae (Zau (Zan (ZaY oIsN (Zaa 1))) (ZaB (ZaY oIsN (Zaa 0))) Zao)
    (Zae (Zau (Zan (ZaY (oIs .str) (Zaa 1))) (ZaB (ZbV (ZaY (oIs .str) (Zaa 0)) (Zad oEq (Zaa 0) (Zaa 1)))) Zao)
    (ZaB (ZbV (ZaY (oIs .int) (Zaa 0)) (ZbV (Zad oEq (ZaY (oIs .bool) (Zaa 0)) (ZaY (oIs .bool) (Zaa 1))) (Zad oEq (Zaa 0) (Zaa 1))))))))
def ZaJ:Nat→MF LS
  | 0=>fun _ _=>.no
  | n + 1=>Zbh 4 2 (ZdA (ZaJ n))
def Zdz:MS LS:=(Zae (Zau (Zan (Zad oEq (Zaa 0) (mC (.int 0)))) (ZbW 1 (Zaa 1)) Zao)
    (Zae (Zau (Zan (Zad oEq (Zaa 0) (mC (.int 1)))) (ZbW 2 (Zaa 1)) Zao)
    (Zae (Zau (Zan (Zad oEq (Zaa 0) (mC (.int 2)))) (ZbW 3 (Zaa 1)) Zao)
    (Zae (Zau (Zan (Zad oEq (Zaa 0) (mC (.int 3)))) (ZbW 4 (Zaa 1)) Zao)
    (Zae (Zau (Zan (Zad oEq (Zaa 0) (mC (.int 4)))) (ZbW 5 (Zaa 1)) Zao)
    (Zae (Zau (Zan (Zad oEq (Zaa 0) (mC (.int 5)))) (ZbW 6 (Zaa 1)) Zao)
    (Zae (Zau (Zan (Zad oEq (Zaa 0) (mC (.int 6)))) (ZbW 7 (Zaa 1)) Zao)
    (Zae (Zau (Zan (Zad oEq (Zaa 0) (mC (.int 7)))) (ZbW 8 (Zaa 1)) Zao)
    (Zae (Zau (Zan (Zad oEq (Zaa 0) (mC (.int 8)))) (Zcw 9 (Zaa 1)) Zao)
    (Zae (Zau (Zan (Zad oEq (Zaa 0) (mC (.int 9)))) (Zcw 10 (Zaa 2)) Zao)
    (Zae (Zau (Zan (Zad oEq (Zaa 0) (mC (.int 10)))) (Zcw 11 (Zaa 2)) Zao)
    (Zae (Zau (Zan (Zad oEq (Zaa 0) (mC (.int 11)))) (Zcw 12 (Zaa 2)) Zao)
    (Zau (Zan (Zad oEq (Zaa 0) (mC (.int 12)))) (Zcw 13 (Zaa 1)) Zao)))))))))))))
def Zcu:MF LS:=Zbh 3 3 (Zdz)
def ZdH:MS LS:=(Zae (Zam 1 (Za3 (Zab (Zb1 [0,1,2,3,4,5,6,7,8,9,10,11,12,13] [1] 0) (Zab (Zb1 [0,1,2,3,4,5,6,7,8,9,10,11,12,13] [2] 0) (Zab (Zb1 [0,1,2,3,4,5,6,7,8,9,10,11,12,13] [3] 0) (Zab (Zb1 [0,1,2,3,4,5,6,7,8,9,10,11,12,13] [4] 0) Zal))))))
    (Zae (Zam 1 (Zad oAdd (Zaa 1) (Za3 (Zab (Zb1 [0,1,2,3,4,5,6,7,8,9,10,11,12,13] [5] 0) (Zab (Zb1 [0,1,2,3,4,5,6,7,8,9,10,11,12,13] [6] 0) (Zab (Zb1 [0,1,2,3,4,5,6,7,8,9,10,11,12,13] [7] 0) Zal))))))
    (Zae (Zam 1 (Zad oAdd (Zaa 1) (Za3 (Zab (Zb1 [0,1,2,3,4,5,6,7,8,9,10,11,12,13] [8] 0) (Zab (Zb1 [0,1,2,3,4,5,6,7,8,9,10,11,12,13] [9] 0) (Zab (Zb1 [0,1,2,3,4,5,6,7,8,9,10,11,12,13] [10] 0) Zal))))))
    (Zae (Zam 1 (Zad oAdd (Zaa 1) (Za3 (Zab (Zb1 [0,1,2,3,4,5,6,7,8,9,10,11,12,13] [11] 0) (Zab (Zb1 [0,1,2,3,4,5,6,7,8,9,10,11,12,13] [12] 0) (Zab (Zb1 [0,1,2,3,4,5,6,7,8,9,10,11,12,13] [13] 0) Zal))))))
    (ZaB (Zca oTuple (Zab (Zad oAdd (Zaa 1) (Za3 (Zab (Zb1 [0,1,2,3,4,5,6,7,8,9,10,11,12,13] [0,1,2,3,4,5,6,7,8,9,10,11,12,13] 0) Zal))) Zal)))))))
def ZdI:MX LS:=Zgo 1 (ZdH)
def ZdJ:MS LS:=(Zae (Zau (Zan (Zad oEq (Zaa 1) (mC (.int 8)))) (ZaB (mXf 9 0)) Zao)
    (Zae (Zau (Zan (Zad oEq (Zaa 1) (mC (.int 9)))) (ZaB (mXf 10 0)) Zao)
    (Zae (Zau (Zan (Zad oEq (Zaa 1) (mC (.int 10)))) (ZaB (mXf 11 0)) Zao)
    (Zae (Zau (Zan (Zad oEq (Zaa 1) (mC (.int 11)))) (ZaB (mXf 12 0)) Zao)
    (Zae (Zau (Zan (Zad oEq (Zaa 1) (mC (.int 12)))) (ZaB (mXf 13 0)) Zao)
    (ZaB (mC .non)))))))
def ZdK:MX2 LS:=ZfF 0 (ZdJ)
def Zd2:MS LS:=(Zae (Zam 3 (mC .non))
    (Zae (Zgq [0,1,2,3,4,5,6,7,8,9,10,11,12,13] (ZeT Zcu (Zab (Zaa 0) (Zab (Zaa 1) (Zab (Zaa 2) Zal)))) 4 [([0,1,2,3,4,5,6,7,8,9,10,11,12,13],(Zam 3 (Zcq (Zab (ZfC ZdI 4) (Zab (Zfe ZdK 4 0) Zal)))))])
    (ZaB (Zaa 3))))
def Za9:MF LS:=Zbh 5 3 (Zd2)
def ZeD:MS LS:=(Zae (Zam 1 (mC (.str [78,111,87,111,114,100,32,78,111,84,101,120,116,32,78,111,70,114,97,99,116,105,111,110,32,78,111,80,114,105,99,101,32,78,111,80,111,105,110,116,32,78,111,116,76,101,97,115,116,32,78,111,76,105,110,101,32,78,111,116,104,105,110,103,68,111,110,101,32,78,111,116,79,110,32,84,111,111,76,111,110,103,32,84,111,111,77,97,110,121])))
    (Zae (Zam 1 (Zad oAdd (Zaa 1) (mC (.str [32,78,111,78,117,109,98,101,114,32,78,111,78,97,109,101]))))
    (ZaB (Zca oTuple (Zab (Zad oAdd (mLc (ZcZ (mS1 oSplit (Zaa 1) (mC (.str [32])))) (tgN 2) ZeG (Zad oEq (Zaa 2) (Zaa 0)) [2]) (Za3 (Zab (mC (.bl true)) Zal))) Zal)))))
def Zbj:MF LS:=Zbh 3 1 (ZeD)
def Zbn:MS (LS×Nat):=(Zae (Zam 1 (Za3 (Zab (ZaL 0 false) (Zab (ZaL 0 false) (Zab (ZaL 0 false) (Zab (ZaL 0 false) Zal))))))
    (Zae (Zam 1 (Zad oAdd (Zaa 1) (Za3 (Zab (ZaL 0 false) (Zab (ZaL 0 false) (Zab (ZaL 0 false) Zal))))))
    (Zae (Zam 1 (Zad oAdd (Zaa 1) (Za3 (Zab (ZaL 0 false) (Zab (ZaL 0 false) (Zab (ZaL 0 false) Zal))))))
    (Zae (Zam 1 (Zad oAdd (Zaa 1) (Za3 (Zab (ZaL 0 false) (Zab (ZaL 0 false) (Zab (ZaL 0 false) Zal))))))
    (ZaB (Zca oTuple (Zab (Zad oAdd (Zaa 1) (Za3 (Zab (ZaL 0 true) Zal))) Zal)))))))
def ZaF:MF (LS×Nat):=Zbh 2 1 Zbn
def m_law:MS LS:=(Zae (ZbE 1) (Zae (Zam 2 (Zat Zas (Zab (Zaa 1) (Zab (mC (.int 2)) Zal))))
    (Zae (ZbE 1) (Zae (Zam 3 (Zad oIx (Za3 (Zab (mC (.int 13)) (Zab (Zad oPow (mC (.int 10)) (mC (.int 39))) Zal))) (Zat Zas (Zab (Zaa 1) (Zab (mC (.int 2)) Zal)))))
    (Zae (ZbE 1) (Zae (Zam 4 (Zad oMul (Zat Zas (Zab (Zaa 1) (Zab (Zaa 3) Zal))) (Zad oSub (mC (.int 1)) (Zad oMul (mC (.int 2)) (Zaa 2)))))
    (Zae (ZbE 1) (Zae (Zam 5 (mS1 oJoin (mC (.str [])) (mLc (ZdB (Zat Zas (Zab (Zaa 1) (Zab (mC (.int 13)) Zal)))) (tgN 11) ZeG (Zad oIx (mC (.str [97,98,99,100,101,102,103,104,105,106,107,108,109,110,111,112,113,114,115,116,117,118,119,120,121,122])) (Zat Zas (Zab (Zaa 1) (Zab (mC (.int 26)) Zal)))) [11])))
    (Zae (Zam 6 (mC (.str [78,111,87,111,114,100,32,78,111,84,101,120,116,32,78,111,70,114,97,99,116,105,111,110,32,78,111,80,114,105,99,101,32,78,111,80,111,105,110,116,32,78,111,116,76,101,97,115,116,32,78,111,76,105,110,101,32,78,111,116,104,105,110,103,68,111,110,101,32,78,111,116,79,110,32,84,111,111,76,111,110,103,32,84,111,111,77,97,110,121])))
    (Zae (Zam 6 (Zad oAdd (Zaa 6) (mC (.str [32,78,111,78,117,109,98,101,114,32,78,111,78,97,109,101]))))
    (Zae (ZeH (ZeW (mS1 oSplit (Zaa 6) (mC (.str [32])))) (tgT [7,8]) (Zae (Zam 9 (mC .non))
    (Zae (Zau (Zan (Zad oIn (Zaa 7) (Zcq (Zab (mC (.int 8)) (Zab (mC (.int 12)) Zal))))) (Zam 9 (Zaa 5)) Zao)
    (Zae (Zau (Zan (Zad oIn (Zaa 7) (Zcq (Zab (mC (.int 9)) (Zab (mC (.int 10)) (Zab (mC (.int 11)) Zal)))))) (Zam 9 (Zaa 4)) Zao)
    (Zae (ZbE 4) (Zae (ZbE 5) (Zau (ZdL (Zan (Zat (ZaJ 10) (Zab (Zat Za9 (Zab (Zaa 7) (Zab (Zaa 5) (Zab (Zaa 4) Zal)))) (Zab (Zcq (Zab (Zat Zbj (Zab (Zaa 8) Zal)) (Zab (Zaa 9) Zal))) Zal))))) (ZaB (mC (.bl false))) Zao)))))))
    (ZfG 10 (Zaa 5) (Zae (ZbE 10) (ZaB (ZbV (ZaL 10 true) (Zad oNi (mC (.bl true)) (ZeE (Zat ZaF (Zab (Zaa 10) Zal)) none (some (mC (.int 13))))))))))))))))))))
end
end G_k17
set_option maxRecDepth 10000
set_option maxHeartbeats 4000000
set_option exponentiation.threshold 40000
namespace G_k17
open PB
theorem Zjd:Zas=drawF:=rfl
theorem ZjW:ZaJ=dueF:=by
  funext n
  induction n with
  | zero=>rfl
  | succ n ih=>
    show Zbh 4 2 (ZdA (ZaJ n))=Zbh 4 2 (dueM (dueF n))
    rw [ih]
    rfl
theorem Ziu:az=[97,98,99,100,101,102,103,104,105,106,107,108,109,110,111,112,113,114,115,116,117,118,119,120,121,122]:=rfl
def kT (k:Nat):D:=.tup ((List.range 13).map (fun j=>D.bl (j == k)) ++ [.bl true])
def fldT (k:Nat) (t:List Nat) (n:Int):D:=if k=8∨k=12 then .str t else if k=9∨k=10∨k=11 then .int n else .non
def nameT (k:Nat):List Nat:=([[78,111,87,111,114,100],[78,111,84,101,120,116],[78,111,70,114,97,99,116,105,111,110],[78,111,80,114,105,99,101],[78,111,80,111,105,110,116],[78,111,116,76,101,97,115,116],[78,111,76,105,110,101],[78,111,116,104,105,110,103,68,111,110,101],[78,111,116,79,110],[84,111,111,76,111,110,103],[84,111,111,77,97,110,121],[78,111,78,117,109,98,101,114],[78,111,78,97,109,101]]:List (List Nat)).getD k []
section
variable {t:List Nat} {n:Int} {s:LS}
theorem Zg6:∀ k,k < 13→Za9 [.int (k:Nat),.str t,.int n] s = .ok (.dat (.tup [kT k,fldT k t n])) s:=by
  intro k hk
  have:k=0∨k=1∨k=2∨k=3∨k=4∨k=5∨k=6∨k=7∨k=8∨k=9∨k=10∨k=11∨k=12:=by omega
  rcases this with rfl | rfl | rfl | rfl | rfl | rfl | rfl | rfl | rfl | rfl | rfl | rfl | rfl <;> kernel_rfl
theorem Ziv:∀ k,k < 13→Zbj [.str (nameT k)] s = .ok (.dat (kT k)) s:=by
  intro k hk
  have:k=0∨k=1∨k=2∨k=3∨k=4∨k=5∨k=6∨k=7∨k=8∨k=9∨k=10∨k=11∨k=12:=by omega
  rcases this with rfl | rfl | rfl | rfl | rfl | rfl | rfl | rfl | rfl | rfl | rfl | rfl | rfl <;> kernel_rfl
theorem ZhC:∀ k,k < 13→plainN 9 (.tup [kT k,fldT k t n])=true:=by
  intro k hk
  have:k=0∨k=1∨k=2∨k=3∨k=4∨k=5∨k=6∨k=7∨k=8∨k=9∨k=10∨k=11∨k=12:=by omega
  rcases this with rfl | rfl | rfl | rfl | rfl | rfl | rfl | rfl | rfl | rfl | rfl | rfl | rfl <;> rfl
theorem Zg7 {d:D} (h:plainN 9 d=true):ZaJ 10 [d,d] s = .ok (.dat (.bl true)) s:=by
  rw [ZjW]
  exact Sat.eq fun Q q=>ZjJ (n:=9) h q
end
noncomputable def bodyB:MS LS:=(Zae (Zam 9 (mC .non))
    (Zae (Zau (Zan (Zad oIn (Zaa 7) (Zcq (Zab (mC (.int 8)) (Zab (mC (.int 12)) Zal))))) (Zam 9 (Zaa 5)) Zao)
    (Zae (Zau (Zan (Zad oIn (Zaa 7) (Zcq (Zab (mC (.int 9)) (Zab (mC (.int 10)) (Zab (mC (.int 11)) Zal)))))) (Zam 9 (Zaa 4)) Zao)
    (Zae (ZbE 4) (Zae (ZbE 5) (Zau (ZdL (Zan (Zat (ZaJ 10) (Zab (Zat Za9 (Zab (Zaa 7) (Zab (Zaa 5) (Zab (Zaa 4) Zal)))) (Zab (Zcq (Zab (Zat Zbj (Zab (Zaa 8) Zal)) (Zab (Zaa 9) Zal))) Zal))))) (ZaB (mC (.bl false))) Zao))))))
noncomputable def endB:MS (LS×Nat):=(Zae (ZbE 10) (ZaB (ZbV (ZaL 10 true) (Zad oNi (mC (.bl true)) (ZeE (Zat ZaF (Zab (Zaa 10) Zal)) none (some (mC (.int 13))))))))
abbrev knownT:List Nat:=[78,111,87,111,114,100,32,78,111,84,101,120,116,32,78,111,70,114,97,99,116,105,111,110,32,78,111,80,114,105,99,101,32,78,111,80,111,105,110,116,32,78,111,116,76,101,97,115,116,32,78,111,76,105,110,101,32,78,111,116,104,105,110,103,68,111,110,101,32,78,111,116,79,110,32,84,111,111,76,111,110,103,32,84,111,111,77,97,110,121,32,78,111,78,117,109,98,101,114,32,78,111,78,97,109,101]
section
variable {γ:Type} {m:ME γ} {e e1:Env} {g g1 g2:γ} {v:Rv} {i:Nat} {d:D}
theorem Zje (h:m e g = .ok (.dat (.bl true)) g1):ZdL (Zan m) e g = .ok false g1:=by
  unfold ZdL Zan
  rw [h]
  rfl
theorem Ze9 {F:MF γ} {as:MA γ} {xs:List Rv} {ds:List D} (h:as e g = .ok xs g1) (hs:stoL xs=some ds) (hf:F ds g1 = .ok v g2):Zat F as e g = .ok v g2:=by
  unfold Zat
  rw [h]
  show (match stoL xs with | some ds=>okO (F ds g1) | none=>Rs.no)=_
  rw [hs]
  show okO (F ds g1)=_
  rw [hf]
  rfl
theorem Zjf {b:MS γ} {src:MI γ} {tg:MG} {ds:List D} {r:Rs γ Fl} (h:src e g = .ok ds g1) (hf:forL tg b ds e g1=r):ZeH src tg b e g=r:=by
  unfold ZeH
  rw [h]
  exact hf
end
abbrev E17 (sa:Nat) (x2 x3 x4 x5 x6 x7 x8 x9 x10 x11:Sl):Env:=[.un,.dat (.ref sa),x2,x3,x4,x5,x6,x7,x8,x9,x10,x11]
section
variable {sa:Nat} {t:List Nat} {n:Int} {s:LS} {x2 x3 x6 x9 x10 x11:Sl}
theorem Zg8:∀ k,k < 13→∀ (K:MS LS),(Zae (Zam 9 (mC .non))
    (Zae (Zau (Zan (Zad oIn (Zaa 7) (Zcq (Zab (mC (.int 8)) (Zab (mC (.int 12)) Zal))))) (Zam 9 (Zaa 5)) Zao)
    (Zae (Zau (Zan (Zad oIn (Zaa 7) (Zcq (Zab (mC (.int 9)) (Zab (mC (.int 10)) (Zab (mC (.int 11)) Zal)))))) (Zam 9 (Zaa 4)) Zao) K))) (E17 sa x2 x3 (.dat (.int n)) (.dat (.str t)) x6 (.dat (.int (k:Nat))) (.dat (.str (nameT k))) x9 x10 x11) s =
    K (E17 sa x2 x3 (.dat (.int n)) (.dat (.str t)) x6 (.dat (.int (k:Nat))) (.dat (.str (nameT k))) (.dat (fldT k t n)) x10 x11) s:=by
  intro k hk K
  have:k=0∨k=1∨k=2∨k=3∨k=4∨k=5∨k=6∨k=7∨k=8∨k=9∨k=10∨k=11∨k=12:=by omega
  rcases this with rfl | rfl | rfl | rfl | rfl | rfl | rfl | rfl | rfl | rfl | rfl | rfl | rfl <;> rfl
theorem Ziw {k:Nat} (hk:k < 13):bodyB (E17 sa x2 x3 (.dat (.int n)) (.dat (.str t)) x6 (.dat (.int (k:Nat))) (.dat (.str (nameT k))) x9 x10 x11) s = .ok (.nx (E17 sa x2 x3 (.dat (.int n)) (.dat (.str t)) x6 (.dat (.int (k:Nat))) (.dat (.str (nameT k))) (.dat (fldT k t n)) x10 x11)) s:=by
  unfold bodyB
  rw [Zg8 k hk]
  rw [Zdy (e1:=E17 sa x2 x3 (.dat (.int n)) (.dat (.str t)) x6 (.dat (.int (k:Nat))) (.dat (.str (nameT k))) (.dat (fldT k t n)) x10 x11) (g1:=s) rfl,Zdy (e1:=E17 sa x2 x3 (.dat (.int n)) (.dat (.str t)) x6 (.dat (.int (k:Nat))) (.dat (.str (nameT k))) (.dat (fldT k t n)) x10 x11) (g1:=s) rfl]
  have c1:(Zat Za9 (Zab (Zaa 7) (Zab (Zaa 5) (Zab (Zaa 4) Zal))):ME LS) (E17 sa x2 x3 (.dat (.int n)) (.dat (.str t)) x6 (.dat (.int (k:Nat))) (.dat (.str (nameT k))) (.dat (fldT k t n)) x10 x11) s = .ok (.dat (.tup [kT k,fldT k t n])) s:=Ze9 (xs:=[.dat (.int (k:Nat)),.dat (.str t),.dat (.int n)]) (ds:=[.int (k:Nat),.str t,.int n]) rfl rfl (Zg6 k hk)
  have c2:(Zat Zbj (Zab (Zaa 8) Zal):ME LS) (E17 sa x2 x3 (.dat (.int n)) (.dat (.str t)) x6 (.dat (.int (k:Nat))) (.dat (.str (nameT k))) (.dat (fldT k t n)) x10 x11) s = .ok (.dat (kT k)) s:=Ze9 (xs:=[.dat (.str (nameT k))]) (ds:=[.str (nameT k)]) rfl rfl (Ziv k hk)
  have c3:(Zcq (Zab (Zat Zbj (Zab (Zaa 8) Zal)) (Zab (Zaa 9) Zal)):ME LS) (E17 sa x2 x3 (.dat (.int n)) (.dat (.str t)) x6 (.dat (.int (k:Nat))) (.dat (.str (nameT k))) (.dat (fldT k t n)) x10 x11) s = .ok (.dat (.tup [kT k,fldT k t n])) s:=by
    unfold Zcq
    rw [Za2 c2 (Za2 (x:=.dat (fldT k t n)) rfl rfl)]
    rfl
  exact ZjV (Zje (Ze9 (xs:=[.dat (.tup [kT k,fldT k t n]),.dat (.tup [kT k,fldT k t n])]) (g1:=s) (Za2 c1 (Za2 c3 rfl)) rfl (Zg7 (ZhC k hk))))
theorem Zix:(ZeW (mS1 oSplit (Zaa 6) (mC (.str [32]))):MI LS) (E17 sa x2 x3 (.dat (.int n)) (.dat (.str t)) (.dat (.str knownT)) .un .un .un .un .un) s = .ok ((List.range 13).map fun k=>D.tup [.int (k:Nat),.str (nameT k)]) s:=by kernel_rfl
theorem loop_ok:∀ (ks:List Nat),(∀ k∈ks,k < 13)→∀ (x7 x8 x9:Sl),∃ y7 y8 y9,forL (tgT [7,8]) bodyB (ks.map fun k=>D.tup [.int (k:Nat),.str (nameT k)]) (E17 sa x2 x3 (.dat (.int n)) (.dat (.str t)) x6 x7 x8 x9 x10 x11) s = .ok (.nx (E17 sa x2 x3 (.dat (.int n)) (.dat (.str t)) x6 y7 y8 y9 x10 x11)) s
  | [],_,x7,x8,x9=>⟨x7,x8,x9,rfl⟩
  | k :: ks,h,x7,x8,x9=>by
    obtain ⟨y7,y8,y9,e⟩:=loop_ok ks (fun z hz=>h z (by simp [hz])) (.dat (.int (k:Nat))) (.dat (.str (nameT k))) (.dat (fldT k t n))
    exact ⟨y7,y8,y9,(Zit rfl (Ziw (h k (by simp)))).trans e⟩
theorem Zjg {y7 y8 y9:Sl}:ZfG 10 (Zaa 5) endB (E17 sa x2 x3 (.dat (.int n)) (.dat (.str t)) x6 y7 y8 y9 x10 x11) s = .ok (.rt (.dat (.bl true))) s:=by
  unfold ZfG
  show Rs.bind (Rs.ok (Rv.dat (.str t)) s) _=_
  rw [Rs.bind_ok]
  refine ZhM fun a => ?_
  unfold kMkE
  have i0:∀ (e:Env) (i:Nat) (b:Bool),gt e i = .dat (.ref a)→(ZaL i b:ME (LS×Nat)) e (s,a) = .ok (.dat (.bl b)) (s,a):=fun e i b h=>by
    unfold ZaL
    rw [h]
    show (if a=a then Rs.ok (Rv.dat (.bl b)) (s,a) else .no)=_
    rw [if_pos rfl]
  have l1:∀ (x:Sl) (b:Bool),(Za3 (Zab (ZaL 0 b) Zal):ME (LS×Nat)) [.dat (.ref a),x] (s,a) = .ok (.own [.bl b]) (s,a):=fun x b=>by
    unfold Za3
    rw [Za2 (i0 _ 0 b rfl) rfl]
    rfl
  have l3:∀ x:Sl,(Za3 (Zab (ZaL 0 false) (Zab (ZaL 0 false) (Zab (ZaL 0 false) Zal))):ME (LS×Nat)) [.dat (.ref a),x] (s,a) = .ok (.own [.bl false,.bl false,.bl false]) (s,a):=fun x=>by
    unfold Za3
    rw [Za2 (i0 _ 0 false rfl) (Za2 (i0 _ 0 false rfl) (Za2 (i0 _ 0 false rfl) rfl))]
    rfl
  have l4:∀ x:Sl,(Za3 (Zab (ZaL 0 false) (Zab (ZaL 0 false) (Zab (ZaL 0 false) (Zab (ZaL 0 false) Zal)))):ME (LS×Nat)) [.dat (.ref a),x] (s,a) = .ok (.own [.bl false,.bl false,.bl false,.bl false]) (s,a):=fun x=>by
    unfold Za3
    rw [Za2 (i0 _ 0 false rfl) (Za2 (i0 _ 0 false rfl) (Za2 (i0 _ 0 false rfl) (Za2 (i0 _ 0 false rfl) rfl)))]
    rfl
  have add:∀ {x:Sl} {ds es:List D} {M:ME (LS×Nat)},x = .own ds→M [.dat (.ref a),x] (s,a) = .ok (.own es) (s,a)→ds.length + es.length≤100→(Zad oAdd (Zaa 1) M:ME (LS×Nat)) [.dat (.ref a),x] (s,a) = .ok (.own (ds ++ es)) (s,a):=fun {x ds es M} h hM hl=>by
    subst h
    unfold Zad
    show Rs.bind (M [.dat (.ref a),.own ds] (s,a)) _=_
    rw [hM]
    show ofO (if ds.length + es.length≤SZ then some (Rv.own (ds ++ es)) else none) (s,a)=_
    rw [if_pos (by show _≤16777216; omega)]
    rfl
  have set1:∀ {x:Sl} {ds:List D} {M:ME (LS×Nat)},M [.dat (.ref a),x] (s,a) = .ok (.own ds) (s,a)→(Zam 1 M:MS (LS×Nat)) [.dat (.ref a),x] (s,a) = .ok (.nx [.dat (.ref a),.own ds]) (s,a):=fun {x ds M} h=>by
    unfold Zam
    rw [h]
    rfl
  have c1:ZaF [.ref a] (s,a) = .ok (.dat (.tup (List.replicate 13 (D.bl false) ++ [.bl true]))) (s,a):=by
    unfold ZaF
    refine (ZhB (k:=1) (r:=.ok (.rt (.dat (.tup (List.replicate 13 (D.bl false) ++ [.bl true])))) (s,a)) rfl ?_).trans rfl
    show Zbn [.dat (.ref a),.un] (s,a)=_
    unfold Zbn
    rw [Zdy (set1 (l4 _)),Zdy (set1 (add rfl (l3 _) (by decide))),Zdy (set1 (add rfl (l3 _) (by decide))),Zdy (set1 (add rfl (l3 _) (by decide)))]
    unfold ZaB Zca
    rw [Za2 (add rfl (l1 _ true) (by decide)) rfl]
    rfl
  have hv:(ZbV (ZaL 10 true) (Zad oNi (mC (.bl true)) (ZeE (Zat ZaF (Zab (Zaa 10) Zal)) none (some (mC (.int 13))))):ME (LS×Nat)) (E17 sa x2 x3 (.dat (.int n)) (.dat (.str t)) x6 y7 y8 y9 (.dat (.ref a)) x11) (s,a) = .ok (.dat (.bl true)) (s,a):=by
    unfold ZbV
    rw [i0 _ 10 true rfl,Rs.bind_ok]
    dsimp only
    have c2:(Zat ZaF (Zab (Zaa 10) Zal):ME (LS×Nat)) (E17 sa x2 x3 (.dat (.int n)) (.dat (.str t)) x6 y7 y8 y9 (.dat (.ref a)) x11) (s,a) = .ok (.dat (.tup (List.replicate 13 (D.bl false) ++ [.bl true]))) (s,a):=Ze9 (xs:=[.dat (.ref a)]) (ds:=[.ref a]) (g1:=(s,a)) rfl rfl c1
    have c3:(ZeE (Zat ZaF (Zab (Zaa 10) Zal)) none (some (mC (.int 13))):ME (LS×Nat)) (E17 sa x2 x3 (.dat (.int n)) (.dat (.str t)) x6 y7 y8 y9 (.dat (.ref a)) x11) (s,a) = .ok (.dat (.tup (List.replicate 13 (D.bl false)))) (s,a):=by
      unfold ZeE
      rw [c2]
      rfl
    unfold Zad
    show Rs.bind ((ZeE (Zat ZaF (Zab (Zaa 10) Zal)) none (some (mC (.int 13))):ME (LS×Nat)) (E17 sa x2 x3 (.dat (.int n)) (.dat (.str t)) x6 y7 y8 y9 (.dat (.ref a)) x11) (s,a)) _=_
    rw [c3]
    rfl
  have he:endB (st (E17 sa x2 x3 (.dat (.int n)) (.dat (.str t)) x6 y7 y8 y9 x10 x11) 10 (.dat (.ref a))) (s,a) = .ok (.rt (.dat (.bl true))) (s,a):=by
    unfold endB
    rw [Zdy (e1:=E17 sa x2 x3 (.dat (.int n)) (.dat (.str t)) x6 y7 y8 y9 (.dat (.ref a)) x11) (g1:=(s,a)) rfl]
    unfold ZaB
    rw [hv]
    rfl
  rw [he]
end
noncomputable def tailM:MS LS:=Zae (ZeH (ZeW (mS1 oSplit (Zaa 6) (mC (.str [32])))) (tgT [7,8]) bodyB) (ZfG 10 (Zaa 5) endB)
theorem Zjh:m_law=(Zae (ZbE 1) (Zae (Zam 2 (Zat Zas (Zab (Zaa 1) (Zab (mC (.int 2)) Zal))))
    (Zae (ZbE 1) (Zae (Zam 3 (Zad oIx (Za3 (Zab (mC (.int 13)) (Zab (Zad oPow (mC (.int 10)) (mC (.int 39))) Zal))) (Zat Zas (Zab (Zaa 1) (Zab (mC (.int 2)) Zal)))))
    (Zae (ZbE 1) (Zae (Zam 4 (Zad oMul (Zat Zas (Zab (Zaa 1) (Zab (Zaa 3) Zal))) (Zad oSub (mC (.int 1)) (Zad oMul (mC (.int 2)) (Zaa 2)))))
    (Zae (ZbE 1) (Zae (Zam 5 (mS1 oJoin (mC (.str [])) (mLc (ZdB (Zat Zas (Zab (Zaa 1) (Zab (mC (.int 13)) Zal)))) (tgN 11) ZeG (Zad oIx (mC (.str [97,98,99,100,101,102,103,104,105,106,107,108,109,110,111,112,113,114,115,116,117,118,119,120,121,122])) (Zat Zas (Zab (Zaa 1) (Zab (mC (.int 26)) Zal)))) [11])))
    (Zae (Zam 6 (mC (.str [78,111,87,111,114,100,32,78,111,84,101,120,116,32,78,111,70,114,97,99,116,105,111,110,32,78,111,80,114,105,99,101,32,78,111,80,111,105,110,116,32,78,111,116,76,101,97,115,116,32,78,111,76,105,110,101,32,78,111,116,104,105,110,103,68,111,110,101,32,78,111,116,79,110,32,84,111,111,76,111,110,103,32,84,111,111,77,97,110,121])))
    (Zae (Zam 6 (Zad oAdd (Zaa 6) (mC (.str [32,78,111,78,117,109,98,101,114,32,78,111,78,97,109,101]))))
    tailM)))))))))):=by
  unfold m_law tailM bodyB endB
  rfl
theorem Ziy (sa:Nat) (t:List Nat) (n:Int) (s:LS) (x2 x3:Sl):tailM (E17 sa x2 x3 (.dat (.int n)) (.dat (.str t)) (.dat (.str knownT)) .un .un .un .un .un) s = .ok (.rt (.dat (.bl true))) s:=by
  obtain ⟨y7,y8,y9,e⟩:=loop_ok (sa:=sa) (s:=s) (t:=t) (n:=n) (x2:=x2) (x3:=x3) (x6:=.dat (.str knownT)) (x10:=.un) (x11:=.un) (List.range 13) (fun k hk=>List.mem_range.mp hk) .un .un .un
  unfold tailM
  rw [Zdy (Zjf Zix e)]
  exact Zjg
theorem law_pure (s:LS) (hs:s.Ok) (hc:s.cnt=0):∃ g',m_law (.un :: .dat (.ref s.a) :: List.replicate 10 .un) s = .ok (.rt (.dat (.bl true))) g':=by
  have fin:Sat (m_law (.un :: .dat (.ref s.a) :: List.replicate 10 .un) s) fun f _=>f = .rt (.dat (.bl true)):=by
    have h0:Bud s.a 2000 s:=⟨hs,rfl,by omega⟩
    generalize hA:s.a=sa at *
    show Sat (m_law [.un,.dat (.ref sa),.un,.un,.un,.un,.un,.un,.un,.un,.un,.un] s) _
    rw [Zjh,Zjd]
    rw [ZaE,Zdh rfl,ZaG,ZaE,ZaT,ZbA]
    simp only [Zbz,S_C,Zb8,kc_,kcb_,ZaI,gt,Zap,Zbm,Za6,Za5,ZaR,Zah]
    refine Zeq (b:=1999) h0 (by decide) (by decide) fun sg s1 sg0 sg1 h1 => ?_
    rw [Zax,ZaG]
    simp only [st]
    rw [ZaE,Zdh rfl,ZaG,ZaE,ZaT,ZaD]
    have hl:∀ (e:Env) (s:LS),(Za3 (Zab (mC (.int 13)) (Zab (Zad oPow (mC (.int 10)) (mC (.int 39))) Zal)):ME LS) e s = .ok (.own [.int 13,.int (10 ^ 39)]) s:=fun _ _=>rfl
    refine Zg5 (hl _ _) ?_
    rw [k2_,ZbA]
    simp only [Zbz,S_C,Zb8,kc_,kcb_,ZaI,gt,Zap,Zbm,Za6,Za5,ZaR,Zah]
    refine Zeq (b:=1998) h1 (by decide) (by decide) fun i s2 i0 i1 h2 => ?_
    have hz:∃ z:Int,0 < z∧z≤10 ^ 39∧oIx (.own [.int 13,.int (10 ^ 39)]) (.dat (.int i))=some (.dat (.int z)):=by
      have:i=0∨i=1:=by omega
      rcases this with rfl | rfl
      · exact ⟨13,by decide,by decide,rfl⟩
      · exact ⟨10 ^ 39,by decide,by decide,rfl⟩
    obtain ⟨z,z0,z1,hz⟩:=hz
    rw [k2b_,hz,Zah,Zax,ZaG]
    simp only [st]
    have z90:z≤10 ^ 90:=Int.le_trans z1 (by decide)
    rw [ZaE,Zdh rfl,ZaG,ZaE,ZaT,ZaD,ZbA]
    simp only [Zbz,S_C,Zb8,kc_,kcb_,ZaI,gt,Zap,Zbm,Za6,Za5,ZaR,Zah]
    refine Zeq (b:=1997) h2 z0 z90 fun m s3 m0 m1 h3 => ?_
    rw [k2_]
    have hsub:∀ s:LS,∃ y:Int,(y=1∨y = -1)∧(Zad oSub (mC (.int 1)) (Zad oMul (mC (.int 2)) (Zaa 2)):ME LS) [.un,.dat (.ref sa),.dat (.int sg),.dat (.int z),.un,.un,.un,.un,.un,.un,.un,.un] s = .ok (.dat (.int y)) s:=fun s=>by
      have:sg=0∨sg=1:=by omega
      rcases this with rfl | rfl
      · exact ⟨1,.inl rfl,rfl⟩
      · exact ⟨-1,.inr rfl,rfl⟩
    obtain ⟨y,hy,hsub⟩:=hsub s3
    refine Zg5 hsub ?_
    have hmz:m.natAbs < 2 ^ 200:=by
      have h39:(10:Int) ^ 39 < 2 ^ 200:=by decide
      have:m < 2 ^ 200:=by omega
      omega
    have hmul:oMul (.dat (.int m)) (.dat (.int y))=some (.dat (.int (m * y))):=by
      show (if MulOk m y then some (Rv.dat (.int (m * y))) else none)=_
      rw [if_pos (mulOkP (a:=200) (b:=2) hmz (by rcases hy with rfl | rfl <;> decide) (by decide))]
    rw [k2b_,hmul,Zah,Zax,ZaG]
    simp only [st]
    generalize m * y=n
    rw [ZaE,Zdh rfl,ZaG,ZaE,ZaT]
    simp_arith []
    refine Zeq (b:=1996) h3 (by decide) (by decide) fun w s4 w0 w1 h4 => ?_
    obtain ⟨wN,rfl⟩:∃ wN:Nat,w=(wN:Nat):=⟨w.toNat,by omega⟩
    rw [kRng_]
    refine ⟨Zi7 (by omega),?_⟩
    rw [Int.toNat_natCast,kLc_]
    refine ZjQ (by rw [ZeQ]; show wN≤16777216; omega) (fun y=>∃ c:Nat,y = .str [c]) (fun k g=>Bud sa (1900 + k) g) (by rw [ZeQ]; exact h4.le (by omega)) (fun d hd k g hB => ?_) (fun ys g hy hp hB => ?_)
    · rw [Zin] at hd
      obtain ⟨m,_,rfl⟩:=List.mem_map.mp hd
      refine ⟨_,rfl,?_⟩
      rw [ZcW]
      refine ⟨rfl,?_⟩
      simp_arith []
      refine Zeq (b:=1900 + k) hB (by decide) (by decide) fun i s1 i0 i1 h1 => ?_
      obtain ⟨c,hc,e⟩:=Zgl (xs:=az) i0 i1
      rw [k2b_,ZcX,← Ziu,e]
      exact ⟨.str [c],rfl,⟨c,rfl⟩,h1⟩
    obtain ⟨cs,rfl⟩:=Zhx hp
    rw [List.length_map,ZeQ] at hy
    simp only [kS1b_,Ziq cs (show cs.length≤16777216 by omega),Zah,Zax,ZaG,st]
    have oa:oAdd (.dat (.str [78,111,87,111,114,100,32,78,111,84,101,120,116,32,78,111,70,114,97,99,116,105,111,110,32,78,111,80,114,105,99,101,32,78,111,80,111,105,110,116,32,78,111,116,76,101,97,115,116,32,78,111,76,105,110,101,32,78,111,116,104,105,110,103,68,111,110,101,32,78,111,116,79,110,32,84,111,111,76,111,110,103,32,84,111,111,77,97,110,121])) (.dat (.str [32,78,111,78,117,109,98,101,114,32,78,111,78,97,109,101]))=some (.dat (.str knownT)):=Zi2 (by decide)
    simp only [ZaE,ZaT,S_C,Zax,ZaG,st,ZaD,ZaI,gt,Zap,k2_,k2b_,oa,Zah]
    have T:=Ziy sa cs n g (.dat (.int sg)) (.dat (.int z))
    clear oa
    unfold E17 knownT at T
    rw [T]
    rfl
  obtain ⟨f,g,h,rfl⟩:=fin.get
  exact ⟨g,h⟩
end G_k17
set_option maxRecDepth 100000
set_option maxHeartbeats 0
namespace G_k17
open PySem PySem.Spec PyProof.Rows L2 PB
theorem ZbC:FnScope ["_law_script","_law_great","_law_cell"] ["_law_script"] (defScope ZbF):=⟨rfl,rfl,rfl,by decide +kernel,rfl,by decide +kernel,by decide +kernel⟩
theorem Zb7:FnScope ["_law_state","_law_count","_law_cell","_law_one"] ["_law_state"] (defScope Zcs):=⟨rfl,rfl,rfl,by decide +kernel,rfl,by decide +kernel,by decide +kernel⟩
theorem Zbo:FnScope ["_law_state","_law_many","_law_told","_law_size"] ["_law_state","_law_many"] (defScope Zb4):=⟨rfl,rfl,rfl,by decide +kernel,rfl,by decide +kernel,by decide +kernel⟩
theorem Zcv:FnScope ["_law_found","_law_due","_law_one","_law_other"] ["_law_found","_law_due"] (defScope Zb5):=⟨rfl,rfl,rfl,by decide +kernel,rfl,by decide +kernel,by decide +kernel⟩
theorem Zfq:FnScope ["_law_pick","_law_text","_law_number"] ["_law_pick","_law_text","_law_number"] (defScope Zbx):=⟨rfl,rfl,rfl,by decide +kernel,rfl,by decide +kernel,by decide +kernel⟩
theorem ZaH:FnScope ["_law_e","_law_found"] ["_law_e"] (defScope ZbG):=⟨rfl,rfl,rfl,by decide +kernel,rfl,by decide +kernel,by decide +kernel⟩
theorem Zfy:FnScope ["_law_e","_law_pick"] ["_law_e","_law_pick"] (defScope ZbH):=⟨rfl,rfl,rfl,by decide +kernel,rfl,by decide +kernel,by decide +kernel⟩
theorem Zb0:FnScope ["_law_pick","_law_text","_law_number","_law_found","_law_e"] ["_law_pick","_law_text","_law_number"] (defScope Zby):=⟨rfl,rfl,rfl,by decide +kernel,rfl,by decide +kernel,by decide +kernel⟩
theorem ZbT:FnScope ["_law_word","_law_known","_law_one"] ["_law_word"] (defScope Zb6):=⟨rfl,rfl,rfl,by decide +kernel,rfl,by decide +kernel,by decide +kernel⟩
theorem ZaX:FnScope ["_law_script","_law_state","_law_signs","_law_size","_law_number","_law_text","_law_known","_law_pick","_law_word","_law_due","_law_plain","_law_k"] ["_law_script"] (defScope Ze4):=⟨rfl,rfl,rfl,by decide +kernel,rfl,by decide +kernel,by decide +kernel⟩
theorem Zg9:FnScope ["self","word"] ["self","word"] (defScope Zcd):=⟨rfl,rfl,rfl,by decide +kernel,rfl,by decide +kernel,by decide +kernel⟩
theorem Zf2:FnScope ["self","letters"] ["self","letters"] (defScope Zbu):=⟨rfl,rfl,rfl,by decide +kernel,rfl,by decide +kernel,by decide +kernel⟩
theorem Zf3:FnScope ["self","many"] ["self","many"] (defScope Zbv):=⟨rfl,rfl,rfl,by decide +kernel,rfl,by decide +kernel,by decide +kernel⟩
theorem ZfY:FnScope ["self","number"] ["self","number"] (defScope Zbi):=⟨rfl,rfl,rfl,by decide +kernel,rfl,by decide +kernel,by decide +kernel⟩
theorem ZgD:FnScope ["self","name"] ["self","name"] (defScope ZbI):=⟨rfl,rfl,rfl,by decide +kernel,rfl,by decide +kernel,by decide +kernel⟩
structure Txt (K:Frag) (mg:Str→Option Value) (w:World) where
  di_NotOn:FuncData
  xf_NotOn:ExF K mg "NotOn" "word" (He.ga K "NotOn") (He.ma K (He.ga K "NotOn") "__init__") di_NotOn ["self","word"]
  fi_NotOn:FunD K "__init__" "NotOn.__init__" (defArgs Zcd) (defBody Zcd) (defScope Zcd) [] [] (He.ma K (He.ga K "NotOn") "__init__") di_NotOn
  di_TooLong:FuncData
  xf_TooLong:ExF K mg "TooLong" "letters" (He.ga K "TooLong") (He.ma K (He.ga K "TooLong") "__init__") di_TooLong ["self","letters"]
  fi_TooLong:FunD K "__init__" "TooLong.__init__" (defArgs Zbu) (defBody Zbu) (defScope Zbu) [] [] (He.ma K (He.ga K "TooLong") "__init__") di_TooLong
  di_TooMany:FuncData
  xf_TooMany:ExF K mg "TooMany" "many" (He.ga K "TooMany") (He.ma K (He.ga K "TooMany") "__init__") di_TooMany ["self","many"]
  fi_TooMany:FunD K "__init__" "TooMany.__init__" (defArgs Zbv) (defBody Zbv) (defScope Zbv) [] [] (He.ma K (He.ga K "TooMany") "__init__") di_TooMany
  di_NoNumber:FuncData
  xf_NoNumber:ExF K mg "NoNumber" "number" (He.ga K "NoNumber") (He.ma K (He.ga K "NoNumber") "__init__") di_NoNumber ["self","number"]
  fi_NoNumber:FunD K "__init__" "NoNumber.__init__" (defArgs Zbi) (defBody Zbi) (defScope Zbi) [] [] (He.ma K (He.ga K "NoNumber") "__init__") di_NoNumber
  di_NoName:FuncData
  xf_NoName:ExF K mg "NoName" "name" (He.ga K "NoName") (He.ma K (He.ga K "NoName") "__init__") di_NoName ["self","name"]
  fi_NoName:FunD K "__init__" "NoName.__init__" (defArgs ZbI) (defBody ZbI) (defScope ZbI) [] [] (He.ma K (He.ga K "NoName") "__init__") di_NoName
  xn_BendError:ExN K mg "BendError" (He.ga K "BendError")
  xn_NoWord:ExN K mg "NoWord" (He.ga K "NoWord")
  xn_NoText:ExN K mg "NoText" (He.ga K "NoText")
  xn_NoFraction:ExN K mg "NoFraction" (He.ga K "NoFraction")
  xn_NoPrice:ExN K mg "NoPrice" (He.ga K "NoPrice")
  xn_NoPoint:ExN K mg "NoPoint" (He.ga K "NoPoint")
  xn_NotLeast:ExN K mg "NotLeast" (He.ga K "NotLeast")
  xn_NoLine:ExN K mg "NoLine" (He.ga K "NoLine")
  xn_NothingDone:ExN K mg "NothingDone" (He.ga K "NothingDone")
  xb:ExB K mg "BendError" (He.ga K "BendError")
  xm_BendError:ExM K mg [0,1,2,3,4,5,6,7,8,9,10,11,12,13] [0,1,2,3,4,5,6,7,8,9,10,11,12,13] "BendError" (He.ga K "BendError")
  xk_NoFraction:ExK K mg [0,1,2,3,4,5,6,7,8,9,10,11,12,13] [3] "NoFraction" (He.ga K "NoFraction")
  xk_NoLine:ExK K mg [0,1,2,3,4,5,6,7,8,9,10,11,12,13] [7] "NoLine" (He.ga K "NoLine")
  xk_NoName:ExK K mg [0,1,2,3,4,5,6,7,8,9,10,11,12,13] [13] "NoName" (He.ga K "NoName")
  xk_NoNumber:ExK K mg [0,1,2,3,4,5,6,7,8,9,10,11,12,13] [12] "NoNumber" (He.ga K "NoNumber")
  xk_NoPoint:ExK K mg [0,1,2,3,4,5,6,7,8,9,10,11,12,13] [5] "NoPoint" (He.ga K "NoPoint")
  xk_NoPrice:ExK K mg [0,1,2,3,4,5,6,7,8,9,10,11,12,13] [4] "NoPrice" (He.ga K "NoPrice")
  xk_NoText:ExK K mg [0,1,2,3,4,5,6,7,8,9,10,11,12,13] [2] "NoText" (He.ga K "NoText")
  xk_NoWord:ExK K mg [0,1,2,3,4,5,6,7,8,9,10,11,12,13] [1] "NoWord" (He.ga K "NoWord")
  xk_NotLeast:ExK K mg [0,1,2,3,4,5,6,7,8,9,10,11,12,13] [6] "NotLeast" (He.ga K "NotLeast")
  xk_NotOn:ExK K mg [0,1,2,3,4,5,6,7,8,9,10,11,12,13] [9] "NotOn" (He.ga K "NotOn")
  xk_NothingDone:ExK K mg [0,1,2,3,4,5,6,7,8,9,10,11,12,13] [8] "NothingDone" (He.ga K "NothingDone")
  xk_TooLong:ExK K mg [0,1,2,3,4,5,6,7,8,9,10,11,12,13] [10] "TooLong" (He.ga K "TooLong")
  xk_TooMany:ExK K mg [0,1,2,3,4,5,6,7,8,9,10,11,12,13] [11] "TooMany" (He.ga K "TooMany")
  xk_ValueError:∀ n∈([0,1,2,3,4,5,6,7,8,9,10,11,12,13]:List Nat),∃ D,(exT K).cl n = .ref D∧L2.ExcC K D∧PySem.W.kitOne K (.ref D) (.type "ValueError")=some (([0,1,2,3,4,5,6,7,8,9,10,11,12,13]:List Nat).contains n)
  xr_NoName:ExR K "name" (He.ga K "NoName")
  xr_NoNumber:ExR K "number" (He.ga K "NoNumber")
  xr_NotOn:ExR K "word" (He.ga K "NotOn")
  xr_TooLong:ExR K "letters" (He.ga K "TooLong")
  xr_TooMany:ExR K "many" (He.ga K "TooMany")
  a__law_start:Addr
  d__law_start:FuncData
  c__law_start:Cal K mg "_law_start" ZbF ["_law_script"] a__law_start d__law_start
  a__law_mix:Addr
  d__law_mix:FuncData
  c__law_mix:Cal K mg "_law_mix" Zcs ["_law_state"] a__law_mix d__law_mix
  a__law_draw:Addr
  d__law_draw:FuncData
  c__law_draw:Cal K mg "_law_draw" Zb4 ["_law_state","_law_many"] a__law_draw d__law_draw
  a__law_same:Addr
  d__law_same:FuncData
  c__law_same:Cal K mg "_law_same" Zb5 ["_law_found","_law_due"] a__law_same d__law_same
  a__law_raised:Addr
  d__law_raised:FuncData
  c__law_raised:Cal K mg "_law_raised" Zbx ["_law_pick","_law_text","_law_number"] a__law_raised d__law_raised
  a__law_kinds:Addr
  d__law_kinds:FuncData
  c__law_kinds:Cal K mg "_law_kinds" ZbG ["_law_e"] a__law_kinds d__law_kinds
  a__law_field:Addr
  d__law_field:FuncData
  c__law_field:Cal K mg "_law_field" ZbH ["_law_e","_law_pick"] a__law_field d__law_field
  a__law_caught:Addr
  d__law_caught:FuncData
  c__law_caught:Cal K mg "_law_caught" Zby ["_law_pick","_law_text","_law_number"] a__law_caught d__law_caught
  a__law_only:Addr
  d__law_only:FuncData
  c__law_only:Cal K mg "_law_only" Zb6 ["_law_word"] a__law_only d__law_only
  z_ValueError:mg "ValueError" = none
  z_all:mg "all" = none
  z_bool:mg "bool" = none
  z_enumerate:mg "enumerate" = none
  z_int:mg "int" = none
  z_isinstance:mg "isinstance" = none
  z_len:mg "len" = none
  z_range:mg "range" = none
  z_str:mg "str" = none
  z_tuple:mg "tuple" = none
  z_zip:mg "zip" = none
section
variable {P:Program} {w:World} {K:Frag} {mg:Str→Option Value} {base:Heap}
abbrev xa0:Addr×Value×Option Addr:=(0,.none,none)
theorem Zha (T:Txt K mg w):FnOk P w K mg base CX0 1 (He.ma K (He.ga K "NotOn") "__init__") T.di_NotOn ["self","word"] (spInit (He.ga K "NotOn") "word"):=by
  refine (Ze3 T.fi_NotOn).ok Zg9 (fun vs H Q E h => ?_) (fun cdv A outer s H vs Q E hr h => ?_)
  · obtain ⟨a,v,rfl,_⟩:=h
    rfl
  · obtain ⟨a,v,rfl,ha,q⟩:=h
    refine ⟨_,pss_cons (ps_expr (Zc3 T.xb (by rfl) (pa_cons (pv 0) (pa_cons pe_str pa_nil)))) (pss_one (ps_ost (pv 0) (pv 1))),?_⟩
    exact ⟨.ref a,rfl,a,_,[.str "not on this word"],rfl,(by show 1≤1000; decide),T.xf_NotOn.o,ha,v,rfl,.ref a,rfl,a,_,rfl,T.xf_NotOn.o,T.xf_NotOn.no,.inl ⟨ha,fun d hd hda=>q d hd hda⟩⟩
theorem Zf4 (T:Txt K mg w):FnOk P w K mg base CX0 1 (He.ma K (He.ga K "TooLong") "__init__") T.di_TooLong ["self","letters"] (spInit (He.ga K "TooLong") "letters"):=by
  refine (Ze3 T.fi_TooLong).ok Zf2 (fun vs H Q E h => ?_) (fun cdv A outer s H vs Q E hr h => ?_)
  · obtain ⟨a,v,rfl,_⟩:=h
    rfl
  · obtain ⟨a,v,rfl,ha,q⟩:=h
    refine ⟨_,pss_cons (ps_expr (Zc3 T.xb (by rfl) (pa_cons (pv 0) (pa_cons pe_str pa_nil)))) (pss_one (ps_ost (pv 0) (pv 1))),?_⟩
    exact ⟨.ref a,rfl,a,_,[.str "too many letters"],rfl,(by show 1≤1000; decide),T.xf_TooLong.o,ha,v,rfl,.ref a,rfl,a,_,rfl,T.xf_TooLong.o,T.xf_TooLong.no,.inl ⟨ha,fun d hd hda=>q d hd hda⟩⟩
theorem Zf5 (T:Txt K mg w):FnOk P w K mg base CX0 1 (He.ma K (He.ga K "TooMany") "__init__") T.di_TooMany ["self","many"] (spInit (He.ga K "TooMany") "many"):=by
  refine (Ze3 T.fi_TooMany).ok Zf3 (fun vs H Q E h => ?_) (fun cdv A outer s H vs Q E hr h => ?_)
  · obtain ⟨a,v,rfl,_⟩:=h
    rfl
  · obtain ⟨a,v,rfl,ha,q⟩:=h
    refine ⟨_,pss_cons (ps_expr (Zc3 T.xb (by rfl) (pa_cons (pv 0) (pa_cons pe_str pa_nil)))) (pss_one (ps_ost (pv 0) (pv 1))),?_⟩
    exact ⟨.ref a,rfl,a,_,[.str "too many scripts"],rfl,(by show 1≤1000; decide),T.xf_TooMany.o,ha,v,rfl,.ref a,rfl,a,_,rfl,T.xf_TooMany.o,T.xf_TooMany.no,.inl ⟨ha,fun d hd hda=>q d hd hda⟩⟩
theorem ZfZ (T:Txt K mg w):FnOk P w K mg base CX0 1 (He.ma K (He.ga K "NoNumber") "__init__") T.di_NoNumber ["self","number"] (spInit (He.ga K "NoNumber") "number"):=by
  refine (Ze3 T.fi_NoNumber).ok ZfY (fun vs H Q E h => ?_) (fun cdv A outer s H vs Q E hr h => ?_)
  · obtain ⟨a,v,rfl,_⟩:=h
    rfl
  · obtain ⟨a,v,rfl,ha,q⟩:=h
    refine ⟨_,pss_cons (ps_expr (Zc3 T.xb (by rfl) (pa_cons (pv 0) (pa_cons pe_str pa_nil)))) (pss_one (ps_ost (pv 0) (pv 1))),?_⟩
    exact ⟨.ref a,rfl,a,_,[.str "no such number"],rfl,(by show 1≤1000; decide),T.xf_NoNumber.o,ha,v,rfl,.ref a,rfl,a,_,rfl,T.xf_NoNumber.o,T.xf_NoNumber.no,.inl ⟨ha,fun d hd hda=>q d hd hda⟩⟩
theorem ZgE (T:Txt K mg w):FnOk P w K mg base CX0 1 (He.ma K (He.ga K "NoName") "__init__") T.di_NoName ["self","name"] (spInit (He.ga K "NoName") "name"):=by
  refine (Ze3 T.fi_NoName).ok ZgD (fun vs H Q E h => ?_) (fun cdv A outer s H vs Q E hr h => ?_)
  · obtain ⟨a,v,rfl,_⟩:=h
    rfl
  · obtain ⟨a,v,rfl,ha,q⟩:=h
    refine ⟨_,pss_cons (ps_expr (Zc3 T.xb (by rfl) (pa_cons (pv 0) (pa_cons pe_str pa_nil)))) (pss_one (ps_ost (pv 0) (pv 1))),?_⟩
    exact ⟨.ref a,rfl,a,_,[.str "no such name"],rfl,(by show 1≤1000; decide),T.xf_NoName.o,ha,v,rfl,.ref a,rfl,a,_,rfl,T.xf_NoName.o,T.xf_NoName.no,.inl ⟨ha,fun d hd hda=>q d hd hda⟩⟩
theorem Zfz (T:Txt K mg w):FnOk P w K mg base CX0 1 T.a__law_start T.d__law_start ["_law_script"] (spStart K):=by
  refine T.c__law_start.F.fun.ok ZbC (fun vs H Q E h => ?_) (fun cdv A outer s H vs Q E hr h => ?_)
  · obtain ⟨a,ns,rfl,_⟩:=h
    rfl
  · obtain ⟨a,ns,rfl,hS,hl,q⟩:=h
    refine ⟨_,pss_cons (ps_setLc (i:=1) (own:=[("_law_cell",2)]) (g:=gName 2) rfl ZbC.nd rfl rfl (sw_true rfl rfl rfl (by decide +kernel)) (pi_list (pv 0)) (blkOk_by (own:=[("_law_cell",2)]) (by rfl)) (fun _ _ _ _ _=>pg_name (i:=2) ZbC.nd rfl (Or.inl rfl)) (fun _ _ _ _ _=>pts_one (pt_cmpR Zjo (pv 2) (pe_op op_pow pe_int pe_int) (nomark _))) (fun _ _ _ _ _=>pv 2))
      (pss_one (ps_ret (pe_lst (pa_cons (pv 1) (pa_cons pe_int (pa_cons (pe_lc (own:=[("_law_cell",2)]) (g:=gName 2) (tt:=tYes) rfl ZbC.nd (pi_list (pv 0)) (blkOk_by (own:=[("_law_cell",2)]) (by rfl)) (fun _ _ _ _ _=>pg_name (i:=2) ZbC.nd rfl (Or.inl rfl)) (fun _ _ _ _ _=>pts_nil) (fun _ _ _ _ _=>pe_op op_mod (pv 2) pe_int)) (pa_cons pe_int pa_nil))))))),?_⟩
    refine ⟨_,rfl,a,rfl,⟨_,hS⟩,fun g hg=>Zhh (by exact (by decide:2 < 3)) hg hS hl ?_⟩
    have hS2:SqL K (upd H g (.lst ((ns.filter fun x=>decide (10 ^ 18≤x)).map V.int))) a (ns.map V.int):=Same.seq (Zhj hg) hS
    refine ⟨_,rfl,_,rfl,a,rfl,⟨_,hS2⟩,fun c hc=>Zhi (by exact (by decide:2 < 3)) hc hS2 hl ?_⟩
    refine ⟨(by show 4≤sizeLine; rw [sizeLine_eq]; decide),fun p hp => ?_⟩
    obtain ⟨k1,k2,k3,k4,k5,k6,k7⟩:=Zia hg hc hp
    exact q (p,g,c) _ _ k1 k2 k3 k4 k5 k6 k7
theorem Zf6 (T:Txt K mg w):FnOk P w K mg base CX0 1 T.a__law_mix T.d__law_mix ["_law_state"] (spOf K lsG 1 (ZdY)):=
  ZdC (Tx:=exT K) (xa:=xa0) (Ze8) 4 1 T.c__law_mix.F Zb7 rfl rfl (by decide) fun i cdv A outer s H E hr=>(Zag (Zh9 0 rfl)
    (Zag (Zaw (i:=1) Zb7.nd rfl (by first | exact Or.inl rfl | exact Or.inr rfl) (ZiQ 0 rfl))
    (Zag (Zaw (i:=2) Zb7.nd rfl (by first | exact Or.inl rfl | exact Or.inr rfl) Zaj)
    (Zag (ZaA (Zh5 0 rfl) (Zak (Zaw (i:=2) Zb7.nd rfl (by first | exact Or.inl rfl | exact Or.inr rfl) (ZiR 0 rfl (Zay op_mod Zd6 (Zac 1) (Zh6 0 rfl (by rfl) T.z_len)) (fun _ _=>rfl)))) Zar)
    (Zag (Zaw (i:=3) Zb7.nd rfl (by first | exact Or.inl rfl | exact Or.inr rfl) (Zay op_mod Zd6 (Zay op_pow ZgK (Zay (ZaW rfl) ZaV (Zay (ZaW rfl) ZaV (Zay (ZaW rfl) ZaV (Zac 2) (Zay op_mulW Zcr (Zay op_mulW Zcr Zaj (Zac 1)) (Zac 1))) (Zay op_mulW Zcr Zaj (Zac 1))) Zaj) Zaj) Zaj))
    (Zak (ZaK (Zay op_mod Zd6 (Zay (ZaW rfl) ZaV (Zay op_mulW Zcr (Zac 3) Zaj) (Zay op_mulW Zcr Zaj (Zac 1))) Zaj))))))))
theorem ZbU (T:Txt K mg w):FnOk P w K mg base CX0 2 T.a__law_draw T.d__law_draw ["_law_state","_law_many"] (spOf K lsG 2 (Zas)):=
  ZdC (Tx:=exT K) (xa:=xa0) (ZeC) 4 2 T.c__law_draw.F Zbo rfl rfl (by decide) fun i cdv A outer s H E hr=>(Zag (ZaA (PW.pt (ZiI (Zaz (ZaN rfl hr.units) ZaM (Zew 0 rfl) Zaj (ZaQ _)) (ZhS (Zh4 0 rfl)))) (Zak (Zh8 0 rfl)) Zar)
    (Zag (ZaA (Zaz Zjn Zjq (Zew 0 rfl) Zaj (ZjB _)) (Zag (Zaw (i:=2) Zbo.nd rfl (by first | exact Or.inl rfl | exact Or.inr rfl) (Zay op_mod Zd6 (Zew 0 rfl) (Zac 1)))
    (Zag (Zgy 0 rfl (Zay op_fdivW ZiD (Zew 0 rfl) (Zac 1)))
    (Zak (ZaK (Zac 2))))) Zar)
    (Zag (Zaw (i:=2) Zbo.nd rfl (by first | exact Or.inl rfl | exact Or.inr rfl) Zaj)
    (Zag (Zaw (i:=3) Zbo.nd rfl (by first | exact Or.inl rfl | exact Or.inr rfl) Zaj)
    (Zag (Zhc 100 PassesOwn.never (Zaz Zjm Zjp (Zac 3) (Zac 1) (ZjA _)) (Zag (Zaw (i:=2) Zbo.nd rfl (by first | exact Or.inl rfl | exact Or.inr rfl) (Zay (ZaW rfl) ZaV (Zay op_mulW Zcr (Zac 2) Zaj) (Zbl (F:=ZdY) (Zf6 T) (hr.mono (by decide)) (by rfl) T.c__law_mix.g T.c__law_mix.F.kp T.c__law_mix.b (Zaf (Zac 0) Zaq) (Zav Za8))))
    (Zak (Zaw (i:=3) Zbo.nd rfl (by first | exact Or.inl rfl | exact Or.inr rfl) (Zay op_mulW Zcr (Zac 3) Zaj)))))
    (Zak (ZaK (Zay op_mod Zd6 (Zac 2) (Zac 1)))))))))
theorem Zer (T:Txt K mg w):∀ n:Nat,FnOk P w K mg base CX0 (1 + n) T.a__law_same T.d__law_same ["_law_found","_law_due"] (spOf K lsG 2 (ZaJ n))
  | 0=>⟨fun vs H Q E h=>by obtain ⟨i,S,ds,g,hl,_⟩:=h; exact hl,fun A outer s H args us vs Q E hr e0 hb hv h=>by
    obtain ⟨i,S,ds,g,hl,_,_,_,_,z⟩:=h
    exact z.elim⟩
  | n + 1=>by
    have G:=Zer T n
    exact ZdC (Tx:=exT K) (xa:=xa0) (k:=1 + n) (ZdA (ZaJ n)) 4 2 T.c__law_same.F Zcv rfl rfl (by decide) fun i cdv A outer s H E hr=>by
      have F:=ZaJ n
      exact PSs.nox ((Zag (ZaA (Ze0 (Zc2 .tuple rfl (by rfl) T.z_isinstance (by rfl) T.z_tuple (by decide +kernel) (Zac 1))) (Zag (ZaA (PW.pt (Zjw (ZgN (Ze0 (Zc2 .tuple rfl (by rfl) T.z_isinstance (by rfl) T.z_tuple (by decide +kernel) (Zac 0)))) (ZiH (Zaz (Zjs rfl hr.units) Zjr (Zgu (ZgM rfl) ZgL (by rfl) T.z_len (by decide +kernel) (Zaf (Zac 0) Zaq)) (Zgu (ZgM rfl) ZgL (by rfl) T.z_len (by decide +kernel) (Zaf (Zac 1) Zaq)) (Zhf _))))) (Zak (ZaK ZfB)) Zar)
    (Zak (ZaK (Zgu (ZiF rfl rfl) ZiE (by rfl) T.z_all (by decide +kernel) (Zaf (Zgx (own:=[("_law_one",2),("_law_other",3)]) rfl Zcv.nd (ZiN rfl (by rfl) T.z_zip (Zac 0) (Zac 1)) (blkOk_by (own:=[("_law_one",2),("_law_other",3)]) (by rfl)) (fun _ _ _ _ _=>(pg_tup rfl (pgs_cons (pg_name (i:=2) Zcv.nd rfl (by first | exact Or.inl rfl | exact Or.inr rfl)) (pgs_cons (pg_name (i:=3) Zcv.nd rfl (by first | exact Or.inl rfl | exact Or.inr rfl)) pgs_nil)))) (ZgP rfl rfl (TgL.cons (TgL.cons TgL.nil))) (by decide) (fun _ _ _ _ _=>Zfm) (fun _ _ _ _ _=>(Zbl (F:=ZaJ n) (G) (hr.mono (by omega)) (by rfl) T.c__law_same.g T.c__law_same.F.kp T.c__law_same.b (Zaf (Zac 2) (Zaf (Zac 3) Zaq)) (Zav (Zav Za8))))) Zaq))))) Zar)
    (Zag (ZaA (Zh1 (Zac 1)) (Zak (ZaK (ZiP (Zac 0)))) Zar)
    (Zag (ZaA (Ze0 (Zc2 .str rfl (by rfl) T.z_isinstance (by rfl) T.z_str (by decide +kernel) (Zac 1))) (Zak (ZaK (Zev (Zc2 .str rfl (by rfl) T.z_isinstance (by rfl) T.z_str (by decide +kernel) (Zac 0)) (ZfJ (Zd3 (ZaN rfl hr.units) ZaM (Zac 0) (Zac 1) (ZaQ _)))))) Zar)
    (Zak (ZaK (Zev (Zc2 .int rfl (by rfl) T.z_isinstance (by rfl) T.z_int (by decide +kernel) (Zac 0)) (Zev (Zd3 (ZaN rfl hr.units) ZaM (Zc2 .bool rfl (by rfl) T.z_isinstance (by rfl) T.z_bool (by decide +kernel) (Zac 0)) (Zc2 .bool rfl (by rfl) T.z_isinstance (by rfl) T.z_bool (by decide +kernel) (Zac 1)) (ZaQ _)) (ZfJ (Zd3 (ZaN rfl hr.units) ZaM (Zac 0) (Zac 1) (ZaQ _)))))))))))
theorem ZeR (T:Txt K mg w):FnOk P w K mg base (L2N.CX P w) 3 T.a__law_raised T.d__law_raised ["_law_pick","_law_text","_law_number"] (spOfX K (exT K) lsG 3 (Zcu)):=
  ZiU (Tx:=exT K) (xa:=xa0) (Zdz) 3 3 T.c__law_raised.F Zfq rfl rfl (by decide) fun i cdv A outer s H E hr tk po=>(Zag (ZaA (Zaz (ZaN rfl hr.units) ZaM (Zac 0) Zaj (ZaQ _)) (Zak (Zbp (n:=1) T.xn_NoWord rfl rfl tk (by rfl) (Zac 1))) Zar)
    (Zag (ZaA (Zaz (ZaN rfl hr.units) ZaM (Zac 0) Zaj (ZaQ _)) (Zak (Zbp (n:=2) T.xn_NoText rfl rfl tk (by rfl) (Zac 1))) Zar)
    (Zag (ZaA (Zaz (ZaN rfl hr.units) ZaM (Zac 0) Zaj (ZaQ _)) (Zak (Zbp (n:=3) T.xn_NoFraction rfl rfl tk (by rfl) (Zac 1))) Zar)
    (Zag (ZaA (Zaz (ZaN rfl hr.units) ZaM (Zac 0) Zaj (ZaQ _)) (Zak (Zbp (n:=4) T.xn_NoPrice rfl rfl tk (by rfl) (Zac 1))) Zar)
    (Zag (ZaA (Zaz (ZaN rfl hr.units) ZaM (Zac 0) Zaj (ZaQ _)) (Zak (Zbp (n:=5) T.xn_NoPoint rfl rfl tk (by rfl) (Zac 1))) Zar)
    (Zag (ZaA (Zaz (ZaN rfl hr.units) ZaM (Zac 0) Zaj (ZaQ _)) (Zak (Zbp (n:=6) T.xn_NotLeast rfl rfl tk (by rfl) (Zac 1))) Zar)
    (Zag (ZaA (Zaz (ZaN rfl hr.units) ZaM (Zac 0) Zaj (ZaQ _)) (Zak (Zbp (n:=7) T.xn_NoLine rfl rfl tk (by rfl) (Zac 1))) Zar)
    (Zag (ZaA (Zaz (ZaN rfl hr.units) ZaM (Zac 0) Zaj (ZaQ _)) (Zak (Zbp (n:=8) T.xn_NothingDone rfl rfl tk (by rfl) (Zac 1))) Zar)
    (Zag (ZaA (Zaz (ZaN rfl hr.units) ZaM (Zac 0) Zaj (ZaQ _)) (Zak (ZcB (n:=9) T.xf_NotOn rfl rfl (Zha T) (hr.mono (by decide)) rfl tk (by rfl) (Zac 1))) Zar)
    (Zag (ZaA (Zaz (ZaN rfl hr.units) ZaM (Zac 0) Zaj (ZaQ _)) (Zak (ZcB (n:=10) T.xf_TooLong rfl rfl (Zf4 T) (hr.mono (by decide)) rfl tk (by rfl) (Zac 2))) Zar)
    (Zag (ZaA (Zaz (ZaN rfl hr.units) ZaM (Zac 0) Zaj (ZaQ _)) (Zak (ZcB (n:=11) T.xf_TooMany rfl rfl (Zf5 T) (hr.mono (by decide)) rfl tk (by rfl) (Zac 2))) Zar)
    (Zag (ZaA (Zaz (ZaN rfl hr.units) ZaM (Zac 0) Zaj (ZaQ _)) (Zak (ZcB (n:=12) T.xf_NoNumber rfl rfl (ZfZ T) (hr.mono (by decide)) rfl tk (by rfl) (Zac 2))) Zar)
    (Zak (ZaA (Zaz (ZaN rfl hr.units) ZaM (Zac 0) Zaj (ZaQ _)) (Zak (ZcB (n:=13) T.xf_NoName rfl rfl (ZgE T) (hr.mono (by decide)) rfl tk (by rfl) (Zac 1))) Zar))))))))))))))
theorem Zfa (T:Txt K mg w):FnK P w K mg base (exT K) lsG 1 T.a__law_kinds T.d__law_kinds ["_law_e"] (ZdI):=
  ZiV (Tx:=exT K) (ZdH) 1 T.c__law_kinds.F.fun ZaH rfl fun i cdv A outer s H a ox c dd hr hot hz hf=>(Zag (Zaw (i:=1) ZaH.nd rfl (by first | exact Or.inl rfl | exact Or.inr rfl) (Zbw (Zaf (Zba (i:=0) (al:=[0,1,2,3,4,5,6,7,8,9,10,11,12,13]) (cs:=[1]) rfl List.mem_cons_self hz hf rfl (by rfl) T.z_isinstance (ZaC T.xk_NoWord.g (by rfl)) (fun _ r=>r) T.xk_NoWord.k) (Zaf (Zba (i:=0) (al:=[0,1,2,3,4,5,6,7,8,9,10,11,12,13]) (cs:=[2]) rfl List.mem_cons_self hz hf rfl (by rfl) T.z_isinstance (ZaC T.xk_NoText.g (by rfl)) (fun _ r=>r) T.xk_NoText.k) (Zaf (Zba (i:=0) (al:=[0,1,2,3,4,5,6,7,8,9,10,11,12,13]) (cs:=[3]) rfl List.mem_cons_self hz hf rfl (by rfl) T.z_isinstance (ZaC T.xk_NoFraction.g (by rfl)) (fun _ r=>r) T.xk_NoFraction.k) (Zaf (Zba (i:=0) (al:=[0,1,2,3,4,5,6,7,8,9,10,11,12,13]) (cs:=[4]) rfl List.mem_cons_self hz hf rfl (by rfl) T.z_isinstance (ZaC T.xk_NoPrice.g (by rfl)) (fun _ r=>r) T.xk_NoPrice.k) Zaq))))))
    (Zag (Zaw (i:=1) ZaH.nd rfl (by first | exact Or.inl rfl | exact Or.inr rfl) (Zay (ZaW rfl) ZaV (Zac 1) (Zbw (Zaf (Zba (i:=0) (al:=[0,1,2,3,4,5,6,7,8,9,10,11,12,13]) (cs:=[5]) rfl List.mem_cons_self hz hf rfl (by rfl) T.z_isinstance (ZaC T.xk_NoPoint.g (by rfl)) (fun _ r=>r) T.xk_NoPoint.k) (Zaf (Zba (i:=0) (al:=[0,1,2,3,4,5,6,7,8,9,10,11,12,13]) (cs:=[6]) rfl List.mem_cons_self hz hf rfl (by rfl) T.z_isinstance (ZaC T.xk_NotLeast.g (by rfl)) (fun _ r=>r) T.xk_NotLeast.k) (Zaf (Zba (i:=0) (al:=[0,1,2,3,4,5,6,7,8,9,10,11,12,13]) (cs:=[7]) rfl List.mem_cons_self hz hf rfl (by rfl) T.z_isinstance (ZaC T.xk_NoLine.g (by rfl)) (fun _ r=>r) T.xk_NoLine.k) Zaq))))))
    (Zag (Zaw (i:=1) ZaH.nd rfl (by first | exact Or.inl rfl | exact Or.inr rfl) (Zay (ZaW rfl) ZaV (Zac 1) (Zbw (Zaf (Zba (i:=0) (al:=[0,1,2,3,4,5,6,7,8,9,10,11,12,13]) (cs:=[8]) rfl List.mem_cons_self hz hf rfl (by rfl) T.z_isinstance (ZaC T.xk_NothingDone.g (by rfl)) (fun _ r=>r) T.xk_NothingDone.k) (Zaf (Zba (i:=0) (al:=[0,1,2,3,4,5,6,7,8,9,10,11,12,13]) (cs:=[9]) rfl List.mem_cons_self hz hf rfl (by rfl) T.z_isinstance (ZaC T.xk_NotOn.g (by rfl)) (fun _ r=>r) T.xk_NotOn.k) (Zaf (Zba (i:=0) (al:=[0,1,2,3,4,5,6,7,8,9,10,11,12,13]) (cs:=[10]) rfl List.mem_cons_self hz hf rfl (by rfl) T.z_isinstance (ZaC T.xk_TooLong.g (by rfl)) (fun _ r=>r) T.xk_TooLong.k) Zaq))))))
    (Zag (Zaw (i:=1) ZaH.nd rfl (by first | exact Or.inl rfl | exact Or.inr rfl) (Zay (ZaW rfl) ZaV (Zac 1) (Zbw (Zaf (Zba (i:=0) (al:=[0,1,2,3,4,5,6,7,8,9,10,11,12,13]) (cs:=[11]) rfl List.mem_cons_self hz hf rfl (by rfl) T.z_isinstance (ZaC T.xk_TooMany.g (by rfl)) (fun _ r=>r) T.xk_TooMany.k) (Zaf (Zba (i:=0) (al:=[0,1,2,3,4,5,6,7,8,9,10,11,12,13]) (cs:=[12]) rfl List.mem_cons_self hz hf rfl (by rfl) T.z_isinstance (ZaC T.xk_NoNumber.g (by rfl)) (fun _ r=>r) T.xk_NoNumber.k) (Zaf (Zba (i:=0) (al:=[0,1,2,3,4,5,6,7,8,9,10,11,12,13]) (cs:=[13]) rfl List.mem_cons_self hz hf rfl (by rfl) T.z_isinstance (ZaC T.xk_NoName.g (by rfl)) (fun _ r=>r) T.xk_NoName.k) Zaq))))))
    (Zak (ZaK (Zgv (ZeL rfl) ZeK (by rfl) T.z_tuple (by decide +kernel) (Zaf (Zay (ZaW rfl) ZaV (Zac 1) (Zbw (Zaf (Zba (i:=0) (al:=[0,1,2,3,4,5,6,7,8,9,10,11,12,13]) (cs:=[0,1,2,3,4,5,6,7,8,9,10,11,12,13]) rfl List.mem_cons_self hz hf rfl (by rfl) T.z_isinstance (pe_bltn (v:=.ty "ValueError") (by rfl) T.z_ValueError (by decide +kernel) rfl) (fun _ r=>r) T.xk_ValueError) Zaq))) Zaq))))))))
theorem Zfb (T:Txt K mg w):FnK2 P w K mg base (exT K) lsG 1 T.a__law_field T.d__law_field ["_law_e","_law_pick"] (ZdK):=
  Zik (Tx:=exT K) (ZdJ) 0 T.c__law_field.F.fun Zfy rfl fun i cdv A outer s H a ox c dd hr hot hz hf=>(Zag (ZaA (Zaz (ZaN rfl (roomU hr)) ZaM (Zac 1) Zaj (ZaQ _)) (Zak (ZaK (Zea (i:=0) (n:=9) hot.1 rfl rfl rfl T.xr_NotOn.x T.xr_NotOn.no rfl rfl rfl hz hf rfl))) Zar)
    (Zag (ZaA (Zaz (ZaN rfl (roomU hr)) ZaM (Zac 1) Zaj (ZaQ _)) (Zak (ZaK (Zea (i:=0) (n:=10) hot.1 rfl rfl rfl T.xr_TooLong.x T.xr_TooLong.no rfl rfl rfl hz hf rfl))) Zar)
    (Zag (ZaA (Zaz (ZaN rfl (roomU hr)) ZaM (Zac 1) Zaj (ZaQ _)) (Zak (ZaK (Zea (i:=0) (n:=11) hot.1 rfl rfl rfl T.xr_TooMany.x T.xr_TooMany.no rfl rfl rfl hz hf rfl))) Zar)
    (Zag (ZaA (Zaz (ZaN rfl (roomU hr)) ZaM (Zac 1) Zaj (ZaQ _)) (Zak (ZaK (Zea (i:=0) (n:=12) hot.1 rfl rfl rfl T.xr_NoNumber.x T.xr_NoNumber.no rfl rfl rfl hz hf rfl))) Zar)
    (Zag (ZaA (Zaz (ZaN rfl (roomU hr)) ZaM (Zac 1) Zaj (ZaQ _)) (Zak (ZaK (Zea (i:=0) (n:=13) hot.1 rfl rfl rfl T.xr_NoName.x T.xr_NoName.no rfl rfl rfl hz hf rfl))) Zar)
    (Zak (ZaK ZfI)))))))
theorem Zfr (T:Txt K mg w):FnOk P w K mg base CX0 4 T.a__law_caught T.d__law_caught ["_law_pick","_law_text","_law_number"] (spOf K lsG 3 (Za9)):=
  ZdC (Tx:=exT K) (xa:=xa0) (Zd2) 5 3 T.c__law_caught.F Zb0 rfl rfl (by decide) fun i cdv A outer s H E hr=>(Zag (Zaw (i:=3) Zb0.nd rfl (by first | exact Or.inl rfl | exact Or.inr rfl) ZfI)
    (Zag (Zii (i:=4) (al:=[0,1,2,3,4,5,6,7,8,9,10,11,12,13]) rfl rfl Zb0.nd rfl (by rfl) takesN0 (fun W1 pn xe tk po=>(Zhm (F:=Zcu) (ZeR T) tk (hr.mono (by decide)) (by rfl) T.c__law_raised.g T.c__law_raised.F.kp T.c__law_raised.b (Zaf (Zac 0) (Zaf (Zac 1) (Zaf (Zac 2) Zaq))) (Zav (Zav (Zav Za8))))) (Hds.cons (ZgU T.xm_BendError.g (by rfl)) T.xm_BendError.x (fun a ox cls dd pn hz hf=>(Zak (Zaw (i:=3) Zb0.nd rfl (by first | exact Or.inl rfl | exact Or.inr rfl) (ZeZ (Zaf (Zhp (i:=4) (Zfa T) rfl rfl hz hf (hr.mono (by decide)) (by rfl) T.c__law_kinds.g T.c__law_kinds.F.kp T.c__law_kinds.b rfl) (Zaf (Zg0 (i:=4) (j:=0) (Zfb T) rfl rfl hz hf (hr.mono (by decide)) (by rfl) T.c__law_field.g T.c__law_field.F.kp T.c__law_field.b rfl rfl) Zaq)))))) Hds.nil))
    (Zak (ZaK (Zac 3)))))
theorem Zf0 (T:Txt K mg w):FnOk P w K mg base CX0 1 T.a__law_only T.d__law_only ["_law_word"] (spOf K lsG 1 (Zbj)):=
  ZdC (Tx:=exT K) (xa:=xa0) (ZeD) 3 1 T.c__law_only.F ZbT rfl rfl (by decide) fun i cdv A outer s H E hr=>(Zag (Zaw (i:=1) ZbT.nd rfl (by first | exact Or.inl rfl | exact Or.inr rfl) (ZcA [78,111,87,111,114,100,32,78,111,84,101,120,116,32,78,111,70,114,97,99,116,105,111,110,32,78,111,80,114,105,99,101,32,78,111,80,111,105,110,116,32,78,111,116,76,101,97,115,116,32,78,111,76,105,110,101,32,78,111,116,104,105,110,103,68,111,110,101,32,78,111,116,79,110,32,84,111,111,76,111,110,103,32,84,111,111,77,97,110,121]))
    (Zag (Zaw (i:=1) ZbT.nd rfl (by first | exact Or.inl rfl | exact Or.inr rfl) (Zay (ZaW rfl) ZaV (Zac 1) (ZcA [32,78,111,78,117,109,98,101,114,32,78,111,78,97,109,101])))
    (Zak (ZaK (Zgv (ZeL rfl) ZeK (by rfl) T.z_tuple (by decide +kernel) (Zaf (Zay (ZaW rfl) ZaV (Zgx (own:=[("_law_one",2)]) rfl ZbT.nd (Zhb rfl (ZfQ (Zac 1) (ZcA [32]))) (blkOk_by (own:=[("_law_one",2)]) (by rfl)) (fun _ _ _ _ _=>(pg_name (i:=2) ZbT.nd rfl (by first | exact Or.inl rfl | exact Or.inr rfl))) (Zf9 2) (by decide) (fun _ _ _ _ _=>Zfm) (fun _ _ _ _ _=>(Zd3 (ZaN rfl hr.units) ZaM (Zac 2) (Zac 0) (ZaQ _)))) (Zbw (Zaf ZfB Zaq))) Zaq))))))
theorem Zfc (T:Txt K mg w):FnOk P w K mg base CX0 1 T.a__law_kinds T.d__law_kinds ["_law_e"] (spOf K (exF (He.ga K "BendError") lsG) 1 ZaF):=
  ZdC (Tx:=exT K) (xa:=xa0) Zbn 2 1 T.c__law_kinds.F ZaH rfl rfl (by decide) fun i cdv A outer s H E hr=>(show PSs _ _ (RS (exB (LB K (exT K) i.1 xa0) (He.ga K "BendError") i.2) _ Zbn) from (Zag (Zaw (i:=1) ZaH.nd rfl (by first | exact Or.inl rfl | exact Or.inr rfl) (Zbw (Zaf (Za4 (i:=0) (cs:=[1]) rfl (by rfl) T.z_isinstance (ZaC T.xk_NoWord.g (by rfl)) (fun _ r=>r) rfl (T.xk_NoWord.k 0 (by decide)) rfl) (Zaf (Za4 (i:=0) (cs:=[2]) rfl (by rfl) T.z_isinstance (ZaC T.xk_NoText.g (by rfl)) (fun _ r=>r) rfl (T.xk_NoText.k 0 (by decide)) rfl) (Zaf (Za4 (i:=0) (cs:=[3]) rfl (by rfl) T.z_isinstance (ZaC T.xk_NoFraction.g (by rfl)) (fun _ r=>r) rfl (T.xk_NoFraction.k 0 (by decide)) rfl) (Zaf (Za4 (i:=0) (cs:=[4]) rfl (by rfl) T.z_isinstance (ZaC T.xk_NoPrice.g (by rfl)) (fun _ r=>r) rfl (T.xk_NoPrice.k 0 (by decide)) rfl) Zaq))))))
    (Zag (Zaw (i:=1) ZaH.nd rfl (by first | exact Or.inl rfl | exact Or.inr rfl) (Zay (ZaW rfl) ZaV (Zac 1) (Zbw (Zaf (Za4 (i:=0) (cs:=[5]) rfl (by rfl) T.z_isinstance (ZaC T.xk_NoPoint.g (by rfl)) (fun _ r=>r) rfl (T.xk_NoPoint.k 0 (by decide)) rfl) (Zaf (Za4 (i:=0) (cs:=[6]) rfl (by rfl) T.z_isinstance (ZaC T.xk_NotLeast.g (by rfl)) (fun _ r=>r) rfl (T.xk_NotLeast.k 0 (by decide)) rfl) (Zaf (Za4 (i:=0) (cs:=[7]) rfl (by rfl) T.z_isinstance (ZaC T.xk_NoLine.g (by rfl)) (fun _ r=>r) rfl (T.xk_NoLine.k 0 (by decide)) rfl) Zaq))))))
    (Zag (Zaw (i:=1) ZaH.nd rfl (by first | exact Or.inl rfl | exact Or.inr rfl) (Zay (ZaW rfl) ZaV (Zac 1) (Zbw (Zaf (Za4 (i:=0) (cs:=[8]) rfl (by rfl) T.z_isinstance (ZaC T.xk_NothingDone.g (by rfl)) (fun _ r=>r) rfl (T.xk_NothingDone.k 0 (by decide)) rfl) (Zaf (Za4 (i:=0) (cs:=[9]) rfl (by rfl) T.z_isinstance (ZaC T.xk_NotOn.g (by rfl)) (fun _ r=>r) rfl (T.xk_NotOn.k 0 (by decide)) rfl) (Zaf (Za4 (i:=0) (cs:=[10]) rfl (by rfl) T.z_isinstance (ZaC T.xk_TooLong.g (by rfl)) (fun _ r=>r) rfl (T.xk_TooLong.k 0 (by decide)) rfl) Zaq))))))
    (Zag (Zaw (i:=1) ZaH.nd rfl (by first | exact Or.inl rfl | exact Or.inr rfl) (Zay (ZaW rfl) ZaV (Zac 1) (Zbw (Zaf (Za4 (i:=0) (cs:=[11]) rfl (by rfl) T.z_isinstance (ZaC T.xk_TooMany.g (by rfl)) (fun _ r=>r) rfl (T.xk_TooMany.k 0 (by decide)) rfl) (Zaf (Za4 (i:=0) (cs:=[12]) rfl (by rfl) T.z_isinstance (ZaC T.xk_NoNumber.g (by rfl)) (fun _ r=>r) rfl (T.xk_NoNumber.k 0 (by decide)) rfl) (Zaf (Za4 (i:=0) (cs:=[13]) rfl (by rfl) T.z_isinstance (ZaC T.xk_NoName.g (by rfl)) (fun _ r=>r) rfl (T.xk_NoName.k 0 (by decide)) rfl) Zaq))))))
    (Zak (ZaK (Zgv (ZeL rfl) ZeK (by rfl) T.z_tuple (by decide +kernel) (Zaf (Zay (ZaW rfl) ZaV (Zac 1) (Zbw (Zaf (Za4 (i:=0) (cs:=[0,1,2,3,4,5,6,7,8,9,10,11,12,13]) rfl (by rfl) T.z_isinstance (pe_bltn (v:=.ty "ValueError") (by rfl) T.z_ValueError (by decide +kernel) rfl) (fun _ r=>r) rfl (T.xk_ValueError 0 (by decide)) rfl) Zaq))) Zaq)))))))))
theorem Zji (T:Txt K mg w) {f:Addr} {fd:FuncData} (F:FnP K "law" Ze4 f fd) (hp:∀ s:LS,s.Ok→s.cnt=0→∃ g',m_law (.un :: .dat (.ref s.a) :: List.replicate 10 .un) s = .ok (.rt (.dat (.bl true))) g'):FnOk P w K mg base CX0 12 f fd ["_law_script"] (spLaw K):=by
  refine F.fun.ok ZaX (fun vs H Q E h => ?_) (fun cdv A outer s H vs Q E hr h => ?_)
  · obtain ⟨a,ns,rfl,_⟩:=h
    rfl
  · obtain ⟨a,ns,rfl,hS,hl,q⟩:=h
    refine ⟨_,pss_cons (ps_set (i:=1) ZaX.nd rfl (by first | exact Or.inl rfl | exact Or.inr rfl) (pe_call (Zfz T) (hr.mono (by decide)) (by rfl) T.c__law_start.g T.c__law_start.F.kp T.c__law_start.b .nil pass0 (pa_cons (pv 0) pa_nil)))
      (ZiS (fun i=>(show PSs _ _ (RS (LB K (exT K) i xa0) W0 (m_law)) from
    (Zc1 1 (Zag (Zaw (i:=2) ZaX.nd rfl (by first | exact Or.inl rfl | exact Or.inr rfl) (Zbl (F:=Zas) (ZbU T) (hr.mono (by decide)) (by rfl) T.c__law_draw.g T.c__law_draw.F.kp T.c__law_draw.b (Zaf (Zac 1) (Zaf Zaj Zaq)) (Zav (Zav Za8))))
    (Zc1 1 (Zag (Zaw (i:=3) ZaX.nd rfl (by first | exact Or.inl rfl | exact Or.inr rfl) (ZhF (ZhK rfl) ZhJ (Zbw (Zaf Zaj (Zaf (Zay op_pow ZgK Zaj Zaj) Zaq))) (Zbl (F:=Zas) (ZbU T) (hr.mono (by decide)) (by rfl) T.c__law_draw.g T.c__law_draw.F.kp T.c__law_draw.b (Zaf (Zac 1) (Zaf Zaj Zaq)) (Zav (Zav Za8))) (fun _ _=>rfl)))
    (Zc1 1 (Zag (Zaw (i:=4) ZaX.nd rfl (by first | exact Or.inl rfl | exact Or.inr rfl) (Zay op_mulW Zcr (Zbl (F:=Zas) (ZbU T) (hr.mono (by decide)) (by rfl) T.c__law_draw.g T.c__law_draw.F.kp T.c__law_draw.b (Zaf (Zac 1) (Zaf (Zac 3) Zaq)) (Zav (Zav Za8))) (Zay op_sub ZiC Zaj (Zay op_mulW Zcr Zaj (Zac 2)))))
    (Zc1 1 (Zag (Zaw (i:=5) ZaX.nd rfl (by first | exact Or.inl rfl | exact Or.inr rfl) (Zh2 (ZcA []) (Zgx (own:=[("_law_k",11)]) rfl ZaX.nd (ZgO (by rfl) T.z_range (Zbl (F:=Zas) (ZbU T) (hr.mono (by decide)) (by rfl) T.c__law_draw.g T.c__law_draw.F.kp T.c__law_draw.b (Zaf (Zac 1) (Zaf Zaj Zaq)) (Zav (Zav Za8)))) (blkOk_by (own:=[("_law_k",11)]) (by rfl)) (fun _ _ _ _ _=>(pg_name (i:=11) ZaX.nd rfl (by first | exact Or.inl rfl | exact Or.inr rfl))) (Zf9 11) (by decide) (fun _ _ _ _ _=>Zfm) (fun _ _ _ _ _=>(ZhF (ZhK rfl) ZhJ (ZcA [97,98,99,100,101,102,103,104,105,106,107,108,109,110,111,112,113,114,115,116,117,118,119,120,121,122]) (Zbl (F:=Zas) (ZbU T) (hr.mono (by decide)) (by rfl) T.c__law_draw.g T.c__law_draw.F.kp T.c__law_draw.b (Zaf (Zac 1) (Zaf Zaj Zaq)) (Zav (Zav Za8))) (fun _ _=>rfl)))) rfl))
    (Zag (Zaw (i:=6) ZaX.nd rfl (by first | exact Or.inl rfl | exact Or.inr rfl) (ZcA [78,111,87,111,114,100,32,78,111,84,101,120,116,32,78,111,70,114,97,99,116,105,111,110,32,78,111,80,114,105,99,101,32,78,111,80,111,105,110,116,32,78,111,116,76,101,97,115,116,32,78,111,76,105,110,101,32,78,111,116,104,105,110,103,68,111,110,101,32,78,111,116,79,110,32,84,111,111,76,111,110,103,32,84,111,111,77,97,110,121]))
    (Zag (Zaw (i:=6) ZaX.nd rfl (by first | exact Or.inl rfl | exact Or.inr rfl) (Zay (ZaW rfl) ZaV (Zac 6) (ZcA [32,78,111,78,117,109,98,101,114,32,78,111,78,97,109,101])))
    (Zag (ZiO PassesOwn.never rfl (Zih rfl (by rfl) T.z_enumerate (ZfQ (Zac 6) (ZcA [32]))) (pg_tup rfl (pgs_cons (pg_name (i:=7) ZaX.nd rfl (by first | exact Or.inl rfl | exact Or.inr rfl)) (pgs_cons (pg_name (i:=8) ZaX.nd rfl (by first | exact Or.inl rfl | exact Or.inr rfl)) pgs_nil))) (ZgP rfl rfl (TgL.cons (TgL.cons TgL.nil))) (Zag (Zaw (i:=9) ZaX.nd rfl (by first | exact Or.inl rfl | exact Or.inr rfl) ZfI)
    (Zag (ZaA (Zaz (ZhI rfl (hu65 hr)) ZhH (Zac 7) (ZeZ (Zaf Zaj (Zaf Zaj Zaq))) (by rfl)) (Zak (Zaw (i:=9) ZaX.nd rfl (by first | exact Or.inl rfl | exact Or.inr rfl) (Zac 5))) Zar)
    (Zag (ZaA (Zaz (ZhI rfl (hu65 hr)) ZhH (Zac 7) (ZeZ (Zaf Zaj (Zaf Zaj (Zaf Zaj Zaq)))) (by rfl)) (Zak (Zaw (i:=9) ZaX.nd rfl (by first | exact Or.inl rfl | exact Or.inr rfl) (Zac 4))) Zar)
    (Zc1 4 (Zc1 5 (Zak (ZaA (ZgN (Ze0 (Zbl (F:=(ZaJ 10)) (Zer T 10) (hr.mono (by decide)) (by rfl) T.c__law_same.g T.c__law_same.F.kp T.c__law_same.b (Zaf (Zbl (F:=Za9) (Zfr T) (hr.mono (by decide)) (by rfl) T.c__law_caught.g T.c__law_caught.F.kp T.c__law_caught.b (Zaf (Zac 7) (Zaf (Zac 5) (Zaf (Zac 4) Zaq))) (Zav (Zav (Zav Za8)))) (Zaf (ZeZ (Zaf (Zbl (F:=Zbj) (Zf0 T) (hr.mono (by decide)) (by rfl) T.c__law_only.g T.c__law_only.F.kp T.c__law_only.b (Zaf (Zac 8) Zaq) (Zav Za8)) (Zaf (Zac 9) Zaq))) Zaq)) (Zav (Zav Za8))))) (Zak (ZaK ZfB)) Zar))))))))
    (Zi0 (i:=10) T.xn_BendError (by rfl) (Zac 5) ZaX.nd rfl (by first | exact Or.inl rfl | exact Or.inr rfl) (fun ae=>(show PSs _ _ (RS (exB (LB K (exT K) i xa0) (He.ga K "BendError") ae) _ _) from (Zc1 10 (Zak (ZaK (Zev (Za4 (i:=10) (cs:=[0,1,2,3,4,5,6,7,8,9,10,11,12,13]) rfl (by rfl) T.z_isinstance (pe_bltn (v:=.ty "ValueError") (by rfl) T.z_ValueError (by decide +kernel) rfl) (fun _ r=>r) rfl (T.xk_ValueError 0 (by decide)) rfl) (ZfJ (Zd3 (Zju rfl (hu65 hr)) Zjt ZfB (Zhd (ml:=none) (mh:=(some (mC (.int 13)))) rfl (Zbl (F:=ZaF) (Zfc T) (hr.mono (by decide)) (by rfl) T.c__law_kinds.g T.c__law_kinds.F.kp T.c__law_kinds.b (Zaf (Zac 10) Zaq) (Zav Za8)) True.intro Zaj) (by rfl)))))))))))))))))))))))),?_⟩
    refine ⟨_,rfl,a,ns,rfl,hS,hl,fun i ls H' k1 k2 k3 k4 k5 k6 k7=>⟨i,Zhk k3 (hp ls k1 k2) q⟩⟩
end
theorem facts {P:Program} {w:World} {K:Frag} {h:Heap} {mg:Str→Option Value} {f:Addr} (X:K.In h) (G:h.Ns mainGlobals mg) (hla:mg ("law" : Str)=some (.ref f)) (c0:He.SaysX hfa hfn hts [] hex w h K) (hp:∀ s:LS,s.Ok→s.cnt=0→∃ g',m_law (.un :: .dat (.ref s.a) :: List.replicate 10 .un) s = .ok (.rt (.dat (.bl true))) g') :
    ∃ fd:FuncData,(∀ (s:Shared) (v:Value),BindsTo s fd ⟨[v],[]⟩ [("_law_script",v)])∧∀ base:Heap,K.In base→base.Ns mainGlobals mg→FnOk P w K mg base CX0 12 f fd ["_law_script"] (spLaw K):=by
  have c:=c0.t.d
  have m0:=c0.more
  obtain ⟨n0,m1⟩:=He.ba (show (_ && _)=true from m0)
  obtain ⟨n1,m2⟩:=He.ba (show (_ && _)=true from m1)
  obtain ⟨n2,m3⟩:=He.ba (show (_ && _)=true from m2)
  obtain ⟨n3,m4⟩:=He.ba (show (_ && _)=true from m3)
  obtain ⟨n4,m5⟩:=He.ba (show (_ && _)=true from m4)
  obtain ⟨n5,m6⟩:=He.ba (show (_ && _)=true from m5)
  obtain ⟨n6,m7⟩:=He.ba (show (_ && _)=true from m6)
  obtain ⟨n7,m8⟩:=He.ba (show (_ && _)=true from m7)
  obtain ⟨n8,m9⟩:=He.ba (show (_ && _)=true from m8)
  obtain ⟨n9,m10⟩:=He.ba (show (_ && _)=true from m9)
  obtain ⟨n10,m11⟩:=He.ba (show (_ && _)=true from m10)
  obtain ⟨n11,m12⟩:=He.ba (show (_ && _)=true from m11)
  obtain ⟨n12,m13⟩:=He.ba (show (_ && _)=true from m12)
  obtain ⟨n13,m14⟩:=He.ba (show (_ && _)=true from m13)
  obtain ⟨n14,m15⟩:=He.ba (show (_ && _)=true from m14)
  obtain ⟨n15,m16⟩:=He.ba (show (_ && _)=true from m15)
  obtain ⟨n16,m17⟩:=He.ba (show (_ && _)=true from m16)
  obtain ⟨n17,m18⟩:=He.ba (show (_ && _)=true from m17)
  obtain ⟨n18,m19⟩:=He.ba (show (_ && _)=true from m18)
  obtain ⟨n19,m20⟩:=He.ba (show (_ && _)=true from m19)
  obtain ⟨n20,m21⟩:=He.ba (show (_ && _)=true from m20)
  obtain ⟨n21,m22⟩:=He.ba (show (_ && _)=true from m21)
  obtain ⟨n22,m23⟩:=He.ba (show (_ && _)=true from m22)
  obtain ⟨n23,m24⟩:=He.ba (show (_ && _)=true from m23)
  obtain ⟨n24,m25⟩:=He.ba (show (_ && _)=true from m24)
  obtain ⟨n25,m26⟩:=He.ba (show (_ && _)=true from m25)
  obtain ⟨n26,m27⟩:=He.ba (show (_ && _)=true from m26)
  obtain ⟨n27,m28⟩:=He.ba (show (_ && _)=true from m27)
  obtain ⟨n28,m29⟩:=He.ba (show (_ && _)=true from m28)
  obtain ⟨n29,m30⟩:=He.ba (show (_ && _)=true from m29)
  obtain ⟨n30,m31⟩:=He.ba (show (_ && _)=true from m30)
  obtain ⟨n31,m32⟩:=He.ba (show (_ && _)=true from m31)
  obtain ⟨n32,m33⟩:=He.ba (show (_ && _)=true from m32)
  obtain ⟨n33,m34⟩:=He.ba (show (_ && _)=true from m33)
  obtain ⟨n34,m35⟩:=He.ba (show (_ && _)=true from m34)
  obtain ⟨di_NotOn,DI_NotOn⟩:=c.def_ 10 (d:=Zfw) rfl
  obtain ⟨di_TooLong,DI_TooLong⟩:=c.def_ 11 (d:=ZeA) rfl
  obtain ⟨di_TooMany,DI_TooMany⟩:=c.def_ 12 (d:=ZeB) rfl
  obtain ⟨di_NoNumber,DI_NoNumber⟩:=c.def_ 13 (d:=Zee) rfl
  obtain ⟨di_NoName,DI_NoName⟩:=c.def_ 14 (d:=Ze5) rfl
  obtain ⟨d__law_start,D__law_start⟩:=c.def_ 0 (d:=ZdZ) rfl
  obtain ⟨d__law_mix,D__law_mix⟩:=c.def_ 1 (d:=Zez) rfl
  obtain ⟨d__law_draw,D__law_draw⟩:=c.def_ 2 (d:=Zeb) rfl
  obtain ⟨d__law_same,D__law_same⟩:=c.def_ 3 (d:=Zec) rfl
  obtain ⟨d__law_raised,D__law_raised⟩:=c.def_ 4 (d:=ZdF) rfl
  obtain ⟨d__law_kinds,D__law_kinds⟩:=c.def_ 5 (d:=Zd0) rfl
  obtain ⟨d__law_field,D__law_field⟩:=c.def_ 6 (d:=Zd1) rfl
  obtain ⟨d__law_caught,D__law_caught⟩:=c.def_ 7 (d:=ZdG) rfl
  obtain ⟨d__law_only,D__law_only⟩:=c.def_ 8 (d:=Zed) rfl
  obtain ⟨d_law,D_law⟩:=c.def_ 9 (d:=Zg1) rfl
  have e:=hla.symm.trans (He.glo_ok X G (c.fact 9 (f:=.glo "law") rfl))
  cases e
  have T:Txt K mg w:={
    di_NotOn:=di_NotOn,fi_NotOn:=DI_NotOn,
    di_TooLong:=di_TooLong,fi_TooLong:=DI_TooLong,
    di_TooMany:=di_TooMany,fi_TooMany:=DI_TooMany,
    di_NoNumber:=di_NoNumber,fi_NoNumber:=DI_NoNumber,
    di_NoName:=di_NoName,fi_NoName:=DI_NoName,
    xf_NotOn:=ZdD X G (FunD.bindsN DI_NotOn fun _ _ _ _ _ _ us hl=>match us,hl with | [_,_],_=>rfl) n0,
    xf_TooLong:=ZdD X G (FunD.bindsN DI_TooLong fun _ _ _ _ _ _ us hl=>match us,hl with | [_,_],_=>rfl) n1,
    xf_TooMany:=ZdD X G (FunD.bindsN DI_TooMany fun _ _ _ _ _ _ us hl=>match us,hl with | [_,_],_=>rfl) n2,
    xf_NoNumber:=ZdD X G (FunD.bindsN DI_NoNumber fun _ _ _ _ _ _ us hl=>match us,hl with | [_,_],_=>rfl) n3,
    xf_NoName:=ZdD X G (FunD.bindsN DI_NoName fun _ _ _ _ _ _ us hl=>match us,hl with | [_,_],_=>rfl) n4,
    xn_BendError:=ZbX X G n5,
    xn_NoWord:=ZbX X G n6,
    xn_NoText:=ZbX X G n7,
    xn_NoFraction:=ZbX X G n8,
    xn_NoPrice:=ZbX X G n9,
    xn_NoPoint:=ZbX X G n10,
    xn_NotLeast:=ZbX X G n11,
    xn_NoLine:=ZbX X G n12,
    xn_NothingDone:=ZbX X G n13,
    xb:=Zic X G n14,
    xm_BendError:=Zie X G n15,
    xk_NoFraction:=Za1 X G n16,
    xk_NoLine:=Za1 X G n17,
    xk_NoName:=Za1 X G n18,
    xk_NoNumber:=Za1 X G n19,
    xk_NoPoint:=Za1 X G n20,
    xk_NoPrice:=Za1 X G n21,
    xk_NoText:=Za1 X G n22,
    xk_NoWord:=Za1 X G n23,
    xk_NotLeast:=Za1 X G n24,
    xk_NotOn:=Za1 X G n25,
    xk_NothingDone:=Za1 X G n26,
    xk_TooLong:=Za1 X G n27,
    xk_TooMany:=Za1 X G n28,
    xk_ValueError:=Zge n29,
    xr_NoName:=ZdE n30,
    xr_NoNumber:=ZdE n31,
    xr_NotOn:=ZdE n32,
    xr_TooLong:=ZdE n33,
    xr_TooMany:=ZdE n34,
    a__law_start:=_,d__law_start:=d__law_start,c__law_start:=⟨D__law_start,He.glo_ok X G (c.fact 0 (f:=.glo "_law_start") rfl),FunD.bindsN D__law_start fun _ _ _ _ _ _ us hl=>match us,hl with | [_],_=>rfl⟩,
    a__law_mix:=_,d__law_mix:=d__law_mix,c__law_mix:=⟨D__law_mix,He.glo_ok X G (c.fact 1 (f:=.glo "_law_mix") rfl),FunD.bindsN D__law_mix fun _ _ _ _ _ _ us hl=>match us,hl with | [_],_=>rfl⟩,
    a__law_draw:=_,d__law_draw:=d__law_draw,c__law_draw:=⟨D__law_draw,He.glo_ok X G (c.fact 2 (f:=.glo "_law_draw") rfl),FunD.bindsN D__law_draw fun _ _ _ _ _ _ us hl=>match us,hl with | [_,_],_=>rfl⟩,
    a__law_same:=_,d__law_same:=d__law_same,c__law_same:=⟨D__law_same,He.glo_ok X G (c.fact 3 (f:=.glo "_law_same") rfl),FunD.bindsN D__law_same fun _ _ _ _ _ _ us hl=>match us,hl with | [_,_],_=>rfl⟩,
    a__law_raised:=_,d__law_raised:=d__law_raised,c__law_raised:=⟨D__law_raised,He.glo_ok X G (c.fact 4 (f:=.glo "_law_raised") rfl),FunD.bindsN D__law_raised fun _ _ _ _ _ _ us hl=>match us,hl with | [_,_,_],_=>rfl⟩,
    a__law_kinds:=_,d__law_kinds:=d__law_kinds,c__law_kinds:=⟨D__law_kinds,He.glo_ok X G (c.fact 5 (f:=.glo "_law_kinds") rfl),FunD.bindsN D__law_kinds fun _ _ _ _ _ _ us hl=>match us,hl with | [_],_=>rfl⟩,
    a__law_field:=_,d__law_field:=d__law_field,c__law_field:=⟨D__law_field,He.glo_ok X G (c.fact 6 (f:=.glo "_law_field") rfl),FunD.bindsN D__law_field fun _ _ _ _ _ _ us hl=>match us,hl with | [_,_],_=>rfl⟩,
    a__law_caught:=_,d__law_caught:=d__law_caught,c__law_caught:=⟨D__law_caught,He.glo_ok X G (c.fact 7 (f:=.glo "_law_caught") rfl),FunD.bindsN D__law_caught fun _ _ _ _ _ _ us hl=>match us,hl with | [_,_,_],_=>rfl⟩,
    a__law_only:=_,d__law_only:=d__law_only,c__law_only:=⟨D__law_only,He.glo_ok X G (c.fact 8 (f:=.glo "_law_only") rfl),FunD.bindsN D__law_only fun _ _ _ _ _ _ us hl=>match us,hl with | [_],_=>rfl⟩,
    z_ValueError:=He.free_ok X G (c.fact 10 (f:=.free "ValueError") rfl),
    z_all:=He.free_ok X G (c.fact 11 (f:=.free "all") rfl),
    z_bool:=He.free_ok X G (c.fact 12 (f:=.free "bool") rfl),
    z_enumerate:=He.free_ok X G (c.fact 13 (f:=.free "enumerate") rfl),
    z_int:=He.free_ok X G (c.fact 14 (f:=.free "int") rfl),
    z_isinstance:=He.free_ok X G (c.fact 15 (f:=.free "isinstance") rfl),
    z_len:=He.free_ok X G (c.fact 16 (f:=.free "len") rfl),
    z_range:=He.free_ok X G (c.fact 17 (f:=.free "range") rfl),
    z_str:=He.free_ok X G (c.fact 18 (f:=.free "str") rfl),
    z_tuple:=He.free_ok X G (c.fact 19 (f:=.free "tuple") rfl),
    z_zip:=He.free_ok X G (c.fact 20 (f:=.free "zip") rfl) }
  have b:=FunD.bindsA (ps:=["_law_script"]) D_law fun _ _ _ _ _ _ us hl=>match us,hl with | [_],_=>rfl
  exact ⟨d_law,fun s v=>b s [v] rfl,fun base _ _=>Zji T D_law hp⟩
end G_k17
open PySem PySem.W PySem.Calls PyProof.Rows L2 PB
namespace G_k17
theorem law_holds (hp:∀ s:LS,s.Ok→s.cnt=0→∃ g',m_law (.un :: .dat (.ref s.a) :: List.replicate 10 .un) s = .ok (.rt (.dat (.bl true))) g'):PySem.Challenge.rw_pricebend_k17_refusals_made.Holds:=by
  w_on; o_law
  refine HandSHeadRun.head_any (r:=PySem.W.OpenLaw.row PySem.Challenge.rw_pricebend_k17_refusals_made) (q:=PySem.W.view (PySem.W.OpenLaw.row PySem.Challenge.rw_pricebend_k17_refusals_made).prog [25]) (H:=hk) (ob:=hob) (M:=20000) (loose:=["BendError","NoWord","NoText","NoFraction","NoPrice","NoPoint","NotLeast","NoLine","NothingDone","NotOn","TooLong","TooMany","NoNumber","NoName","_law_start","_law_draw","_law_mix","_law_same","_law_kinds","_law_only","_law_raised","_law_field","_law_caught"]) (d:=HandSHeadRun.topDef (PySem.W.OpenLaw.row PySem.Challenge.rw_pricebend_k17_refusals_made).prog 25) (kwd:=[]) Zi1
    (by kernel_rfl) (fun s=>by kernel_rfl) hrun (by kernel_rfl) (by kernel_rfl) (by kernel_rfl) (by rfl) (by first | assumption | decide +kernel) (by decide +kernel) ⟨rfl,rfl,rfl,rfl,rfl,by decide +kernel⟩ ?hw ?hc
  case hw=>w_witness2
  case hc=>
    refine L2.walk_ofE (l:=PySem.Challenge.rw_pricebend_k17_refusals_made) (n:=63) (k:=12) (x := "_law_script") (CX:=L2.CX0) rfl (by decide) (by kernel_rfl) ⟨rfl,by decide,by decide⟩ ?F (fun _ _ _ _ z=>z)
    intro w mg fa h Y G hmg0
    obtain ⟨K,KX,c⟩:=Y
    have hmg:mg ("law" : PySem.Str)=some (.ref fa):=by
      have e:(HandSHeadRun.topDef (PySem.W.OpenLaw.row PySem.Challenge.rw_pricebend_k17_refusals_made).prog 25).name=("law" : PySem.Str):=by kernel_rfl
      rw [← e]
      exact hmg0
    obtain ⟨fd,hb,hF⟩:=facts (P:=(PySem.Challenge.rw_pricebend_k17_refusals_made).prog) (w:=w) KX G hmg c hp
    exact ⟨K,fd,spLaw K,KX,hb,fun H a ns hl _ hS=>⟨a,ns,rfl,hS,hl,fun _=>rfl⟩,hF⟩
end G_k17
theorem PySem.Challenge.cw_pricebend_k17_refusals_made_holds : PySem.Challenge.rw_pricebend_k17_refusals_made.Holds := by
  exact G_k17.law_holds G_k17.law_pure
