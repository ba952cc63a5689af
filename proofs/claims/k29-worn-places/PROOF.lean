import PyProof.Rows.All
import Wide.All
import OpenK.AllK
import Wide.FinOn
import PySem.Challenge.RW_boardworks_k29_whole_worn_places
import PySem.Syntax
import HandS.TupMul
import HandS.TupAny
import HandS.ForMost
import HandS.Style
import HandS.Zip
import KE.GoesMore
import KE.GoesEnum
import HandS.Dict
import HandS.SetKeys
import PyProof.Rows.SetFrom
import HandS.Exc
import HandS.ExcOwn
import HandS.WordsExc
import HandS.CallSlots
import HandS.IsInst
import HandS.Flow
import HandS.TupLe
import HandS.List
import HandS.Conv
import PyProof.StrWalks
import KE.KeyNested
import KE.KDictKeyed
import HandS.Base
import HandS.DictComp
import HandS.Iter
import HandS.SortRule
import PyProof.Rows.SortKeyStr
import HandS.Keys
import HandS.RaiseMore
import HandS.Text
import HandS.StrMore
import HandS.Deep
import HandS.TryOnly
import HandS.Words
import PyProof.CollectIter
import PyProof.WalksMore
import PyProof.MakeMany
import HandS.Call
import PyProof.DictUpdate
import HandS.Strs
import HandS.Defaults
import HandS.HotCalls
import HandS.ExcIs
import HandS.HeadHook1
import HandS.HeadHook2
import HandS.Head0
import HandS.Head1
import HandS.Head2
import HandS.HeadEnd
import KE.KStateDown
import HandS.Ends
import HandS.More
set_option Elab.async false
set_option linter.all false
set_option maxRecDepth 100000
set_option maxHeartbeats 0
theorem y_a {α:Type _} {a:α} {l:List α} {i:Nat}:(a::l)[i+1]?=l[i]?:=rfl
theorem y_b {α:Type _} {a:α} {l:List α}:(a::l)[0]?=some a:=rfl
theorem y_c {α:Type _} {x:Option α}:(some x).join=x:=rfl
theorem y_d {α:Type _} {xs:List α} {i:Nat} {a b:α}:(a::xs).set (i+1) b=a::xs.set i b:=rfl
theorem y_e {α:Type _} {xs:List α} {a b:α}:(a::xs).set 0 b=b::xs:=rfl
theorem y_f {α:Type _} {a:α} {l:List α}:(a::l).length=l.length+1:=rfl
theorem y_g {α:Type _}:([]:List α).length=0:=rfl
theorem y_h (n:Nat):0+n=n:=Nat.zero_add n
theorem y_i:(!true)=false:=rfl
theorem y_j:(!false)=true:=rfl
theorem y_k:(false=true)=False:=Bool.false_eq_true
namespace Dn
open PySem
inductive D where
|non|bl (b:Bool)|int (i:Int)|str (x:List Nat)|tup (xs:List D)|lst (xs:List D)|fz (xs:List D)|ref (n:Nat)
 deriving Inhabited
mutual
def D.beq:D→D→Bool
|.non,.non=>true
|.bl a,.bl b=>a == b
|.int a,.int b=>decide (a=b)
|.str a,.str b=>decide (a=b)
|.tup a,.tup b=>D.beqs a b
|.lst a,.lst b=>D.beqs a b
|.fz a,.fz b=>D.beqs a b
|.ref a,.ref b=>Nat.beq a b
|_,_=>false
def D.beqs:List D→List D→Bool
|[],[]=>true
|a::r,b::t=>D.beq a b&&D.beqs r t
|_,_=>false
end
mutual
theorem D.beq_refl:∀d:D,D.beq d d=true
|.non=>rfl
|.bl b=>by simp[D.beq]
|.int i=>by simp[D.beq]
|.str i=>by simp[D.beq]
|.tup xs=>by rw[D.beq];exact D.beqs_refl xs
|.lst xs=>by rw[D.beq];exact D.beqs_refl xs
|.fz xs=>by rw[D.beq];exact D.beqs_refl xs
|.ref n=>by rw[D.beq];exact Nat.beq_refl n
theorem D.beqs_refl:∀d:List D,D.beqs d d=true
|[]=>rfl
|a::r=>by rw[D.beqs,D.beq_refl a,D.beqs_refl r];rfl
end
mutual
theorem D.eq_of_beq:∀{d e:D},D.beq d e=true→d=e
|.non,.non,_=>rfl
|.bl a,.bl b,h=>by rw[D.beq] at h;rw[LawfulBEq.eq_of_beq h]
|.int a,.int b,h=>by rw[D.beq] at h;rw[of_decide_eq_true h]
|.str a,.str b,h=>by rw[D.beq] at h;rw[of_decide_eq_true h]
|.tup a,.tup b,h=>by rw[D.beq] at h;rw[D.eq_of_beqs h]
|.lst a,.lst b,h=>by rw[D.beq] at h;rw[D.eq_of_beqs h]
|.fz a,.fz b,h=>by rw[D.beq] at h;rw[D.eq_of_beqs h]
|.ref a,.ref b,h=>by rw[D.beq] at h;rw[Nat.eq_of_beq_eq_true h]
|.non,.bl _,h|.non,.int _,h|.non,.str _,h|.non,.tup _,h|.non,.lst _,h|.non,.fz _,h|.non,.ref _,h=>by simp[D.beq] at h
|.bl _,.non,h|.bl _,.int _,h|.bl _,.str _,h|.bl _,.tup _,h|.bl _,.lst _,h|.bl _,.fz _,h|.bl _,.ref _,h=>by simp[D.beq] at h
|.int _,.non,h|.int _,.bl _,h|.int _,.str _,h|.int _,.tup _,h|.int _,.lst _,h|.int _,.fz _,h|.int _,.ref _,h=>by simp[D.beq] at h
|.str _,.non,h|.str _,.bl _,h|.str _,.int _,h|.str _,.tup _,h|.str _,.lst _,h|.str _,.fz _,h|.str _,.ref _,h=>by simp[D.beq] at h
|.tup _,.non,h|.tup _,.bl _,h|.tup _,.int _,h|.tup _,.str _,h|.tup _,.lst _,h|.tup _,.fz _,h|.tup _,.ref _,h=>by simp[D.beq] at h
|.lst _,.non,h|.lst _,.bl _,h|.lst _,.int _,h|.lst _,.str _,h|.lst _,.tup _,h|.lst _,.fz _,h|.lst _,.ref _,h=>by simp[D.beq] at h
|.fz _,.non,h|.fz _,.bl _,h|.fz _,.int _,h|.fz _,.str _,h|.fz _,.tup _,h|.fz _,.lst _,h|.fz _,.ref _,h=>by simp[D.beq] at h
|.ref _,.non,h|.ref _,.bl _,h|.ref _,.int _,h|.ref _,.str _,h|.ref _,.tup _,h|.ref _,.lst _,h|.ref _,.fz _,h=>by simp[D.beq] at h
theorem D.eq_of_beqs:∀{d e:List D},D.beqs d e=true→d=e
|[],[],_=>rfl
|a::r,b::t,h=>by
  rw[D.beqs,Bool.and_eq_true] at h
  rw[D.eq_of_beq h.1,D.eq_of_beqs h.2]
|[],_::_,h=>by simp[D.beqs] at h
|_::_,[],h=>by simp[D.beqs] at h
end
instance:DecidableEq D:=fun a b=>if h:D.beq a b=true then .isTrue (D.eq_of_beq h) else .isFalse fun e=>h (e ▸ D.beq_refl a)
abbrev Ky:=Sum Int (List Nat)
def kyD:Ky→D
|.inl i=>.int i
|.inr x=>.str x
inductive Ob where
|lst (xs:List D)|dic (kvs:List (Ky×D))|ins (c:Str) (fs:List (Str×D))
 deriving DecidableEq,Inhabited
def Ob.ds:Ob→List D
|.lst xs=>xs
|.dic kvs=>kvs.map (·.2)
|.ins _ fs=>fs.map (·.2)
abbrev Sto:=List Ob
abbrev Env:=List (Option D)
structure Xc where
 cls:Str
 fld:Option (Str×D)
inductive R (α:Type) where
|ok (a:α) (st:Sto)|ex (x:Xc) (st:Sto)|no
abbrev M (α:Type):=Sto→R α
def M.pure {α:Type} (a:α):M α:=fun st=>.ok a st
def M.bind {α β:Type} (m:M α) (k:α→M β):M β:=fun st=>match m st with
|.ok a st'=>k a st'
|.ex x st'=>.ex x st'
|.no=>.no
instance:Monad M where
 pure:=M.pure
 bind:=M.bind
def no {α:Type}:M α:=fun _=>.no
def orNo {α:Type}:Option α→M α
|some a=>M.pure a
|none=>no
mutual
def D.lim (n:Nat):D→Bool
|.ref k=>decide (k<n)
|.tup xs=>D.lims n xs
|.lst xs=>D.lims n xs
|.fz xs=>D.lims n xs
|_=>true
def D.lims (n:Nat):List D→Bool
|[]=>true
|d::r=>D.lim n d&&D.lims n r
end
def Ob.lim (n:Nat) (o:Ob):Bool:=D.lims n o.ds
theorem lims_iff {n:Nat}:∀{xs:List D},D.lims n xs=true↔∀d∈xs,D.lim n d=true
|[]=>by simp[D.lims]
|a::r=>by rw[D.lims,Bool.and_eq_true,lims_iff];simp
def oldOk:Nat→Sto→Sto→Bool
|_,[],_=>true
|n,o::r,o'::r'=>(decide (o=o')||o'.lim n)&&oldOk n r r'
|_,_::_,[]=>false
def ixN (n:Nat) (i:Int):Option Nat:=if 0≤i then (if i<n then some i.toNat else none) else if -(n:Int)≤i then some (i+n).toNat else none
def atI {α:Type} (xs:List α) (i:Int):Option α:=(ixN xs.length i).bind fun j=>xs[j]?
def sIx (n d:Nat):Option Int→Nat
|none=>d
|some v=>if v<0 then (v+n).toNat else min v.toNat n
def cut {α:Type} (xs:List α) (lo hi:Option Int):List α:=(xs.drop (sIx xs.length 0 lo)).take (sIx xs.length xs.length hi - sIx xs.length 0 lo)
def okI (i:Int):Bool:=decide (-1000000000<i)&&decide (i<1000000000)
def small64 (i:Int):Bool:=decide (-(2 ^ 64)<i)&&decide (i<2 ^ 64)
def szOk (n:Nat):Bool:=Nat.ble n 1000000
def listOf (d:D):M (List D):=fun st=>match d with
|.lst xs=>.ok xs st
|.fz xs=>.ok xs st
|.ref n=>match st[n]? with
 |some (.lst xs)=>.ok xs st
 |_=>.no
|_=>.no
def isStr:D→Option (List Nat)
|.str x=>some x
|_=>none
def isInt:D→Option Int
|.int x=>some x
|_=>none
def isBl:D→Option Bool
|.bl x=>some x
|_=>none
def alls {α:Type} (f:D→Option α):List D→Option (List α)
|[]=>some []
|d::r=>match f d,alls f r with
 |some a,some as=>some (a::as)
 |_,_=>none
def whenM {α:Type} (b:Bool) (m:M α):M α:=fun st=>if b=true then m st else .no
def truth (d:D):M Bool:=fun st=>match d with
|.non=>.ok false st
|.bl b=>.ok b st
|.int i=>.ok (i != 0) st
|.str x=>if szOk x.length then .ok (!x.isEmpty) st else .no
|.tup xs=>.ok (!xs.isEmpty) st
|.lst xs=>.ok (!xs.isEmpty) st
|.fz xs=>.ok (!xs.isEmpty) st
|.ref n=>match st[n]? with
 |some (.lst xs)=>.ok (!xs.isEmpty) st
 |_=>.no
def catOf (d:D) (st:Sto):Option (List D):=match d with
|.lst xs=>some xs
|.ref n=>match st[n]? with
 |some (.lst xs)=>some xs
 |_=>none
|_=>none
def rep {α:Type} (xs:List α) (k:Nat):List α:=(List.replicate k xs).flatten
def binOp (o:Operator) (x y:D):M D:=fun st=>match o,x,y with
|.Add,.int i,.int j=>.ok (.int (i+j)) st
|.Add,.str a,.str b=>if szOk (a.length+b.length) then .ok (.str (a++b)) st else .no
|.Add,.tup a,.tup b=>if szOk (a.length+b.length) then .ok (.tup (a++b)) st else .no
|.Add,x,y=>match catOf x st,catOf y st with
 |some a,some b=>if szOk (a.length+b.length) then .ok (.lst (a++b)) st else .no
 |_,_=>.no
|.Sub,.int i,.int j=>.ok (.int (i - j)) st
|.Mult,.int i,.int j=>if small64 i||small64 j then .ok (.int (i*j)) st else .no
|.Mult,.str a,.int k=>if decide (-1000000<k)&&decide (k<1000000)&&szOk (a.length*k.toNat) then .ok (.str (rep a k.toNat)) st else .no
|.Mult,.tup a,.int k=>if decide (-1000000<k)&&decide (k≤1000)&&decide (a.length≤1000) then .ok (.tup (rep a k.toNat)) st else .no
|.Mult,x,.int k=>match catOf x st with
 |some a=>if decide (-1000000<k)&&decide (k<1000000)&&szOk (a.length*k.toNat) then .ok (.lst (rep a k.toNat)) st else .no
 |none=>.no
|.FloorDiv,.int i,.int j=>if decide (j≠0)&&decide (j.natAbs<1073741824) then .ok (.int (i.fdiv j)) st else .no
|.Mod,.int i,.int j=>if decide (j≠0) then .ok (.int (i.fmod j)) st else .no
|.Pow,.int i,.int j=>if decide (0≤j)&&decide (j≤1000)&&small64 i then .ok (.int (i ^ j.toNat)) st else .no
|.LShift,.int i,.int j=>if decide (0≤j)&&decide (j≤1000)&&small64 i then .ok (.int (i*2 ^ j.toNat)) st else .no
|.RShift,.int i,.int j=>if decide (0≤j) then .ok (.int (i / 2 ^ j.toNat)) st else .no
|.BitAnd,.int i,.int j=>if decide (0≤i)&&decide (0≤j) then .ok (.int ((i.toNat&&&j.toNat:Nat):Int)) st else .no
|.BitOr,.int i,.int j=>if decide (0≤i)&&decide (0≤j) then .ok (.int ((i.toNat ||| j.toNat:Nat):Int)) st else .no
|.BitXor,.int i,.int j=>if decide (0≤i)&&decide (0≤j) then .ok (.int ((i.toNat ^^^ j.toNat:Nat):Int)) st else .no
|_,_,_=>.no
def augOp (o:Operator) (x y:D):M D:=fun st=>match o,x,y with
|.Add,.int i,.int j=>.ok (.int (i+j)) st
|.Sub,.int i,.int j=>.ok (.int (i - j)) st
|_,_,_=>.no
def okStr (x:List Nat):Bool:=x.all (·<0x110000)
mutual
def eqv:D→D→Bool
|.non,.non=>true
|.bl a,.bl b=>a == b
|.bl a,.int j=>decide ((if a then 1 else 0)=j)
|.int i,.bl b=>decide (i=(if b then 1 else 0))
|.int i,.int j=>decide (i=j)
|.str x,.str y=>decide (x=y)
|.tup x,.tup y=>eqvs x y
|.lst x,.lst y=>eqvs x y
|.lst x,.fz y=>eqvs x y
|.fz x,.lst y=>eqvs x y
|.fz x,.fz y=>eqvs x y
|_,_=>false
def eqvs:List D→List D→Bool
|[],[]=>true
|a::r,b::t=>eqv a b&&eqvs r t
|_,_=>false
end
mutual
def cmpOk:Nat→D→Bool
|_,.str x=>okStr x
|n+1,.tup xs=>cmpOks n xs
|n+1,.lst xs=>cmpOks n xs
|n+1,.fz xs=>cmpOks n xs
|0,.tup _=>false
|0,.lst _=>false
|0,.fz _=>false
|_,.ref _=>false
|_,_=>true
def cmpOks:Nat→List D→Bool
|_,[]=>true
|n,d::r=>cmpOk n d&&cmpOks n r
end
def derf (d:D) (st:Sto):D:=match d with
|.ref n=>match st[n]? with
 |some (.lst xs)=>.lst xs
 |_=>d
|_=>d
def flatD:D→Bool
|.non=>true
|.bl _=>true
|.int _=>true
|.str _=>true
|_=>false
def inL (x:D) (xs:List D):Option Bool:=if flatD x&&xs.all flatD then some (xs.any fun y=>eqv y x) else none
def inF (x y:D) (st:Sto):Option Bool:=match y with
|.str z=>(match x with
 |.str [c]=>some (decide (c∈z))
 |_=>none)
|.tup xs=>inL x xs
|y=>match listOf y st with
 |.ok xs _=>inL x xs
 |_=>none
def inP (x y:D) (st:Sto):Option Bool:=if cmpOk 60 (derf x st)&&cmpOk 60 (derf y st) then (match derf y st with
 |.tup xs=>some (xs.any fun z=>eqv z (derf x st))
 |.lst xs=>some (xs.any fun z=>eqv z (derf x st))
 |_=>none) else none
def inD (x y:D) (st:Sto):Option Bool:=match inF x y st with
|some b=>some b
|none=>inP x y st
def cmpOp (o:CmpOp) (x y:D):M D:=fun st=>match o with
|.Eq=>if cmpOk 60 (derf x st)&&cmpOk 60 (derf y st) then .ok (.bl (eqv (derf x st) (derf y st))) st else .no
|.NotEq=>if cmpOk 60 (derf x st)&&cmpOk 60 (derf y st) then .ok (.bl (!eqv (derf x st) (derf y st))) st else .no
|.Lt=>match x,y with
 |.int i,.int j=>.ok (.bl (decide (i<j))) st
 |_,_=>.no
|.LtE=>match x,y with
 |.int i,.int j=>.ok (.bl (decide (i≤j))) st
 |_,_=>.no
|.Gt=>match x,y with
 |.int i,.int j=>.ok (.bl (decide (j<i))) st
 |_,_=>.no
|.GtE=>match x,y with
 |.int i,.int j=>.ok (.bl (decide (j≤i))) st
 |_,_=>.no
|.Is=>match y with
 |.non=>.ok (.bl (decide (x=.non))) st
 |.bl b=>(match x with
  |.bl a=>.ok (.bl (decide (a=b))) st
  |_=>.no)
 |_=>.no
|.IsNot=>match y with
 |.non=>.ok (.bl (!decide (x=.non))) st
 |.bl b=>(match x with
  |.bl a=>.ok (.bl (!decide (a=b))) st
  |_=>.no)
 |_=>.no
|.In=>match inD x y st with
 |some b=>.ok (.bl b) st
 |none=>.no
|.NotIn=>match inD x y st with
 |some b=>.ok (.bl (!b)) st
 |none=>.no
def ixOp (x y:D):M D:=fun st=>match x,y with
|.str z,.int i=>if szOk z.length then (match atI z i with
 |some c=>.ok (.str [c]) st
 |none=>.no) else .no
|.tup xs,.int i=>match atI xs i with
 |some d=>.ok d st
 |none=>.no
|x,.int i=>match listOf x st with
 |.ok xs _=>(match atI xs i with
  |some d=>.ok d st
  |none=>.no)
 |_=>.no
|_,_=>.no
def slOp (x:D) (lo hi:Option Int):M D:=fun st=>match x with
|.str z=>if szOk z.length then .ok (.str (cut z lo hi)) st else .no
|.tup xs=>.ok (.tup (cut xs lo hi)) st
|x=>match listOf x st with
 |.ok xs _=>.ok (.lst (cut xs lo hi)) st
 |_=>.no
def rvOp (x:D):M D:=fun st=>match x with
|.tup xs=>.ok (.tup xs.reverse) st
|x=>match listOf x st with
 |.ok xs _=>.ok (.lst xs.reverse) st
 |_=>.no
def showInt (i:Int):List Nat:=(toString i).toList.map Char.toNat
def lexG {α:Type} [DecidableEq α] (lt:α→α→Bool):List α→List α→Bool
|[],[]=>false
|[],_::_=>true
|_::_,[]=>false
|a::r,b::t=>if a=b then lexG lt r t else lt a b
def insG {α:Type} (lt:α→α→Bool) (x:α):List α→List α
|[]=>[x]
|y::t=>if lt y x then y::insG lt x t else x::y::t
def srtG {α:Type} (lt:α→α→Bool):List α→List α
|[]=>[]
|x::r=>insG lt x (srtG lt r)
abbrev ltI:Int→Int→Bool:=fun a b=>decide (a<b)
abbrev ltN:List Nat→List Nat→Bool:=lexG fun a b:Nat=>decide (a<b)
abbrev lexN:List (List Nat)→List (List Nat)→Bool:=lexG ltN
def tupT:D→Option (List (List Nat))
|.tup ds=>(match alls isStr ds with
 |some (x::xs)=>some (x::xs)
 |_=>none)
|_=>none
def tupD (t:List (List Nat)):D:=.tup (t.map .str)
inductive Bi where
|len|sum|all|any|min|max|str|int|list|tuple|sorted
 deriving DecidableEq
def joinL (S:List Nat):List (List Nat)→List Nat
|[]=>[]
|[p]=>p
|p::q::r=>p++(S++joinL S (q::r))
def biOp (f:Bi) (ds:List D):M D:=fun st=>match f,ds with
|.len,[.str x]=>if szOk x.length then .ok (.int x.length) st else .no
|.len,[.tup x]=>.ok (.int x.length) st
|.len,[x]=>match listOf x st with
 |.ok xs _=>.ok (.int xs.length) st
 |_=>.no
|.sum,[x]=>match listOf x st with
 |.ok xs _=>(match alls isInt xs with
  |some ns=>.ok (.int ns.sum) st
  |none=>.no)
 |_=>.no
|.all,[x]=>match listOf x st with
 |.ok xs _=>(match alls isBl xs with
  |some ns=>.ok (.bl (ns.all id)) st
  |none=>.no)
 |_=>.no
|.any,[x]=>match listOf x st with
 |.ok xs _=>(match alls isBl xs with
  |some ns=>.ok (.bl (ns.any id)) st
  |none=>.no)
 |_=>.no
|.min,[.int i,.int j]=>.ok (.int (if j<i then j else i)) st
|.max,[.int i,.int j]=>.ok (.int (if j > i then j else i)) st
|.str,[.int i]=>if decide (i.natAbs<2 ^ 200) then .ok (.str (showInt i)) st else .no
|.str,[.str x]=>.ok (.str x) st
|.int,[.int i]=>.ok (.int i) st
|.int,[.bl b]=>.ok (.int (if b then 1 else 0)) st
|.int,[.str [c]]=>if decide (48≤c)&&decide (c<58) then .ok (.int ((c:Int) - 48)) st else .no
|.list,[.tup xs]=>.ok (.lst xs) st
|.list,[.str x]=>if szOk x.length then .ok (.lst (x.map fun c=>.str [c])) st else .no
|.list,[.ref n]=>(match st[n]? with
 |some (.lst xs)=>.ok (.lst xs) st
 |some (.dic kvs)=>.ok (.lst (kvs.map fun kv=>kyD kv.1)) st
 |_=>.no)
|.list,[x]=>match listOf x st with
 |.ok xs _=>.ok (.lst xs) st
 |_=>.no
|.tuple,[.tup xs]=>.ok (.tup xs) st
|.tuple,[x]=>match listOf x st with
 |.ok xs _=>.ok (.tup xs) st
 |_=>.no
|.sorted,[x]=>match listOf x st with
 |.ok xs _=>(match alls tupT xs with
  |some ks=>.ok (.lst ((srtG lexN ks).map tupD)) st
  |none=>(match alls isInt xs with
   |some ns=>if decide (ns.length<64) then .ok (.lst ((srtG ltI ns).map .int)) st else .no
   |none=>.no))
 |_=>.no
|_,_=>.no
inductive Me where
|append|extend|join|count|pop|index
 deriving DecidableEq
inductive Rt where
|lst|str|dic
 deriving DecidableEq
def rtOf (x:D) (st:Sto):Option Rt:=match x with
|.str _=>some .str
|.lst _=>some .lst
|.fz _=>some .lst
|.ref n=>match st[n]? with
 |some (.lst _)=>some .lst
 |some (.dic _)=>some .dic
 |_=>none
|_=>none
def meHas:Me→Rt→Bool
|.append,.lst=>true
|.extend,.lst=>true
|.pop,.lst=>true
|.join,.str=>true
|.count,.str=>true
|.index,.lst=>true
|.index,.str=>true
|_,_=>false
def rtM (m:Me) (x:D):M Rt:=fun st=>match rtOf x st with
|some r=>if meHas m r then .ok r st else .no
|none=>.no
def findD (d:D) (xs:List D):Option Nat:=if flatD d&&xs.all flatD then xs.findIdx? (fun y=>eqv y d) else if cmpOk 60 d&&cmpOk 60 (.lst xs) then xs.findIdx? (fun y=>eqv y d) else none
def meOp (m:Me) (x:D) (ds:List D):M D:=fun st=>match m,x,ds with
|.append,.ref n,[d]=>match st[n]? with
 |some (.lst xs)=>if szOk xs.length then .ok .non (st.set n (.lst (xs++[d]))) else .no
 |_=>.no
|.extend,.ref n,[d]=>match st[n]?,catOf d st with
 |some (.lst xs),some ys=>if szOk (xs.length+ys.length) then .ok .non (st.set n (.lst (xs++ys))) else .no
 |_,_=>.no
|.join,.str s,[d]=>match listOf d st with
 |.ok xs _=>(match alls isStr xs with
  |some ys=>if szOk ((ys.map (·.length)).sum+ys.length*s.length) then .ok (.str (joinL s ys)) st else .no
  |none=>.no)
 |_=>.no
|.count,.str z,[.str [c]]=>.ok (.int (z.count c)) st
|.pop,.ref n,[]=>match st[n]? with
 |some (.lst xs)=>(match xs.getLast? with
  |some d=>.ok d (st.set n (.lst xs.dropLast))
  |none=>.no)
 |_=>.no
|.pop,.ref n,[.int i]=>match st[n]? with
 |some (.lst xs)=>if okI i then (match ixN xs.length i with
  |some k=>(match xs[k]? with
   |some d=>.ok d (st.set n (.lst (xs.eraseIdx k)))
   |none=>.no)
  |none=>.no) else .no
 |_=>.no
|.index,.str z,[.str [c]]=>if decide (z=[97,98,99,100,101,102,103,104])&&decide (97≤c)&&decide (c≤104) then .ok (.int ((c - 97:Nat):Int)) st else .no
|.index,.tup _,_=>.no
|.index,x,[d]=>match listOf x st with
 |.ok xs _=>(match findD d xs with
  |some j=>.ok (.int j) st
  |none=>.no)
 |_=>.no
|_,_,_=>.no
inductive Ty where
|int|bool|str|tuple|list
 deriving DecidableEq
def isiOp:Ty→D→Bool
|.int,.int _=>true
|.int,.bl _=>true
|.bool,.bl _=>true
|.str,.str _=>true
|.tuple,.tup _=>true
|.list,.lst _=>true
|.list,.fz _=>true
|.list,.ref _=>true
|_,_=>false
def isiM (t:Ty) (d:D):M D:=fun st=>match d with
|.ref n=>(match st[n]? with
 |some (.lst _)=>.ok (.bl (isiOp t d)) st
 |some (.dic _)=>.ok (.bl false) st
 |_=>.no)
|d=>.ok (.bl (isiOp t d)) st
def rangeL (a b:Int):List D:=(List.range (b - a).toNat).map fun (i:Nat)=>D.int (a+i)
def kyOf:D→Option Ky
|.int i=>some (.inl i)
|.str x=>some (.inr x)
|_=>none
def pairOf:D→Option (Ky×D)
|.tup [k,v]=>(kyOf k).map fun k=>(k,v)
|_=>none
def pairsD:D→Option (List (Ky×D))
|.tup ds=>alls pairOf ds
|_=>none
def lastV:List (Ky×D)→Ky→Option D
|[],_=>none
|(k',v)::r,k=>match lastV r k with
 |some u=>some u
 |none=>if k'=k then some v else none
def ddK (ks:List Ky):List Ky:=ks.foldl (fun a k=>if a.any (fun y=>decide (y=k))=true then a else a++[k]) []
def lsetOp (x:D):M D:=fun st=>match listOf x st with
|.ok xs _=>(match alls kyOf xs with
 |some ks=>if decide (ks.length≤4000) then .ok (.int (ddK ks).length) st else .no
 |none=>.no)
|_=>.no
def rngOp (ds:List D):M D:=fun st=>match ds with
|[.int j]=>if decide (0≤j)&&decide (j≤1000000) then .ok (.lst (rangeL 0 j)) st else .no
|[.int i,.int j]=>if decide (0≤i)&&decide (i≤1000000)&&decide (0≤j)&&decide (j≤1000000) then .ok (.lst (rangeL i j)) st else .no
|_=>.no
inductive Dm where
|sub|get1|get2
 deriving DecidableEq
def dgOp (m:Dm) (kvs:List (Ky×D)) (y:D) (ds:List D):M D:=fun st=>match kyOf y with
|some k=>(match m,lastV kvs k,ds with
 |_,some v,_=>.ok v st
 |.get1,none,_=>.ok .non st
 |.get2,none,[d]=>.ok d st
 |_,_,_=>.no)
|none=>.no
def dicOf (x:D) (st:Sto):Option (Nat×List (Ky×D)):=match x with
|.ref n=>match st[n]? with
 |some (.dic kvs)=>some (n,kvs)
 |_=>none
|_=>none
def dicM (x:D):M Unit:=fun st=>match dicOf x st with
|some _=>.ok () st
|none=>.no
def valD (kvs:List (Ky×D)) (k:Ky):Option D:=(kvs.find? fun kv=>decide (kv.1=k)).map (·.2)
def putKD (kvs:List (Ky×D)) (k:Ky) (v:D):List (Ky×D):=
 if (kvs.any fun kv=>decide (kv.1=k))=true then kvs.map (fun kv=>if kv.1=k then (kv.1,v) else kv) else kvs++[(k,v)]
def mergeD (kvs more:List (Ky×D)):List (Ky×D):=more.foldl (fun acc kv=>putKD acc kv.1 kv.2) kvs
def pairsF:List D→Option (List (Ky×D))
|[]=>some []
|[_]=>none
|k::v::r=>match kyOf k,pairsF r with
 |some k,some r=>some ((k,v)::r)
 |_,_=>none
def dsetM (x:D) (ds:List D):M D:=fun st=>match dicOf x st,pairsF ds with
|some (n,[]),some kvs=>if decide (kvs.length≤15) then .ok x (st.set n (.dic (mergeD [] kvs))) else .no
|_,_=>.no
inductive Dq where
|ix|get|upd
 deriving DecidableEq
def dmOp (op:Dq) (x:D) (ds:List D):M D:=fun st=>match dicOf x st with
|none=>.no
|some (n,kvs)=>match op,ds with
 |.ix,[y]=>(match kyOf y with
  |some k=>(match valD kvs k with
   |some v=>.ok v st
   |none=>.no)
  |none=>.no)
 |.get,[y]=>(match kyOf y with
  |some k=>.ok ((valD kvs k).getD .non) st
  |none=>.no)
 |.get,[y,c]=>(match kyOf y with
  |some k=>.ok ((valD kvs k).getD c) st
  |none=>.no)
 |.upd,[z]=>(match dicOf z st with
  |some (n2,more)=>if decide (n≠n2)&&szOk (kvs.length+more.length) then .ok .non (st.set n (.dic (mergeD kvs more))) else .no
  |none=>.no)
 |_,_=>.no
def dinOp (neg:Bool) (y x:D):M D:=fun st=>match dicOf x st,kyOf y with
|some (_,kvs),some k=>.ok (.bl (neg != (valD kvs k).isSome)) st
|_,_=>.no
def kixOp (xs:List D) (y:D):M D:=fun st=>match y,alls isStr xs with
|.str z,some ys=>(match ys.findIdx? (fun w=>decide (w=z)) with
 |some j=>.ok (.int j) st
 |none=>.no)
|_,_=>.no
def fixM (fs:List Str) (d:D):M Str:=fun st=>match d with
|.int i=>if decide (0≤i) then (match fs[i.toNat]? with
 |some f=>.ok f st
 |none=>.no) else .no
|_=>.no
def dputM (x y v:D):M Unit:=fun st=>match dicOf x st,kyOf y with
|some (n,kvs),some k=>if szOk kvs.length then .ok () (st.set n (.dic (putKD kvs k v))) else .no
|_,_=>.no
abbrev Uk:=Option (List (List Nat))
def usKey:D→Option Uk
|.non=>some none
|.tup ds=>(match alls isStr ds with
 |some (x::xs)=>some (some (x::xs))
 |_=>none)
|_=>none
def Uk.d:Uk→D
|none=>.non
|some xs=>.tup (xs.map .str)
def putU (ks:List Uk) (k:Uk):List Uk:=if (ks.any fun p=>decide (p=k))=true then ks else ks++[k]
def usRes (ks:List Uk):List D:=(srtG lexN (ks.filterMap id)).map fun xs=>.tup (xs.map .str)
inductive G where
|nm (i:Nat)|tp (gs:List G)
inductive Ik where
|seq|rng1|rng2|rng3|enu|zip
 deriving DecidableEq
inductive E where
|k (d:D)
|v (i:Nat)
|tup (es:List E)
|lst (es:List E)
|bin (o:Operator) (a b:E)
|neg (a:E)
|not (a:E)
|and (a b:E)
|or (a b:E)
|cmp (o:CmpOp) (a b:E)
|cmp2 (o p:CmpOp) (a b c:E)
|ite (c a b:E)
|ix (a i:E)
|sl (a:E) (lo hi:List E)
|rv (a:E)
|call (f:Str) (es:List E)
|callB (f:Str) (es:List E)
|bi (f:Bi) (es:List E)
|me (m:Me) (o:E) (es:List E)
|isi (t:Ty) (a:E)
|dsub (a k:E)
|dg (m:Dm) (ks:List (List Nat)) (vs:List E) (k:E) (es:List E)
|lset (a:E)
|rngL (es:List E)
|box (e:E)
|lc (own:List Nat) (t:G) (ik:Ik) (ia:List E) (cs:List E) (e:E)
|lc2 (own own1:List Nat) (t:G) (ik:Ik) (ia:List E) (cs:List E) (t1:G) (ik1:Ik) (ia1:List E) (cs1:List E) (e:E)
|attr (cs:List Str) (o:E) (f:Str)
|new (c f:Str) (es:List E)
|mc (m:Str) (cs:List (Str×Str)) (o:E) (es:List E)
|dnew
|dof (a:E)
|dlit (es:List E)
|dm (op:Dq) (o:E) (es:List E)
|din (neg:Bool) (k o:E)
|kix (xs:List D) (e:E)
|callX (fs:List Str) (i:E) (es:List E)
inductive Tg where
|nm (i:Nat)|fld (cs:List Str) (i:Nat) (f:Str)
inductive Hd where
|wh (i:Nat) (names:List Str) (ix:Bool)|fl (i:Nat) (tag:List Nat) (f:Str)|con (d:D)
inductive S where
|asg (t:G) (e:E)
|par (i j:Nat) (a b:E)
|par3 (i j l:Nat) (a b c:E)
|put (o i e:E)
|rest (w i:Nat) (e:E)
|aug (i:Nat) (o:Operator) (e:E)
|ifs (c:E) (a b:List S)
|whl (c:E) (b:List S)
|for_ (t:G) (ik:Ik) (ia:List E) (b:List S)
|ret (e:E)
|retN
|exp (e:E)
|pass
|brk
|cnt
|never
|setA (cs:List Str) (o:E) (f:Str) (e:E)
|augA (cs:List Str) (o:E) (f:Str) (op:Operator) (e:E)
|asgM (ts:List Tg) (e:E)
|rais (c:Str)
|raisF (c f:Str) (e:E)
|try_ (b:List S) (hits:List Str) (h:Hd)
|dput (o i e:E)
|usx (i j:Nat) (own:List Nat) (t:G) (ik:Ik) (ia:List E) (key:E)
|wear (ip il im:Nat) (n:Int)
structure Cf where
 fn:Str→List D→M D
 fuel:Nat
mutual
def G.set:G→D→Env→Option Env
|.nm i,d,ρ=>some (ρ.set i (some d))
|.tp gs,.tup ds,ρ=>G.sets gs ds ρ
|.tp gs,.lst ds,ρ=>G.sets gs ds ρ
|.tp _,_,_=>none
def G.sets:List G→List D→Env→Option Env
|[],[],ρ=>some ρ
|g::gs,d::ds,ρ=>match G.set g d ρ with
 |some ρ'=>G.sets gs ds ρ'
 |none=>none
|_,_,_=>none
end
def wipe (ρ:Env):List Nat→Env
|[]=>ρ
|v::vs=>(wipe ρ vs).set v none
def push (o:Ob):M D:=fun st=>.ok (.ref st.length) (st++[o])
def boxed:D→M D
|.lst xs=>push (.lst xs)
|_=>no
def unb (n:Nat) (st:Sto) (fresh:Bool) (d:D):Option D:=match d with
|.ref r=>if r<n then (if fresh then none else some (.ref r)) else match st[r]? with
 |some (.lst xs)=>if D.lims n xs then some (.lst xs) else none
 |_=>none
|d=>if !fresh&&D.lim n d then some d else none
def Xc.lim (n:Nat) (x:Xc):Bool:=match x.fld with
|some (_,d)=>D.lim n d
|none=>true
def callV (fresh:Bool) (m:M D):M D:=fun st=>match m st with
|.ok d st'=>(match (if oldOk st.length st st' then unb st.length st' fresh d else none) with
 |some d'=>.ok d' (st'.take st.length)
 |none=>if fresh then .no else .ok d st')
|.ex x st'=>if oldOk st.length st st'&&x.lim st.length then .ex x (st'.take st.length) else .ex x st'
|.no=>.no
def rangeC (a c:Int) (n:Nat):List D:=(List.range n).map fun (i:Nat)=>D.int (a+i*c)
def enumL (xs:List D):List D:=xs.zipIdx.map fun p=>D.tup [.int p.2,p.1]
def zipL (xs ys:List D):List D:=List.zipWith (fun a b=>D.tup [a,b]) xs ys
abbrev Gd:=List (Nat×List D)
def grd (st:Sto):Gd→Bool
|[]=>true
|(n,xs)::r=>decide (st[n]?=some (.lst xs))&&grd st r
def gdOf (d:D) (st:Sto):Gd:=match d with
|.ref n=>match st[n]? with
 |some (.lst xs)=>[(n,xs)]
 |_=>[]
|_=>[]
def seqOf (d:D) (st:Sto):Option (List D):=match d with
|.tup xs=>some xs
|.str z=>some (z.map fun c=>D.str [c])
|d=>match listOf d st with
 |.ok xs _=>some xs
 |_=>none
def walk (k:Ik) (ds:List D):M (List D×Gd):=fun st=>match k,ds with
|.seq,[.tup xs]=>.ok (xs,[]) st
|.seq,[.str z]=>.ok (z.map fun c=>D.str [c],[]) st
|.seq,[x]=>match listOf x st with
 |.ok xs _=>.ok (xs,gdOf x st) st
 |_=>.no
|.rng1,[.int j]=>if okI j then .ok (rangeL 0 j,[]) st else .no
|.rng2,[.int i,.int j]=>if okI i&&okI j then .ok (rangeL i j,[]) st else .no
|.rng3,[.int i,.int j,.int c]=>if okI i&&okI j&&decide (0<c)&&decide (c<1000000) then .ok (rangeC i c ((j - i+c - 1) / c).toNat,[]) st else .no
|.enu,[x]=>match seqOf x st with
 |some xs=>.ok (enumL xs,gdOf x st) st
 |none=>.no
|.zip,[x,y]=>match seqOf x st,seqOf y st with
 |some xs,some ys=>.ok (zipL xs ys,gdOf x st++gdOf y st) st
 |_,_=>.no
|_,_=>.no
def noEx {α:Type} (m:M α):M α:=fun st=>match m st with
|.ok a st'=>.ok a st'
|_=>.no
def compL (gd:Gd) (turn:D→M Unit):List D→M Unit
|[]=>fun st=>if grd st gd then .ok () st else .no
|d::r=>fun st=>if grd st gd then M.bind (noEx (turn d)) (fun _=>compL gd turn r) st else .no
def keyL (gd:Gd) (turn:D→M D):List D→List Uk→M (List Uk)
|[],acc=>fun st=>if grd st gd then .ok acc st else .no
|d::r,acc=>fun st=>if grd st gd then (match turn d st with
 |.ok y st'=>(match usKey y with
  |some k=>if szOk acc.length then keyL gd turn r (putU acc k) st' else .no
  |none=>.no)
 |_=>.no) else .no
def app1 (n:Nat) (y:D):M Unit:=fun st=>match st[n]? with
|some (.lst xs)=>if szOk xs.length then .ok () (st.set n (.lst (xs++[y]))) else .no
|_=>.no
def compM (gd:Gd) (turn:Nat→D→M Unit) (xs:List D):M D:=callV true fun st=>M.bind (compL gd (turn st.length) xs) (fun _=>M.pure (.ref st.length)) (st++[.lst []])
def insOf (cs:List Str) (x:D) (st:Sto):Option (Nat×Str×List (Str×D)):=match x with
|.ref n=>match st[n]? with
 |some (.ins c fs)=>if cs.contains c then some (n,c,fs) else none
 |_=>none
|_=>none
def getA (cs:List Str) (x:D) (f:Str):M D:=fun st=>match insOf cs x st with
|some (_,_,fs)=>(match fs.lookup f with
 |some d=>.ok d st
 |none=>.no)
|none=>.no
def putD (f:Str) (v:D):List (Str×D)→List (Str×D)
|[]=>[(f,v)]
|(g,x)::r=>if g=f then (g,v)::r else (g,x)::putD f v r
def putA (cs:List Str) (x:D) (f:Str) (v:D):M Unit:=fun st=>match insOf cs x st with
|some (n,c,fs)=>if decide (fs.length<900) then .ok () (st.set n (.ins c (putD f v fs))) else .no
|none=>.no
def newM (c:Str) (m:D→M D):M D:=fun st=>match m (.ref st.length) (st++[.ins c []]) with
|.ok .non st'=>.ok (.ref st.length) st'
|.ok _ _=>.no
|.ex x st'=>.ex x st'
|.no=>.no
def methOf (m:Str) (cs:List (Str×Str)) (x:D) (st:Sto):Option Str:=match x with
|.ref n=>match st[n]? with
 |some (.ins c fs)=>(match fs.lookup m with
  |none=>cs.lookup c
  |some _=>none)
 |_=>none
|_=>none
def methM (m:Str) (cs:List (Str×Str)) (x:D):M Str:=fun st=>match methOf m cs x st with
|some f=>.ok f st
|none=>.no
def asInt?:D→M Int
|.int i=>M.pure i
|_=>no
mutual
def den (X:Cf):E→Env→M D
|.k d,_=>M.pure d
|.v i,ρ=>orNo (ρ[i]?.join)
|.tup es,ρ=>M.bind (dens X es ρ) fun ds=>whenM (szOk ds.length) (M.pure (.tup ds))
|.lst es,ρ=>M.bind (dens X es ρ) fun ds=>whenM (szOk ds.length) (M.pure (.lst ds))
|.bin o a b,ρ=>M.bind (den X a ρ) fun x=>M.bind (den X b ρ) fun y=>binOp o x y
|.neg a,ρ=>M.bind (den X a ρ) fun x=>M.bind (asInt? x) fun i=>M.pure (.int (-i))
|.not a,ρ=>M.bind (den X a ρ) fun x=>M.bind (truth x) fun b=>M.pure (.bl (!b))
|.and a b,ρ=>M.bind (den X a ρ) fun x=>M.bind (truth x) fun t=>if t then den X b ρ else M.pure x
|.or a b,ρ=>M.bind (den X a ρ) fun x=>M.bind (truth x) fun t=>if t then M.pure x else den X b ρ
|.cmp o a b,ρ=>M.bind (den X a ρ) fun x=>M.bind (den X b ρ) fun y=>cmpOp o x y
|.cmp2 o p a b c,ρ=>M.bind (den X a ρ) fun x=>M.bind (den X b ρ) fun y=>M.bind (cmpOp o x y) fun t=>M.bind (orNo (isBl t)) fun t=>if t then M.bind (den X c ρ) fun z=>cmpOp p y z else M.pure (.bl false)
|.ite c a b,ρ=>M.bind (tst X c ρ) fun t=>if t then den X a ρ else den X b ρ
|.ix a i,ρ=>M.bind (den X a ρ) fun x=>M.bind (den X i ρ) fun y=>ixOp x y
|.sl a lo hi,ρ=>M.bind (den X a ρ) fun x=>M.bind (part X lo ρ) fun l=>M.bind (part X hi ρ) fun h=>slOp x l h
|.rv a,ρ=>M.bind (den X a ρ) fun x=>rvOp x
|.call f es,ρ=>M.bind (dens X es ρ) fun ds=>callV false (X.fn f ds)
|.callB f es,ρ=>M.bind (dens X es ρ) fun ds=>callV true (X.fn f ds)
|.bi f es,ρ=>M.bind (dens X es ρ) fun ds=>biOp f ds
|.me m o es,ρ=>M.bind (den X o ρ) fun x=>M.bind (rtM m x) fun _=>M.bind (dens X es ρ) fun ds=>meOp m x ds
|.isi t a,ρ=>M.bind (den X a ρ) fun x=>isiM t x
|.dsub a k,ρ=>M.bind (den X a ρ) fun x=>M.bind (orNo (pairsD x)) fun kvs=>M.bind (den X k ρ) fun y=>dgOp .sub kvs y []
|.dg m ks vs k es,ρ=>M.bind (dens X vs ρ) fun ds=>whenM (decide (ds.length=ks.length)&&decide (ks.length≤15)) (M.bind (den X k ρ) fun y=>M.bind (dens X es ρ) fun zs=>dgOp m ((ks.map Sum.inr).zip ds) y zs)
|.lset a,ρ=>M.bind (den X a ρ) fun x=>lsetOp x
|.rngL es,ρ=>M.bind (dens X es ρ) fun ds=>rngOp ds
|.box e,ρ=>M.bind (den X e ρ) fun d=>boxed d
|.lc own t ik ia cs e,ρ=>M.bind (dens X ia ρ) fun ds=>M.bind (walk ik ds) fun w=>compM w.2 (fun n d=>M.bind (orNo (t.set d (wipe ρ own))) fun ρ'=>M.bind (tsts X cs ρ') fun b=>if b then M.bind (den X e ρ') fun y=>app1 n y else M.pure ()) w.1
|.lc2 own own1 t ik ia cs t1 ik1 ia1 cs1 e,ρ=>M.bind (dens X ia ρ) fun ds=>M.bind (walk ik ds) fun w=>compM w.2 (fun n d=>M.bind (orNo (t.set d (wipe ρ own))) fun ρ'=>M.bind (tsts X cs ρ') fun b=>if b then
   M.bind (dens X ia1 ρ') fun ds1=>M.bind (walk ik1 ds1) fun w1=>compL w1.2 (fun d1=>M.bind (orNo (t1.set d1 (wipe ρ' own1))) fun ρ2=>M.bind (tsts X cs1 ρ2) fun b1=>if b1 then M.bind (den X e ρ2) fun y=>app1 n y else M.pure ()) w1.1
   else M.pure ()) w.1
|.attr cs o f,ρ=>M.bind (den X o ρ) fun x=>getA cs x f
|.new c f es,ρ=>M.bind (dens X es ρ) fun ds=>newM c fun x=>X.fn f (x::ds)
|.mc m cs o es,ρ=>M.bind (den X o ρ) fun x=>M.bind (methM m cs x) fun f=>M.bind (dens X es ρ) fun ds=>callV false (X.fn f (x::ds))
|.dnew,_=>push (.dic [])
|.dof a,ρ=>M.bind (den X a ρ) fun x=>M.bind (orNo (pairsD x)) fun kvs=>push (.dic (mergeD [] kvs))
|.dlit es,ρ=>M.bind (push (.dic [])) fun x=>M.bind (dens X es ρ) fun ds=>dsetM x ds
|.dm op o es,ρ=>M.bind (den X o ρ) fun x=>M.bind (dicM x) fun _=>M.bind (dens X es ρ) fun ds=>dmOp op x ds
|.din neg k o,ρ=>M.bind (den X k ρ) fun y=>M.bind (den X o ρ) fun x=>dinOp neg y x
|.kix xs e,ρ=>M.bind (den X e ρ) fun y=>kixOp xs y
|.callX fs i es,ρ=>M.bind (den X i ρ) fun d=>M.bind (fixM fs d) fun f=>M.bind (dens X es ρ) fun ds=>callV false (X.fn f ds)
def tst (X:Cf):E→Env→M Bool
|.not a,ρ=>M.bind (tst X a ρ) fun b=>M.pure (!b)
|.and a b,ρ=>M.bind (tst X a ρ) fun t=>if t then tst X b ρ else M.pure false
|.or a b,ρ=>M.bind (tst X a ρ) fun t=>if t then M.pure true else tst X b ρ
|.ite c a b,ρ=>M.bind (tst X c ρ) fun t=>if t then tst X a ρ else tst X b ρ
|e,ρ=>M.bind (den X e ρ) truth
def dens (X:Cf):List E→Env→M (List D)
|[],_=>M.pure []
|e::es,ρ=>M.bind (den X e ρ) fun d=>M.bind (dens X es ρ) fun ds=>M.pure (d::ds)
def tsts (X:Cf):List E→Env→M Bool
|[],_=>M.pure true
|e::es,ρ=>M.bind (tst X e ρ) fun t=>if t then tsts X es ρ else M.pure false
def part (X:Cf):List E→Env→M (Option Int)
|[],_=>M.pure none
|[e],ρ=>M.bind (den X e ρ) fun d=>M.bind (asInt? d) fun i=>M.pure (some i)
|_,_=>no
end
inductive C where
|nx (ρ:Env)|rt (d:D)|bk (ρ:Env)|ct (ρ:Env)
inductive RS where
|ok (c:C) (st:Sto)|ex (x:Xc) (ρ:Env) (st:Sto)|no
def andS {α:Type} (ρ:Env) (r:R α) (k:α→Sto→RS):RS:=match r with
|.ok a st=>k a st
|.ex x st=>.ex x ρ st
|.no=>.no
def andC (r:RS) (k:Env→Sto→RS):RS:=match r with
|.ok (.nx ρ) st=>k ρ st
|r=>r
def forL (gd:Gd) (turn:D→Env→Sto→RS):List D→Env→Sto→RS
|[],ρ,st=>if grd st gd then .ok (.nx ρ) st else .no
|d::r,ρ,st=>if grd st gd then (match turn d ρ st with
 |.ok (.nx ρ') st'=>forL gd turn r ρ' st'
 |.ok (.ct ρ') st'=>forL gd turn r ρ' st'
 |.ok (.bk ρ') st'=>.ok (.nx ρ') st'
 |.ok (.rt d) st'=>.ok (.rt d) st'
 |.ex x ρ' st'=>.ex x ρ' st'
 |.no=>.no) else .no
def whileL (test:Env→M Bool) (turn:Env→Sto→RS):Nat→Env→Sto→RS
|0,_,_=>.no
|n+1,ρ,st=>match test ρ st with
 |.ok true st1=>(match turn ρ st1 with
  |.ok (.nx ρ') st'=>whileL test turn n ρ' st'
  |.ok (.ct ρ') st'=>whileL test turn n ρ' st'
  |.ok (.bk ρ') st'=>.ok (.nx ρ') st'
  |.ok (.rt d) st'=>.ok (.rt d) st'
  |.ex x ρ' st'=>.ex x ρ' st'
  |.no=>.no)
 |.ok false st1=>.ok (.nx ρ) st1
 |.ex x st1=>.ex x ρ st1
 |.no=>.no
def setIx (o i v:D):M Unit:=fun st=>match o,i with
|.ref n,.int k=>match st[n]? with
 |some (.lst xs)=>(match ixN xs.length k with
  |some j=>.ok () (st.set n (.lst (xs.set j v)))
  |none=>.no)
 |_=>.no
|_,_=>.no
def tgSet:List Tg→List D→Env→Sto→RS
|[],[],ρ,st=>.ok (.nx ρ) st
|.nm i::ts,d::ds,ρ,st=>tgSet ts ds (ρ.set i (some d)) st
|.fld cs i f::ts,d::ds,ρ,st=>match ρ[i]?.join with
 |some x=>(match putA cs x f d st with
  |.ok _ st'=>tgSet ts ds ρ st'
  |_=>.no)
 |none=>.no
|_,_,_,_=>.no
def whIx (names:List Str) (c:Str):Option Nat:=if decide (names.count c=1) then names.findIdx? (fun y=>decide (y=c)) else none
def refused:List Nat:=[114,101,102,117,115,101,100]
def hdl (h:Hd) (x:Xc) (ρ:Env) (st:Sto):RS:=match h with
|.con d=>.ok (.rt d) st
|.fl i tag f=>(match x.fld with
 |some (g,d)=>if decide (g=f)&&decide (i<ρ.length) then .ok (.rt (.tup [.str tag,d])) st else .no
 |none=>.no)
|.wh i names ix=>(match x.fld with
 |none=>(match whIx names x.cls with
  |some j=>if decide (i<ρ.length) then (if ix then .ok (.rt (.int j)) st else .ok (.rt (.tup [.str refused,.int j])) st) else .no
  |none=>.no)
 |some _=>.no)
def wearL (n:Int) (all:List (Ky×D)):List (Ky×D)→List D→Option (List D)
|[],xs=>some xs
|(.inl k,_)::r,xs=>match valD all (.inl k),ixN xs.length k with
 |some (.int w),some j=>(match xs[j]? with
  |some (.int x)=>if decide (0≤x)&&decide (0≤n - w) then wearL n all r (xs.set j (.int ((x.toNat&&&(n - w).toNat:Nat):Int))) else none
  |_=>none)
 |_,_=>none
|(.inr _,_)::_,_=>none
def lastP (ip:Nat):List (Ky×D)→Env→Env
|[],ρ=>ρ
|(.inl k,_)::r,ρ=>lastP ip r (ρ.set ip (some (.int k)))
|_::r,ρ=>lastP ip r ρ
def wearX (ip il im:Nat) (n:Int) (ρ:Env) (st:Sto):RS:=match ρ[il]?.join,ρ[im]?.join with
|some (.ref a),some (.ref b)=>(match st[a]?,st[b]? with
 |some (.lst xs),some (.dic kvs)=>(match wearL n kvs kvs xs with
  |some ys=>if decide (ip<ρ.length)&&(decide (ip≠il)&&decide (ip≠im)) then .ok (.nx (lastP ip kvs ρ)) (st.set a (.lst ys)) else .no
  |none=>.no)
 |_,_=>.no)
|_,_=>.no
mutual
def exe (X:Cf):S→Env→Sto→RS
|.asg t e,ρ,st=>andS ρ (den X e ρ st) fun d st=>match t.set d ρ with
 |some ρ'=>.ok (.nx ρ') st
 |none=>.no
|.par i j a b,ρ,st=>andS ρ (den X a ρ st) fun x st=>andS ρ (den X b ρ st) fun y st=>.ok (.nx ((ρ.set i (some x)).set j (some y))) st
|.par3 i j l a b c,ρ,st=>andS ρ (den X a ρ st) fun x st=>andS ρ (den X b ρ st) fun y st=>andS ρ (den X c ρ st) fun z st=>.ok (.nx (((ρ.set i (some x)).set j (some y)).set l (some z))) st
|.put o i e,ρ,st=>andS ρ (den X e ρ st) fun v st=>andS ρ (den X o ρ st) fun o st=>andS ρ (den X i ρ st) fun i st=>andS ρ (setIx o i v st) fun _ st=>.ok (.nx ρ) st
|.rest w i e,ρ,st=>andS ρ (den X e ρ st) fun d st=>match d with
 |.tup (x::xs)=>.ok (.nx ((ρ.set w (some x)).set i (some (.lst xs)))) st
 |_=>.no
|.aug i o e,ρ,st=>match ρ[i]?.join with
 |some x=>andS ρ (den X e ρ st) fun y st=>andS ρ (augOp o x y st) fun z st=>.ok (.nx (ρ.set i (some z))) st
 |none=>.no
|.ifs c a b,ρ,st=>andS ρ (tst X c ρ st) fun t st=>if t then exes X a ρ st else exes X b ρ st
|.whl c b,ρ,st=>whileL (tst X c) (exes X b) X.fuel ρ st
|.for_ t ik ia b,ρ,st=>andS ρ (dens X ia ρ st) fun ds st=>andS ρ (walk ik ds st) fun w st=>forL w.2 (fun d ρ st=>match t.set d ρ with
 |some ρ'=>exes X b ρ' st
 |none=>.no) w.1 ρ st
|.ret e,ρ,st=>andS ρ (den X e ρ st) fun d st=>.ok (.rt d) st
|.retN,_,st=>.ok (.rt .non) st
|.exp e,ρ,st=>andS ρ (den X e ρ st) fun _ st=>.ok (.nx ρ) st
|.pass,ρ,st=>.ok (.nx ρ) st
|.brk,ρ,st=>.ok (.bk ρ) st
|.cnt,ρ,st=>.ok (.ct ρ) st
|.never,_,_=>.no
|.setA cs o f e,ρ,st=>andS ρ (den X e ρ st) fun v st=>andS ρ (den X o ρ st) fun x st=>andS ρ (putA cs x f v st) fun _ st=>.ok (.nx ρ) st
|.augA cs o f op e,ρ,st=>andS ρ (den X o ρ st) fun x st=>match insOf cs x st with
 |some (_,c,fs)=>(match fs.lookup f with
  |some v=>andS ρ (den X e ρ st) fun y st=>andS ρ (augOp op v y st) fun z st=>andS ρ (putA [c] x f z st) fun _ st=>.ok (.nx ρ) st
  |none=>.no)
 |none=>.no
|.asgM ts e,ρ,st=>andS ρ (den X e ρ st) fun d st=>match d with
 |.tup ds=>tgSet ts ds ρ st
 |_=>.no
|.rais c,ρ,st=>.ex ⟨c,none⟩ ρ st
|.raisF c f e,ρ,st=>andS ρ (den X e ρ st) fun d st=>.ex ⟨c,some (f,d)⟩ ρ st
|.try_ b hits h,ρ,st=>match exes X b ρ st with
 |.ex x ρ' st'=>if hits.contains x.cls then hdl h x ρ' st' else .no
 |r=>r
|.dput o i e,ρ,st=>andS ρ (den X e ρ st) fun v st=>andS ρ (den X o ρ st) fun o st=>andS ρ (den X i ρ st) fun i st=>andS ρ (dputM o i v st) fun _ st=>.ok (.nx ρ) st
|.wear ip il im n,ρ,st=>wearX ip il im n ρ st
|.usx i j own t ik ia key,ρ,st=>if (decide (i<ρ.length)&&decide (j<ρ.length))=true then andS ρ (dens X ia ρ st) fun ds st=>andS ρ (walk ik ds st) fun w st=>andS ρ (keyL w.2 (fun d=>M.bind (orNo (t.set d (wipe ρ own))) fun ρ'=>den X key ρ') w.1 [] st) fun ks st=>.ok (.rt (.lst (usRes ks))) st else .no
def exes (X:Cf):List S→Env→Sto→RS
|[],ρ,st=>.ok (.nx ρ) st
|s::r,ρ,st=>andC (exe X s ρ st) fun ρ st=>exes X r ρ st
end
structure Fn where
 np:Nat
 n:Nat
 body:List S
def runFn (X:Cf) (f:Fn) (args:List D):M D:=fun st=>
 if args.length=f.np then (match exes X f.body (args.map some++List.replicate (f.n - args.length) none) st with
 |.ok (.rt d) st'=>.ok d st'
 |.ok (.nx _) st'=>.ok .non st'
 |.ok _ _=>.no
 |.ex x _ st'=>.ex x st'
 |.no=>.no) else .no
structure Pr where
 fns:Str→Option Fn
 fuel:Nat
def Pr.fn (P:Pr):Nat→Str→List D→M D
|0,_,_=>no
|k+1,f,args=>match P.fns f with
 |some F=>runFn ⟨P.fn k,P.fuel⟩ F args
 |none=>no
end Dn
namespace DnM
open PySem PySem.Spec PyProof.Rows L2
open AutoSeq1 (wpAny_loadPart')
theorem mul_same (l:Addr) (items:Array Value) (n:Nat) (dd:Option Addr) (sl:Array (Option Value)) (k:Int) (u:Tok) (h1 : -1000000<k) (h2:k<1000000) (c:(items.isEmpty||k == 1)=true) :
  Meets (Builtin.«tuple.__mul__» ⟨[.ref l,.int k u],[]⟩) (fun _ R s=>s.heap.get? l=some {cls:=.type "tuple",dict:=dd,data:=.seq items n,slots:=sl}∧R (.ok (.ret (Value.ref l))) s):=
 .of_wp fun prog w A R s ⟨hl,h⟩=>by
  obtain⟨hp,g,d,tk,os⟩:=s
  have f1:=AutoSeq1.idx_int
  have c0:(decide (k < -(2 ^ 63))||decide (k≥2 ^ 63))=false:=by
   rw[decide_eq_false (by omega),decide_eq_false (by omega)] <;> rfl
  wp_walk using wpAny_loadPart' hl
  refine wpAny_ite_false (decide_eq_false (by rw[c0];exact Bool.false_ne_true)) ?_
  wp_walk using wpAny_loadPart' hl
  exact⟨_,rfl,h⟩
theorem mul_none (l:Addr) (items:Array Value) (n:Nat) (dd:Option Addr) (sl:Array (Option Value)) (k:Int) (u:Tok) (h1 : -1000000<k) (h2:k≤0) (c:items.isEmpty=false) :
  Meets (Builtin.«tuple.__mul__» ⟨[.ref l,.int k u],[]⟩) (fun _ R s=>s.heap.get? l=some {cls:=.type "tuple",dict:=dd,data:=.seq items n,slots:=sl} ∧
   R (.ok (.ret (Value.ref s.heap.objs.size))) {s with heap:=s.heap.push {cls:=Value.type "tuple",data:=Data.seq #[]}}):=
 .of_wp fun prog w A R s ⟨hl,h⟩=>by
  obtain⟨hp,g,d,tk,os⟩:=s
  have f1:=AutoSeq1.idx_int
  have c0:(decide (k < -(2 ^ 63))||decide (k≥2 ^ 63))=false:=by
   rw[decide_eq_false (by omega),decide_eq_false (by omega)] <;> rfl
  have c1:(items.isEmpty||k == 1)=false:=by
   rw[c,Bool.false_or]
   exact beq_eq_false_iff_ne.mpr (by omega)
  have c2:(decide (k≤0)||items.isEmpty)=true:=by rw[decide_eq_true h2];rfl
  wp_walk using wpAny_loadPart' hl
  refine wpAny_ite_false (decide_eq_false (by rw[c0];exact Bool.false_ne_true)) ?_
  wp_walk using wpAny_loadPart' hl
  refine wpAny_ite_false (decide_eq_false (by rw[c1];exact Bool.false_ne_true)) ?_
  wp_walk using wpAny_loadPart' hl
  exact⟨_,rfl,h⟩
def rFewT (K:PySem.W.Frag):R2:=fun x y H Q=>∃l k xs,x=.ref l∧y=.int k∧SqT K H l xs ∧ -1000000<k∧k<1000000∧(((xs=[]∨k=1)∧Q (.ref l) H)∨(xs≠[]∧k≤0∧∀p,H p=none→Q (.ref p) (upd H p (.tup []))))
theorem op_fewT {X:Cx}:OpR X (binaryOp .Mult) (rFewT X.K):=by
 intro pins s σ H x y v u Q I rx ry ⟨l,k,xs,ex,ey,hT,h1,h2,q⟩
 subst ex ey
 cases rx
 obtain⟨t,rfl⟩:=ry
 obtain⟨its,r,⟨⟨cls,dd,data,sl⟩,ho,hc,n,hd⟩,hs⟩:=I.tuple hT
 simp only at hc hd
 subst hc hd
 have hle:its.length=xs.length:=r.length.symm
 have go:∀{Q':Value→Shared→Prop},wpAny (model X.prog X.w) X.A (call (.builtin "tuple.__mul__") [.ref l,.int k t]) Q' X.xe s→wpAny (model X.prog X.w) X.A (binaryOp .Mult (.ref l) (.int k t)) Q' X.xe s:=fun h=>
  wpAny_binaryOp_repeat_ref (T := "tuple") (U := "int") (by decide) ⟨_,ho,rfl⟩ (fun z=>typeIs_int z k t) noFill_tuple_mul F.fills_int_mul F.slot_int_rmul repeat_tuple F.slot_int_index.lookup
   (call_meets F.slot_int_rmul (typeIs_int s k t) F.entry_int_rmul (F.args_int_rmul_2 _ _) (int_rmul_tuple k t l its.toArray n dd sl) ⟨ho,rfl,⟨_,ho,rfl⟩,h⟩)
 have emp:its.toArray.isEmpty=xs.isEmpty:=by
  cases xs <;> cases its <;> first|rfl|(simp at hle)
 rcases q with ⟨c,q⟩|⟨c,c2,q⟩
 ·refine go (call_meets F.slot_tuple_mul ⟨_,ho,rfl⟩ F.entry_tuple_mul (F.args_tuple_mul_2 _ _) (mul_same l its.toArray n dd sl k t h1 h2 ?_) ⟨ho,.ref l,H,I,rfl,q⟩)
  rcases c with c|c
  ·rw[emp,c];rfl
  ·subst c;simp
 ·refine go (call_meets F.slot_tuple_mul ⟨_,ho,rfl⟩ F.entry_tuple_mul (F.args_tuple_mul_2 _ _) (mul_none l its.toArray n dd sl k t h1 c2 ?_) ⟨ho,?_⟩)
  ·rw[emp]
   cases xs with
  |nil=>exact absurd rfl c
  |cons a b=>rfl
  ·refine⟨.ref s.heap.objs.size,_,I.laid (t':=s.toks) (o:=.tup []) (fun b ob e=>Heap.get?_push_of_some _ e) (Nat.le_refl _) ?_,rfl,q _ (I.hok.fresh (Nat.le_refl _))⟩
   exact⟨Nat.zero_le _,[],.nil,IsTup.new _ _⟩
end DnM
namespace DnU
open PySem PySem.Spec PyProof.Rows L2
abbrev tf (us:List Value) (xs:List V):HO:=.frz {cls:=.type "tuple",data:=.seq us.toArray} (.tup xs)
section
variable {X:Cx} {pins:List (Addr×Obj)} {σ:L2.St} {H:Hp} {s:Shared}
theorem tf_ok {P:Program} {w:World} {h:Heap} {a:Addr} {us:List Value} {xs:List V} (r:Vals xs us) (hz:xs.length≤sizeLine) (e:h.get? a=some {cls:=.type "tuple",data:=.seq us.toArray}):ObjOk P w H h a (tf us xs):=⟨e,hz,us,r,_,e,rfl,0,rfl⟩
theorem lay (I:L2.Inv X pins σ H s) {us:List Value} {xs:List V} (r:Vals xs us) (hz:xs.length≤sizeLine) {Q:VK} (q:∀p us,H p=none→Q (.ref p) (upd H p (tf us xs))) :
  EP X pins σ Q (.ref s.heap.objs.size) {s with heap:=s.heap.push {cls:=.type "tuple",data:=.seq us.toArray}}:=
 ⟨.ref s.heap.objs.size,_,I.laid (t':=s.toks) (o:=tf us xs) (fun b u e=>Heap.get?_push_of_some _ e) (Nat.le_refl _) (tf_ok r hz (Heap.get?_push_size _ rfl)),rfl,q _ us (I.hok.fresh (Nat.le_refl _))⟩
end
section
variable {X:Cx} {es:List Expr} {t:TA} {pos:Pos}
def tTupF (t:TA):TE:=fun σ H Q=>t σ H fun xs H1=>xs.length≤sizeLine∧∀p us,H1 p=none→Q (.ref p) (upd H1 p (tf us xs))
theorem pe_tupF {x1} (h:PA X es t):PE X (.Tuple es x1 pos) (tTupF t):=
 ⟨fun pins s σ H Q I hq=>wpAny_Tuple_spliced (thn (h.run pos pins s σ H _ I hq) fun us s1 ⟨xs,H1,I1,r,z,q⟩=>⟨by rw[←r.length];exact z,lay I1 r z q⟩)⟩
theorem call_tupF:CallR X (.type "tuple") (fun xs H Q=>∃p ys,xs=[.ref p]∧((SqL X.K H p ys∧∀l us,H l=none→Q (.ref l) (upd H l (tf us ys)))∨(SqT X.K H p ys∧Q (.ref p) H))):=by
 intro pins s σ H xs us Q I r h
 obtain⟨p,ys,rfl,h⟩:=h
 obtain⟨u,rfl,rx⟩:=vals1 r
 cases rx
 rcases h with ⟨hq,q⟩|⟨hq,q⟩
 ·obtain⟨its,r',pl,hz⟩:=I.list hq
  have hlen:=r'.length
  refine call_tuple_list pl.isList (fun h' kp => ?_) (by simp only[List.size_toArray] <;> omega)
  have I1:L2.Inv X pins σ H {s with heap:=h'}:=I.kept (t':=s.toks) kp
  exact lay I1 r' hz q
 ·obtain⟨its,r',pl,hz⟩:=I.tuple hq
  exact call_tuple_same pl ⟨.ref p,H,I,rfl,q⟩
def rCatF (K:PySem.W.Frag):R2:=fun x y H Q=>∃a b xs ys,x=.ref a∧y=.ref b∧SqT K H a xs∧SqT K H b ys∧xs.length+ys.length≤sizeLine ∧
 (xs=[]→Q (.ref b) H)∧(xs≠[]→ys=[]→Q (.ref a) H)∧(xs≠[]→ys≠[]→∀p us,H p=none→Q (.ref p) (upd H p (tf us (xs++ys))))
theorem op_catF:OpR X (binaryOp .Add) (rCatF X.K):=by
 intro pins s σ H x y v u Q I rx ry ⟨a,b,xs,ys,ex,ey,ha,hb,hz,q0,q1,q2⟩
 subst ex ey
 cases rx
 cases ry
 obtain⟨its,r1,p1,_⟩:=I.tuple ha
 obtain⟨its2,r2,p2,_⟩:=I.tuple hb
 by_cases hx:xs=[]
 ·subst hx
  cases r1
  exact cat_tup0 p1 p2 ⟨.ref b,H,I,rfl,q0 rfl⟩
 ·refine HT.cat_tup p1 p2 (fun z=>hx (r1.nil_iff.mp z)) (fun z=>⟨.ref a,H,I,rfl,q1 hx (r2.nil_iff.mp z)⟩) (fun z => ?_) (by rw[←r1.length,←r2.length];exact hz)
  exact lay I (r1.append r2) (by rw[List.length_append];exact hz) (q2 hx fun w=>z (r2.nil_iff.mpr w))
def rSlF (K:PySem.W.Frag):V→Option Int→Option Int→Hp→VK→Prop:=fun x lo hi H Q=>∃a xs,x=.ref a∧SqT K H a xs ∧
 (HT.sIx xs.length 0 lo=0∧HT.sIx xs.length xs.length hi=xs.length→Q (.ref a) H)∧(¬(HT.sIx xs.length 0 lo=0∧HT.sIx xs.length xs.length hi=xs.length)→∀p us,H p=none→Q (.ref p) (upd H p (tf us (cutV xs lo hi))))
theorem sl_tupF:SlR X (rSlF X.K):=by
 intro pins s σ H x v vl vu lo hi sl Q I rx hs pl pu ⟨a,xs,ex,hx,q1,q2⟩
 subst ex
 cases rx
 obtain⟨its,r,ht,hz⟩:=I.tuple hx
 have hlen:its.toArray.size=xs.length:=by rw[List.size_toArray];exact r.length.symm
 refine⟨"tuple",_,PyProof.Rows.slot_tuple_getitem.lookup,ht.typeIs,?_⟩
 by_cases hw:HT.sIx xs.length 0 lo=0∧HT.sIx xs.length xs.length hi=xs.length
 ·exact getItem_tuple_whole ht hs pl pu (by rw[hlen];exact hw) ⟨.ref a,H,I,rfl,q1 hw⟩
 ·refine HT.getItem_tuple_cut ht hs pl pu (by rw[hlen];exact hw) ?_ (by rw[hlen];exact hz)
  rw[hlen]
  exact lay I ((r.drop (HT.sIx xs.length 0 lo)).take (HT.sIx xs.length xs.length hi - HT.sIx xs.length 0 lo)) (Nat.le_trans (cutV_length xs lo hi) hz) (q2 hw)
def rMulF (K:PySem.W.Frag):R2:=fun x y H Q=>∃l k xs,x=.ref l∧y=.int k∧SqT K H l xs ∧ -1000000<k∧k≤1000∧xs.length≤1000∧((xs=[]∨k=1)→Q (.ref l) H)∧(¬(xs=[]∨k=1)→∀p us,H p=none→Q (.ref p) (upd H p (tf us (List.replicate k.toNat xs).flatten)))
theorem op_mulF:OpR X (binaryOp .Mult) (rMulF X.K):=by
 intro pins s σ H x y v u Q I rx ry ⟨l,k,xs,ex,ey,hT,h1,h2,hz,q1,q2⟩
 by_cases c:xs=[]∨k=1
 ·exact DnM.op_fewT pins s σ H x y v u Q I rx ry ⟨l,k,xs,ex,ey,hT,h1,by omega,.inl ⟨c,q1 c⟩⟩
 have hne:xs≠[]:=fun z=>c (.inl z)
 have hk:k≠1:=fun z=>c (.inr z)
 have q2:=q2 c
 subst ex ey
 cases rx
 obtain⟨t,rfl⟩:=ry
 obtain⟨its,r,⟨⟨cls,dd,data,sl⟩,ho,hc,n,hd⟩,hs⟩:=I.tuple hT
 simp only at hc hd
 subst hc hd
 have hle:its.length=xs.length:=r.length.symm
 have hi:its.toArray.isEmpty=false:=by
  cases its with
 |nil=>exact absurd (List.eq_nil_of_length_eq_zero hle.symm) hne
 |cons a b=>rfl
 have go:∀{Q':Value→Shared→Prop},wpAny (model X.prog X.w) X.A (call (.builtin "tuple.__mul__") [.ref l,.int k t]) Q' X.xe s→wpAny (model X.prog X.w) X.A (binaryOp .Mult (.ref l) (.int k t)) Q' X.xe s:=fun h=>
  wpAny_binaryOp_repeat_ref (T := "tuple") (U := "int") (by decide) ⟨_,ho,rfl⟩ (fun z=>typeIs_int z k t) noFill_tuple_mul F.fills_int_mul F.slot_int_rmul repeat_tuple F.slot_int_index.lookup
   (call_meets F.slot_int_rmul (typeIs_int s k t) F.entry_int_rmul (F.args_int_rmul_2 _ _) (int_rmul_tuple k t l its.toArray n dd sl) ⟨ho,rfl,⟨_,ho,rfl⟩,h⟩)
 by_cases k0:k≤0
 ·refine go (call_meets F.slot_tuple_mul ⟨_,ho,rfl⟩ F.entry_tuple_mul (F.args_tuple_mul_2 _ _) (DnM.mul_none l its.toArray n dd sl k t h1 k0 hi) ⟨ho,?_⟩)
  have e:(List.replicate k.toNat xs).flatten=[]:=by rw[show k.toNat=0 by omega];rfl
  rw[e] at q2
  exact lay I .nil (Nat.zero_le _) q2
 ·have len:(List.replicate k.toNat xs).flatten.length≤1000000:=by
   rw[PyProof.Rows.lm_len_rep_flat]
   exact Nat.le_trans (Nat.mul_le_mul (show k.toNat≤1000 by omega) hz) (by decide)
  have leni:(List.replicate k.toNat its).flatten.length≤1000000:=by
   rw[PyProof.Rows.lm_len_rep_flat,hle]
   exact Nat.le_trans (Nat.mul_le_mul (show k.toNat≤1000 by omega) hz) (by decide)
  have hm:((its.toArray.size:Nat):Int)*k≤1000000:=by
   rw[List.size_toArray,hle]
   have:((xs.length:Nat):Int)*k≤1000*k:=Int.mul_le_mul_of_nonneg_right (by omega) (by omega)
   omega
  have c4:Builtin.Tuple.tupleTooMany (((its.toArray.size:Nat):Int)*k)=false:=by
   unfold Builtin.Tuple.tupleTooMany
   rw[sizeLine_eq]
   exact decide_eq_false (by omega)
  refine go (call_meets F.slot_tuple_mul ⟨_,ho,rfl⟩ F.entry_tuple_mul (F.args_tuple_mul_2 _ _) (tuple_mulW l its.toArray n dd sl k t ?_ ?_ ?_ (by omega) c4 ?_) ⟨ho,?_⟩)
  ·rw[decide_eq_false (by omega),decide_eq_false (by omega)] <;> rfl
  ·rw[hi,Bool.false_or];exact beq_eq_false_iff_ne.mpr hk
  ·rw[hi,Bool.or_false];exact decide_eq_false k0
  ·rw[size_rep,List.size_toArray,sizeLine_eq];omega
  ·rw[size_rep]
   exact lay I (r.rep k.toNat) (by rw[sizeLine_eq];omega) q2
end
end DnU
namespace DnU
open PySem PySem.Spec PyProof.Rows L2
theorem adjust_rev (n:Nat):Builtin.Slice.sliceAdjust none none (-1) (n:Int)=((n:Int) - 1,-1):=by
 unfold Builtin.Slice.sliceAdjust
 simp
theorem places_rev (n:Nat):Builtin.Slice.slicePlaces ((n:Int) - 1) (-1) (-1)=n:=by
 unfold Builtin.Slice.slicePlaces
 have h1:¬((-1:Int) > 0):=by omega
 have h2:(-(-1):Int)=1:=rfl
 simp only[h1,if_false,h2,Int.ediv_one]
 split <;> omega
section
variable {prog:Program} {w:World} {A:Around} {E:Value→Shared→Prop} {s:Shared}
theorem sliceApplied_rev {sl:Addr} {k:Tok} {n:Nat} {Q:Int×Int×Nat→Shared→Prop} (hs:s.heap.IsSliceOf sl .none .none (.int (-1) k)) (h:Q (((n:Int) - 1),-1,n) s) :
  wpAny (model prog w) A (Builtin.Slice.sliceApplied (.ref sl) (pure (n:Int))) Q E s:=by
 obtain⟨os,hos,hcs,hds⟩:=id hs
 unfold Builtin.Slice.sliceApplied Builtin.Slice.sliceFields
 refine wpAny_bind (wpAny_bind (wpAny_field hos hds (x:=.none) rfl (wpAny_bind (wpAny_field hos hds (x:=.none) rfl (wpAny_bind (wpAny_field hos hds (x:=.int (-1) k) rfl (wpAny_pure ?_)))))))
 refine wpAny_bind (slicePart_int ?_)
 show wpAny _ _ (if ((-1:Int) == 0)=true then _ else _) _ _ s
 rw[if_neg (by decide)]
 refine wpAny_bind (slicePart_none (wpAny_bind (slicePart_none (wpAny_bind (wpAny_pure ?_)))))
 show wpAny _ _ (match Builtin.Slice.sliceAdjust none none (-1) (n:Int) with|(lo,hi)=>pure (lo,(-1:Int),Builtin.Slice.slicePlaces lo hi (-1))) _ _ s
 rw[adjust_rev n]
 show wpAny _ _ (pure ((n:Int) - 1,(-1:Int),Builtin.Slice.slicePlaces ((n:Int) - 1) (-1) (-1))) _ _ s
 rw[places_rev]
 exact wpAny_pure h
theorem fm_congr {α β:Type} {f g:α→Option β}:∀{l:List α},(∀a∈l,f a=g a)→l.filterMap f=l.filterMap g
|[],_=>rfl
|a::l,h=>by rw[List.filterMap_cons,List.filterMap_cons,h a (List.mem_cons_self ..),fm_congr fun x hx=>h x (List.mem_cons_of_mem _ hx)]
theorem pick_rev (xs:List Value):((List.range xs.length).filterMap fun (m:Nat)=>xs.toArray[(((xs.length:Nat):Int) - 1+(m:Int)*(-1)).toNat]?)=xs.reverse:=by
 have e:∀m∈List.range xs.length,xs.toArray[(((xs.length:Nat):Int) - 1+(m:Int)*(-1)).toNat]?=xs.reverse.toArray[(((0:Nat):Int)+(m:Int)*1).toNat]?:=fun m hm=>by
  have hm:=List.mem_range.mp hm
  have h1:(((xs.length:Nat):Int) - 1+(m:Int)*(-1)).toNat=xs.length - 1 - m:=by omega
  have h2:(((0:Nat):Int)+(m:Int)*1).toNat=m:=by omega
  rw[h1,h2,List.getElem?_toArray,List.getElem?_toArray,List.getElem?_reverse hm]
 rw[fm_congr e]
 have:=HT.pick_gen xs.reverse.toArray 0 xs.length
 have h3:=congrArg Array.toList this
 simp only[List.toList_toArray,List.drop_zero] at h3
 rw[h3]
 exact List.take_of_length_le (by simp)
theorem getItem_tuple_rev {t sl:Addr} {items:List Value} {k:Tok} {Q:Value→Shared→Prop} (ht:IsTup s.heap t items.toArray) (hs:s.heap.IsSliceOf sl .none .none (.int (-1) k))
  (h:Q (.ref s.heap.objs.size) {s with heap:=s.heap.push {cls:=.type "tuple",data:=.seq items.reverse.toArray}})
  (hsz:items.length≤sizeLine):wpAny (model prog w) A (getItem (.ref t) (.ref sl)) Q E s:=by
 have htake:sizeOk (.seq items.reverse.toArray):=by
  show items.reverse.toArray.size≤sizeLine
  rw[List.size_toArray,List.length_reverse]
  exact hsz
 obtain⟨os,hos,hcs,hds⟩:=id hs
 have hTs:s.TypeIs (.ref sl) "slice":=⟨os,hos,hcs⟩
 unfold getItem
 try with_reducible refine wpAny_holding ?_
 first|refine wpAny_bind (wpAny_pure ?_)|skip
 refine wpAny_bind (wpAny_sequenceKey ht.typeIs (by decide) ?_)
 refine wpAny_bind (wpAny_callSpecial?_slot (name:=Str.ofString "__getitem__") ht.typeIs PyProof.Rows.slot_tuple_getitem
  (wpAny_call_entry PyProof.Rows.slot_tuple_getitem ht.typeIs entry_tuple_getitem ?_ (args_tuple_getitem _ _)))
 show wpAny _ _ (Builtin.Tuple.tupleItemsOf (.ref t) >>= _) _ _ s
 refine wpAny_bind (tupleItemsOf_ ht ?_)
 refine wpAny_bind (wpAny_typeOf hTs ?_)
 rw[if_pos (by decide)]
 refine wpAny_bind (sliceApplied_rev hs ?_)
 have hno:¬(((((items.toArray.size:Nat):Int) - 1 == 0&&(-1:Int) == 1&&items.toArray.size == items.toArray.size))=true):=by
  intro q
  rw[Bool.and_eq_true,Bool.and_eq_true] at q
  exact absurd (eq_of_beq q.1.2) (by decide)
 show wpAny _ _ (if ((((items.toArray.size:Nat):Int) - 1 == 0&&(-1:Int) == 1&&items.toArray.size == items.toArray.size))=true then _ else _) _ _ s
 rw[if_neg hno]
 have hp:=pick_rev items
 rw[List.size_toArray,hp]
 first
 |exact wpAny_bind (m:=Builtin.Tuple.tupleExact _) (wpAny_newObj_type (wpAny_pure ⟨_,rfl,wpAny_pure h⟩) htake)
 |exact wpAny_bind (m:=Builtin.Tuple.tupleExact _) (wpAny_newObj_type (wpAny_bind (wpAny_pure (wpAny_pure ⟨_,rfl,wpAny_pure h⟩))) htake)
 |exact wpAny_bind (wpAny_bind (m:=Builtin.Tuple.tupleExact _) (wpAny_newObj_type (wpAny_pure (wpAny_pure ⟨_,rfl,wpAny_pure h⟩)) htake))
 |exact wpAny_bind (wpAny_bind (m:=Builtin.Tuple.tupleExact _) (wpAny_newObj_type (wpAny_pure ⟨_,rfl,wpAny_pure h⟩) htake))
end
section
variable {X:Cx}
def tRevA (K:PySem.W.Frag) (te:TE):TE:=fun σ H Q=>te σ H fun x H1=>(∃a xs,x=.ref a∧SqL K H1 a xs∧∀p,H1 p=none→Q (.ref p) (upd H1 p (.lst xs.reverse))) ∨
 (∃a xs,x=.ref a∧SqT K H1 a xs∧∀p us,H1 p=none→Q (.ref p) (upd H1 p (tf us xs.reverse)))
theorem pe_revA {e:Expr} {te:TE} {k:Nat} {p1 p2 p3 pos:Pos} (he:PE X e te):PE X (.Subscript e (.Slice none none (some (.UnaryOp .USub (.Constant (.int 1) k p1) p2)) p3) pos) (tRevA X.K te):=by
 refine⟨fun pins s σ H Q I h => ?_⟩
 refine Subscript_ (thn (he.run pins s σ H _ I h) fun v s1 ⟨x,H1,I1,r1,q1⟩ => ?_)
 have hst:PO X (some (.UnaryOp .USub (.Constant (.int 1) k p1) p2)) (tPart (tUn (rU fun i=>.int (-i)) (tC (.int 1)))):=po_some (pe_un un_neg pe_int)
 refine wpAny_Slice (thn (po_none.run pins s1 σ H1 (fun o H2=>o=none∧H2=H1) I1 ⟨rfl,rfl⟩) fun vl s2 ⟨l,H2,I2,pl,el,e2⟩ => ?_)
 subst el e2
 refine thn (po_none.run pins s2 σ H2 (fun o H3=>o=none∧H3=H2) I2 ⟨rfl,rfl⟩) fun vu s3 ⟨u,H3,I3,pu,eu,e3⟩ => ?_
 subst eu e3
 refine thn (hst.run pins s3 σ H3 (fun o H4=>o=some (-1)∧H4=H3) I3 ⟨1,rfl,-1,rfl,rfl,rfl⟩) fun vs s4 ⟨o,H4,I4,ps,eo,e4⟩ => ?_
 subst eo e4
 have I5:Inv X pins σ H4 {s4 with heap:=s4.heap.push {cls:=.type "slice",data:=.fields #[vl,vu,vs]}}:=I4.kept (t':=s4.toks) fun b ob q=>Heap.get?_push_of_some _ q
 rcases q1 with ⟨a,xs,ex,hx,q⟩|⟨a,xs,ex,hx,q⟩
 ·subst ex
  cases r1
  obtain⟨its,r,ht,hz⟩:=I5.list hx
  have hlen:=r.length
  show wpAny (model X.prog X.w) X.A (subscriptTail e (.Slice none none (some (.UnaryOp .USub (.Constant (.int 1) k p1) p2)) p3) (.ref a) (.ref s4.heap.objs.size)) (EP X pins σ Q) X.xe {s4 with heap:=s4.heap.push {cls:=.type "slice",data:=.fields #[vl,vu,vs]}}
  refine tail_any (ops:=[.ref a,.ref s4.heap.objs.size]) ht.isList.typeIs (PySem.slot_list_getitem.lookup) ?_ (by with_unfolding_all rfl)
  refine wpAny_getItem_list_slice ht.isList (Heap.IsSliceOf.new _ vl vu vs) pl pu ps (by decide) ?_ (by rw[List.size_toArray];omega)
  rw[PySem.W.krv_pick]
  refine⟨.ref _,_,I5.laid (t':=s4.toks) (o:=.lst xs.reverse) (fun b ob q=>Heap.get?_push_of_some _ q) (Nat.le_refl _) ?_,rfl,q _ (I5.hok.fresh (Nat.le_refl _))⟩
  exact⟨by rw[List.length_reverse];exact hz,_,0,r.reverse,Heap.get?_push_size _ rfl⟩
 ·subst ex
  cases r1
  obtain⟨its,r,ht,hz⟩:=I5.tuple hx
  cases pl
  cases pu
  cases ps
  have hlen:=r.length
  show wpAny (model X.prog X.w) X.A (subscriptTail e (.Slice none none (some (.UnaryOp .USub (.Constant (.int 1) k p1) p2)) p3) (.ref a) (.ref s4.heap.objs.size)) (EP X pins σ Q) X.xe {s4 with heap:=s4.heap.push {cls:=.type "slice",data:=.fields #[.none,.none,.int (-1) _]}}
  refine tail_any (ops:=[.ref a,.ref s4.heap.objs.size]) ht.typeIs (PyProof.Rows.slot_tuple_getitem.lookup) ?_ (by with_unfolding_all rfl)
  refine getItem_tuple_rev ht (Heap.IsSliceOf.new _ _ _ _) ?_ (by omega)
  exact lay I5 r.reverse (by rw[List.length_reverse];exact hz) q
end
end DnU
namespace DnZ
open PySem PySem.Spec PyProof.Rows L2
inductive Sk where
|lst (a:Addr)|tup (a:Addr)|str (x:Str)
def Sk.at (K:PySem.W.Frag) (H:Hp):Sk→List V→Prop
|.lst a,xs=>SqL K H a xs
|.tup a,xs=>SqT K H a xs
|.str x,xs=>xs=x.cps.toList.map fun c=>V.str ⟨#[c]⟩
def Sk.src:Sk→List Addr
|.lst a=>[a]
|.tup a=>[a]
|.str _=>[]
def Sk.val:Sk→V
|.lst a=>.ref a
|.tup a=>.ref a
|.str x=>.str x
def Sk.tn (k:Sk) (it:Addr) (i:Nat) (h:Heap):Prop:=match k with
|.lst a=>h.IsListIter it a i
|.tup a=>h.IsTupleIter it a i
|.str x=>∃t,h.IsStrIter it (strIterType x) x t i
section
variable {X:Cx} {pins:List (Addr×Obj)} {σ:L2.St} {H:Hp} {s:Shared} {k:Sk} {xs ys:List V} {it:Addr} {i:Nat}
theorem Sk.inj (I:Inv X pins σ H s) (a:k.at X.K H xs) (b:k.at X.K H ys):xs=ys:=by
 cases k with
|lst _=>exact I.list_inj a b
|tup _=>exact I.tuple_inj a b
|str _=>exact Eq.trans a (Eq.symm b)
theorem Sk.old (I:Inv X pins σ H s) (a:k.at X.K H xs):∀b∈k.src,b<s.heap.objs.size:=by
 intro b hb
 cases k with
|lst c=>
  obtain⟨_,_,p,_⟩:=I.list a
  rw[List.mem_singleton.mp hb]
  exact p.lt
|tup c=>
  obtain⟨_,_,p,_⟩:=I.tuple a
  rw[List.mem_singleton.mp hb]
  exact p.lt
|str _=>cases hb
theorem Sk.beg (I:Inv X pins σ H s) (a:k.at X.K H xs) {u:Value} (hu:RelV k.val u):∃o G,Begins u o G∧G s.heap∧∀h it,h.get? it=some o→k.tn it 0 h:=by
 cases k with
|lst c=>
  obtain⟨its,_,p,_⟩:=I.list a
  cases hu
  exact⟨_,_,begins_list c its.toArray,p.isList,fun h it e=>⟨_,e,rfl,rfl⟩⟩
|tup c=>
  obtain⟨its,_,p,_⟩:=I.tuple a
  cases hu
  exact⟨_,_,begins_tuple c its.toArray,p,fun h it e=>⟨_,e,rfl,rfl⟩⟩
|str x=>
  obtain⟨t,rfl⟩:=hu
  exact⟨_,_,begins_text x t,trivial,fun h it e=>⟨t,_,e,rfl,rfl⟩⟩
theorem Sk.dr (I:Inv X pins σ H s) (a:k.at X.K H xs) (hs:it ∉ k.src) (st:k.tn it i s.heap):∃P St,(∀A:Around,A.handled=none→Draws X.prog X.w A it (it::k.src) xs.length P St)∧St i s.heap∧(∀j h,St j h→k.tn it j h)∧∀j u,P j u→∃x,xs[j]?=some x∧RelV x u:=by
 cases k with
|lst c=>
  obtain⟨its,rv,p,_⟩:=I.list a
  have hl:xs.length=its.toArray.size:=by simpa using rv.length
  refine⟨fun i v=>its.toArray[i]?=some v,fun i h=>h.IsListIter it c i∧h.IsList c its.toArray,fun A hA=>by rw[hl];exact Draws.list hA it c (fun e=>hs (by simp[Sk.src,e])) its.toArray,⟨st,p.isList⟩,fun j h z=>z.1,fun j u hj => ?_⟩
  have hj':its[j]?=some u:=by simpa using hj
  have:j<xs.length:=by rw[rv.length];exact (List.getElem?_eq_some_iff.mp hj').1
  obtain⟨u',e,r⟩:=rv.get (List.getElem?_eq_getElem this)
  rw[hj'] at e
  cases e
  exact⟨_,List.getElem?_eq_getElem this,r⟩
|tup c=>
  obtain⟨its,rv,p,_⟩:=I.tuple a
  have hl:xs.length=its.toArray.size:=by simpa using rv.length
  refine⟨fun i v=>its.toArray[i]?=some v,fun i h=>h.IsTupleIter it c i∧h.IsTuple c its.toArray,fun A hA=>by rw[hl];exact Draws.tuple hA it c (fun e=>hs (by simp[Sk.src,e])) its.toArray,⟨st,p⟩,fun j h z=>z.1,fun j u hj => ?_⟩
  have hj':its[j]?=some u:=by simpa using hj
  have:j<xs.length:=by rw[rv.length];exact (List.getElem?_eq_some_iff.mp hj').1
  obtain⟨u',e,r⟩:=rv.get (List.getElem?_eq_getElem this)
  rw[hj'] at e
  cases e
  exact⟨_,List.getElem?_eq_getElem this,r⟩
|str x=>
  obtain⟨t,st⟩:=st
  have a:xs=x.cps.toList.map fun c=>V.str ⟨#[c]⟩:=a
  subst a
  refine⟨fun i v=>∃c u,x.cps[i]?=some c∧v=.str ⟨#[c]⟩ u,fun i h=>h.IsStrIter it (strIterType x) x t i,fun A hA=>by rw[List.length_map,Array.length_toList];exact Draws.text hA it x t,st,fun j h z=>⟨t,z⟩,fun j u hj => ?_⟩
  obtain⟨c,v,e,rfl⟩:=hj
  exact⟨.str ⟨#[c]⟩,by rw[List.getElem?_map,Array.getElem?_toList,e];rfl,⟨v,rfl⟩⟩
theorem Sk.obj {h:Heap} (st:k.tn it i h):∃o,h.get? it=some o∧∀v,o.data≠.cell v:=by
 cases k with
|lst c=>obtain⟨o,e,_,d⟩:=st;exact⟨o,e,fun v q=>by rw[d] at q;cases q⟩
|tup c=>obtain⟨o,e,_,d⟩:=st;exact⟨o,e,fun v q=>by rw[d] at q;cases q⟩
|str x=>obtain⟨_,o,e,_,d⟩:=st;exact⟨o,e,fun v q=>by rw[d] at q;cases q⟩
theorem Sk.keep {h h':Heap} (st:k.tn it i h) (kp:∀o,h.get? it=some o→h'.get? it=some o):k.tn it i h':=by
 cases k with
|lst c=>obtain⟨o,e,r⟩:=st;exact⟨o,kp o e,r⟩
|tup c=>obtain⟨o,e,r⟩:=st;exact⟨o,kp o e,r⟩
|str x=>obtain⟨t,o,e,r⟩:=st;exact⟨t,o,kp o e,r⟩
end
theorem ap {B i j:Nat} (h:i≠j):@Ne Addr (B+i) (B+j):=fun e=>h (Nat.add_left_cancel e)
theorem ap0 {B j:Nat} (h:0≠j):@Ne Addr B (B+j):=fun e=>h (Nat.add_left_cancel (n:=B) (by simpa using e))
theorem nsrc {B c:Nat} {l:List Addr} (h:∀b∈l,b<B) (hc:B≤c):c ∉ l:=fun m=>absurd (Nat.lt_of_lt_of_le (h c m) hc) (Nat.lt_irrefl c)
theorem ncons {B c d:Nat} {l:List Addr} (h:∀b∈l,b<B) (hc:B≤c) (hd:c≠d):@Not (Membership.mem (γ:=List Addr) (d::l) c):=by
 rw[List.mem_cons,not_or]
 exact⟨hd,nsrc h hc⟩
def ItzD (K:PySem.W.Frag) (k1 k2:Sk):It:=
 ⟨fun i H=>∃xs ys x y,k1.at K H xs∧k2.at K H ys∧xs[i]?=some x∧ys[i]?=some y,
  fun i H v H'=>∃T us x y,v=.ref T∧H T=none∧H'=upd H T (DnU.tf us [x,y])∧(∀xs,k1.at K H xs→xs[i]?=some x)∧∀ys,k2.at K H ys→ys[i]?=some y,
  fun i H=>∃xs ys,k1.at K H xs∧k2.at K H ys∧i=min xs.length ys.length⟩
theorem sep5 {B:Nat} {k1 k2:Sk} (h1:∀b∈k1.src,b<B) (h2:∀b∈k2.src,b<B):ZipSep2 (B+4) (B+2) (B+3) B (B+1) (B::k1.src) ((B+1)::k2.src) where
 TIz:=ap (by decide)
 TOz:=ap (by decide)
 TITO:=ap (by decide)
 TIi1:=(ap0 (by decide)).symm
 mem1:=by simp
 zf1:=ncons h1 (Nat.le_add_right ..) (ap0 (by decide)).symm
 Tf1:=ncons h1 (Nat.le_add_right ..) (ap0 (by decide)).symm
 TIi2:=ap (by decide)
 mem2:=by simp
 zf2:=ncons h2 (Nat.le_add_right ..) (ap (by decide))
 Tf2:=ncons h2 (Nat.le_add_right ..) (ap (by decide))
 sep1_2:=ncons h2 (Nat.le_refl _) (ap0 (by decide))
 sep2_1:=ncons h1 (Nat.le_add_right ..) (ap0 (by decide)).symm
abbrev ztn (B:Nat) (k1 k2:Sk) (i:Nat) (h:Heap):Prop:=IsZip h (B+4) (B+2) (B+3) .none∧IsTupOf2 h (B+2) (.ref B) (.ref (B+1))∧(∃x y,IsTupOf2 h (B+3) x y)∧k1.tn B i h∧k2.tn (B+1) i h
theorem five {B c:Nat} (h:c∈[B+4,B+2,B+3,B,B+1]):c=B+4∨c=B+2∨c=B+3∨c=B∨c=B+1:=by simpa using h
theorem five_le {B c:Nat} (h:c∈[B+4,B+2,B+3,B,B+1]):c≤B+4:=by rcases five h with rfl|rfl|rfl|rfl|rfl <;> omega
theorem le_five {B c:Nat} (h:c∈[B+4,B+2,B+3,B,B+1]):B≤c:=by rcases five h with rfl|rfl|rfl|rfl|rfl <;> omega
theorem turn_zipD {P:Program} {w:World} {K:PySem.W.Frag} {elts:List Expr} {kk:Nat} {tpos:Pos} {B:Nat} {k1 k2:Sk} (h1:∀b∈k1.src,b<B) (h2:∀b∈k2.src,b<B) :
  Turn P w K (.Tuple elts kk tpos) (ItzD K k1 k2) [B+4,B+2,B+3,B,B+1] (B+4) (ztn B k1 k2) where
 mem:=by simp
 obj:=fun i h st c hc=>by
  obtain⟨hz,hTI,⟨x,y,hTO⟩,a1,a2⟩:=st
  rcases five hc with rfl|rfl|rfl|rfl|rfl
  ·exact⟨_,hz,fun v q=>nomatch q⟩
  ·exact⟨_,hTI,fun v q=>nomatch q⟩
  ·exact⟨_,hTO,fun v q=>nomatch q⟩
  ·exact Sk.obj a1
  ·exact Sk.obj a2
 keep:=fun i h h' st kp=>by
  obtain⟨hz,hTI,⟨x,y,hTO⟩,a1,a2⟩:=st
  exact⟨kp _ (by simp) _ hz,kp _ (by simp) _ hTI,⟨x,y,kp _ (by simp) _ hTO⟩,Sk.keep a1 (kp _ (by simp)),Sk.keep a2 (kp _ (by simp))⟩
 item:=by
  intro X eP ew eK hc i pins s σ H E I hf st ⟨xs,ys,x,y,q1,q2,hx,hy⟩
  subst eP ew eK
  obtain⟨hz,hTI,⟨x0,y0,hTO⟩,a1,a2⟩:=st
  obtain⟨P1,S1,d1,s1,b1,r1⟩:=Sk.dr I q1 (nsrc h1 (Nat.le_refl _)) a1
  obtain⟨P2,S2,d2,s2,b2,r2⟩:=Sk.dr I q2 (nsrc h2 (Nat.le_add_right ..)) a2
  have hB:B+4<s.heap.objs.size:=Heap.lt_size hz
  have hh:X.A.in1.handled=none:=I.ok.hd hc
  refine wpAny_pyNext_zipD2_item (sep5 h1 h2) (d1 _ hh) (d2 _ hh) hz hTI hTO s1 s2 (List.getElem?_eq_some_iff.mp hx).1 (List.getElem?_eq_some_iff.mp hy).1 fun u1 u2 h' tk p1 p2 z' t' s1' s2' hT hsz hk=>⟨_,rfl,?_⟩
  refine wpAny_letOwnedTupleGo_zip (s:={s with heap:=h',toks:=tk}) z' fun h'' z'' sb => ?_
  obtain⟨x',e1,rx⟩:=r1 i u1 p1
  obtain⟨y',e2,ry⟩:=r2 i u2 p2
  rw[hx] at e1;rw[hy] at e2
  cases e1;cases e2
  have up:∀c o,c≠B+4→h'.get? c=some o→h''.get? c=some o:=fun c o hc q=>(sb.2 c hc).trans q
  have I1:Inv X pins σ (upd H s.heap.objs.size (DnU.tf [u1,u2] [x,y])) {s with heap:=h'',toks:=tk}:=by
   refine I.turnedNew (ch:=[B+4,B+2,B+3,B,B+1]) (fun c o hb q=>up c o (fun z=>hb (by simp[z])) (hk c o (fun z=>hb (by simp[z])) (fun z=>hb (by simp[z])) (fun z=>hb (by simp[z])) (fun z=>hb (by simp[z])) q)) hf (Nat.le_refl _) ?_
   exact DnU.tf_ok (.cons rx (.cons ry .nil)) (show 2≤sizeLine by decide) (up _ _ (Nat.ne_of_gt hB) hT)
  refine⟨.ref s.heap.objs.size,_,I1,rfl,⟨_,_,x,y,rfl,I.hok.fresh (Nat.le_refl _),rfl,fun l hl=>by rw[Sk.inj I hl q1];exact hx,fun l hl=>by rw[Sk.inj I hl q2];exact hy⟩,⟨z'',up _ _ (ap (by decide)) (hk _ _ (ap (by decide)) (ap (by decide)) (ap0 (by decide)).symm (ap (by decide)) hTI),⟨u1,u2,up _ _ (ap (by decide)) t'⟩,?_,?_⟩,fun c hcm => ?_⟩
  ·exact Sk.keep (b1 _ _ s1') fun o q=>up _ o (ap0 (by decide)) q
  ·exact Sk.keep (b2 _ _ s2') fun o q=>up _ o (ap (by decide)) q
  ·rw[upd_ne (Nat.ne_of_lt (Nat.lt_of_le_of_lt (five_le hcm) hB))]
   exact (hf c hcm).1
 done:=by
  intro X eP ew eK hc i pins s σ H E I hf st ⟨xs,ys,q1,q2,hi⟩
  subst eP ew eK
  obtain⟨hz,hTI,⟨x0,y0,hTO⟩,a1,a2⟩:=st
  obtain⟨P1,S1,d1,s1,b1,r1⟩:=Sk.dr I q1 (nsrc h1 (Nat.le_refl _)) a1
  obtain⟨P2,S2,d2,s2,b2,r2⟩:=Sk.dr I q2 (nsrc h2 (Nat.le_add_right ..)) a2
  have hh:X.A.in1.handled=none:=I.ok.hd hc
  exact wpAny_pyNext_zipD2_end (sep5 h1 h2) (d1 _ hh) (d2 _ hh) hz hTI hTO s1 s2 (by omega) (by omega) (by omega) fun h' tk hk=>⟨rfl,I.turnedL (ch:=[B+4,B+2,B+3,B,B+1]) (fun c o hb q=>
   hk c o (fun z=>hb (by simp[z])) (fun z=>hb (by simp[z])) (fun z=>hb (by simp[z])) (fun z=>hb (by simp[z])) q) hf⟩
 self:=fun A i s Q E st h=>wpAny_pyIter_zip st.1 h
def iZipD (K:PySem.W.Frag) (ta:TA):TI:=fun σ H R=>ta σ H fun vs H1=>∃(k1 k2:Sk) (xs ys:List V),vs=[k1.val,k2.val]∧k1.at K H1 xs∧k2.at K H1 ys∧R (ItzD K k1 k2) H1
theorem pi_zipD {X:Cx} {e e2:Expr} {ta:TA} {p pos tpos:Pos} {elts:List Expr} {kk:Nat} (hg:Gl X "zip") (hm:X.mg "zip"=none) (ha:PA X [e,e2] ta)
  (hs:starEach [e,e2] X.env=(false,eval e X.env)::starEach [e2] X.env) (hpl:(backTo pos (starEach [e2] X.env)).any (·.1)=false) :
  PI X (.Tuple elts kk tpos) (.Call (.Name "zip" p) [e,e2] [] pos) (iZipD X.K ta):=by
 constructor
 intro pins s σ H R I h
 have run:=ha.run pos pins s σ H _ I h
 refine Call_ (ld_blt I hg hm PyProof.Rows.boot_zip (PyProof.Rows.callWith_type1 (thn run fun us s1 hr => ?_) hs hpl))
 obtain⟨vs,H1,I1,r1,q1⟩:=hr
 obtain⟨k1,k2,xs,ys,ex,a1,a2,q⟩:=q1
 subst ex
 match us,r1 with
|[u1,u2],.cons r (.cons r' .nil)=>
  obtain⟨o1,G1,B1,g1,t1⟩:=Sk.beg I1 a1 r
  obtain⟨o2,G2,B2,g2,t2⟩:=Sk.beg I1 a2 r'
  refine zip_begins2 B1 B2 g1 g2 fun h' hz hTI hTO e1 e2 hsz hk=>wpAny_pyIter_zip hz ?_
  have I2:Inv X pins σ H1 {s1 with heap:=h'}:=I1.kept (t':=s1.toks) hk
  refine⟨s1.heap.objs.size+4,_,_,_,H1,rfl,I2,turn_zipD (B:=s1.heap.objs.size) (k1:=k1) (k2:=k2) (Sk.old I1 a1) (Sk.old I1 a2),⟨hz,hTI,⟨_,_,hTO⟩,t1 _ _ e1,t2 _ _ e2⟩,fun c hcm => ?_,q⟩
  have hle:s1.heap.objs.size≤c:=le_five hcm
  exact I1.fpOk hle (I1.hok.fresh hle)
theorem meets_enum1 {v:Value} {o:Obj} {G:Heap→Prop} (B:Begins v o G):Meets (Builtin.«enumerate.__new__» ⟨[.type "enumerate",v],[]⟩) (fun _ R s=>G s.heap ∧
  R (.ok (.ret (.ref (s.heap.push o).objs.size))) {s with heap:=(s.heap.push o).push {cls:=.type "enumerate",data:=.fields #[.none,.bool false,.ref s.heap.objs.size,rawInt 0,.none,.none]}}):=by
 refine .of_wp fun prog w A R s ⟨hG,h⟩ => ?_
 obtain⟨hp,g,d,tk,os⟩:=s
 have hsub:=sub_enumerate
 have it:∀{A':Around} {E:Value→Shared→Prop} {Q:Value→Shared→Prop},Q (.ref hp.objs.size) ⟨hp.push o,g,d,tk,os⟩→wpAny (model prog w) A' (pyIter v) Q E ⟨hp,g,d,tk,os⟩:=fun q=>B.iter prog w _ _ ⟨hp,g,d,tk,os⟩ _ hG q
 wp_walk using it
 refine wpAny_stack_any fun st=>wpAny_pure ?_
 split
 ·rename_i c _ _ _ _ _
  rcases hc:(c == Value.type "enumerate") with _|_
  all_goals (wp_walk using it;exact⟨_,rfl,h⟩)
 ·wp_walk using it
  exact⟨_,rfl,h⟩
theorem enum_beg {prog:Program} {w:World} {A:Around} {E:Value→Shared→Prop} {s:Shared} {v:Value} {o:Obj} {G:Heap→Prop} {Q:Value→Shared→Prop} (B:Begins v o G) (hG:G s.heap)
  (h:∀h',IsEnum h' (s.heap.objs.size+1) s.heap.objs.size 0 .none→h'.get? s.heap.objs.size=some o→(∀b o,s.heap.get? b=some o→h'.get? b=some o)→Q (.ref (s.heap.objs.size+1)) {s with heap:=h'}) :
  wpAny (model prog w) A (call (.type "enumerate") [v]) Q E s:=by
 have hz:(s.heap.push o).objs.size=s.heap.objs.size+1:=Heap.size_push ..
 have he:=Heap.get?_push_size (s.heap.push o) (o:={cls:=.type "enumerate",data:=.fields #[.none,.bool false,.ref s.heap.objs.size,rawInt 0,.none,.none]}) rfl
 rw[hz] at he
 refine callType_new F.called_enumerate (by decide) (F.typeCall_enumerate_1 _) (F.newCall_enumerate_1 _) (fun obj=>F.args_object_init_2 obj _) F.entry_enumerate_new (meets_enum1 B) ⟨hG,?_⟩
 show _∧_
 rw[hz]
 exact⟨⟨_,he,rfl⟩,h _ he (Heap.get?_push_of_some _ (Heap.get?_push_size _ B.free)) fun b o x=>Heap.get?_push_of_some _ (Heap.get?_push_of_some _ x)⟩
def IteD (K:PySem.W.Frag) (k:Sk):It:=
 ⟨fun i H=>∃xs x,k.at K H xs∧xs[i]?=some x,fun i H v H'=>∃T us x,v=.ref T∧H T=none∧H'=upd H T (DnU.tf us [.int (i:Nat),x])∧∀xs,k.at K H xs→xs[i]?=some x,fun i H=>∃xs,k.at K H xs∧i=xs.length⟩
theorem turn_enumD {P:Program} {w:World} {K:PySem.W.Frag} {elts:List Expr} {kk:Nat} {tpos:Pos} {B:Nat} {k:Sk} (h1:∀b∈k.src,b<B) :
  Turn P w K (.Tuple elts kk tpos) (IteD K k) [B+1,B] (B+1) (fun i h=>(∃old,IsEnum h (B+1) B ((i:Nat):Int) old)∧k.tn B i h) where
 mem:=by simp
 obj:=fun i h st c hc=>by
  obtain⟨⟨old,he⟩,a⟩:=st
  have e':c=B+1∨c=B:=by simpa using hc
  rcases e' with rfl|rfl
  ·exact⟨_,he,fun v q=>nomatch q⟩
  ·exact Sk.obj a
 keep:=fun i h h' st kp=>let ⟨⟨old,he⟩,a⟩:=st;⟨⟨old,kp _ (by simp) _ he⟩,Sk.keep a (kp _ (by simp))⟩
 item:=by
  intro X eP ew eK hc i pins s σ H E I hf st ⟨xs,x,q,hx⟩
  subst eP ew eK
  obtain⟨⟨old,he⟩,a⟩:=st
  obtain⟨P1,S1,d1,s1,b1,r1⟩:=Sk.dr I q (nsrc h1 (Nat.le_refl _)) a
  have hB:B+1<s.heap.objs.size:=Heap.lt_size he
  have hh:X.A.in1.handled=none:=I.ok.hd hc
  have hn:(B+1:Addr) ∉ (B::k.src:List Addr):=ncons h1 (Nat.le_add_right ..) (ap0 (by decide)).symm
  refine wpAny_pyNext_enum_itemD (d1 _ hh) he s1 (List.getElem?_eq_some_iff.mp hx).1 (ap0 (by decide)).symm hn fun u h' tk p1 ho s1' hT hsz hk=>⟨_,rfl,?_⟩
  refine wpAny_letOwnedTupleGo_enum (s:={s with heap:=h',toks:=tk+1}) ho fun h'' he' sb => ?_
  obtain⟨x',e1,rx⟩:=r1 i u p1
  rw[hx] at e1
  cases e1
  have up:∀c o,c≠B+1→h'.get? c=some o→h''.get? c=some o:=fun c o hc q=>(sb.2 c hc).trans q
  have I1:Inv X pins σ (upd H s.heap.objs.size (DnU.tf [.int i tk,u] [.int (i:Nat),x])) {s with heap:=h'',toks:=tk+1}:=by
   refine I.turnedNew (ch:=[B+1,B]) (fun c o hb q=>up c o (fun z=>hb (by simp[z])) (hk c o (fun z=>hb (by simp[z])) (fun z=>hb (by simp[z])) q)) hf (Nat.le_refl _) ?_
   exact DnU.tf_ok (.cons ⟨_,rfl⟩ (.cons rx .nil)) (show 2≤sizeLine by decide) (up _ _ (Nat.ne_of_gt hB) hT)
  refine⟨.ref s.heap.objs.size,_,I1,rfl,⟨_,_,x,rfl,I.hok.fresh (Nat.le_refl _),rfl,fun l hl=>by rw[Sk.inj I hl q];exact hx⟩,⟨⟨u,?_⟩,Sk.keep (b1 _ _ s1') fun o q=>up _ o (ap0 (by decide)) q⟩,fun c hcm => ?_⟩
  ·rw[show ((i+1:Nat):Int)=(i:Int)+1 by omega]
   exact he'
  ·have e':c=B+1∨c=B:=by simpa using hcm
   rw[upd_ne (Nat.ne_of_lt (Nat.lt_of_le_of_lt (by rcases e' with rfl|rfl;exact Nat.le_refl _;exact Nat.le_add_right ..) hB))]
   exact (hf c hcm).1
 done:=by
  intro X eP ew eK hc i pins s σ H E I hf st ⟨xs,q,hi⟩
  subst eP ew eK
  obtain⟨⟨old,he⟩,a⟩:=st
  obtain⟨P1,S1,d1,s1,b1,r1⟩:=Sk.dr I q (nsrc h1 (Nat.le_refl _)) a
  have hh:X.A.in1.handled=none:=I.ok.hd hc
  rw[hi] at s1
  exact wpAny_pyNext_enum_endD (d1 _ hh) he s1 fun h' eb=>⟨rfl,I.turnedL (t':=s.toks) (ch:=[B+1,B]) (fun c o hb q=>eb c o (fun z=>hb (by simp[z])) q) hf⟩
 self:=fun A i s Q E st h=>let ⟨⟨_,he⟩,_⟩:=st;wpAny_pyIter_enum he h
def iEnumD (K:PySem.W.Frag) (ta:TA):TI:=fun σ H R=>ta σ H fun vs H1=>∃(k:Sk) (xs:List V),vs=[k.val]∧k.at K H1 xs∧R (IteD K k) H1
theorem pi_enumD {X:Cx} {e:Expr} {ta:TA} {p pos tpos:Pos} {elts:List Expr} {kk:Nat} (hg:Gl X "enumerate") (hm:X.mg "enumerate"=none) (ha:PA X [e] ta) (hs:starEach [e] X.env=[(false,eval e X.env)]) :
  PI X (.Tuple elts kk tpos) (.Call (.Name "enumerate" p) [e] [] pos) (iEnumD X.K ta):=by
 constructor
 intro pins s σ H R I h
 have run:=ha.run pos pins s σ H _ I h
 refine Call_ (ld_blt I hg hm boot_enumerate (PyProof.Rows.callWith_type1 (thn run fun us s1 hr => ?_) hs rfl))
 obtain⟨vs,H1,I1,r1,q1⟩:=hr
 obtain⟨k,xs,ex,a,q⟩:=q1
 subst ex
 match us,r1 with
|[u1],.cons r .nil=>
  obtain⟨o1,G1,B1,g1,t1⟩:=Sk.beg I1 a r
  refine enum_beg B1 g1 fun h' he e1 hk=>wpAny_pyIter_enum he ?_
  have I2:Inv X pins σ H1 {s1 with heap:=h'}:=I1.kept (t':=s1.toks) hk
  refine⟨s1.heap.objs.size+1,_,_,_,H1,rfl,I2,turn_enumD (B:=s1.heap.objs.size) (k:=k) (Sk.old I1 a),⟨⟨.none,he⟩,t1 _ _ e1⟩,fun c hcm => ?_,q⟩
  have e':c=s1.heap.objs.size+1∨c=s1.heap.objs.size:=by simpa using hcm
  have hle:s1.heap.objs.size≤c:=by rcases e' with rfl|rfl;exact Nat.le_add_right ..;exact Nat.le_refl _
  exact I1.fpOk hle (I1.hok.fresh hle)
end DnZ
namespace DnD
open PySem PySem.Spec PyProof.Rows L2
theorem tuple_keys_none:typeLookup (.type "tuple") "keys"=pure none:=am_miss_of_fast (by first|decide +kernel|rfl)
section
variable {prog:Program} {w:World} {A:Around} {E:Value→Shared→Prop}
theorem miss_tuple {s:Shared} {a:Addr} {xs:Array Value} {k:Nat} {sl:Array (Option Value)} {Q:Option Value→Shared→Prop} (hx:s.heap.get? a=some {cls:=.type "tuple",dict:=none,data:=.seq xs k,slots:=sl}) (hA:A.handled=none)
  (h:∀h' tk,(∀b ob,s.heap.get? b=some ob→h'.get? b=some ob)→Q none {s with heap:=h',toks:=tk}):wpAny (model prog w) A (getAttr? (.ref a) "keys") Q E s:=by
 obtain⟨hp,g,d,tk,os⟩:=s
 have ty:∀tk',(⟨hp,g,d,tk',os⟩:Shared).TypeIs (.ref a) "tuple":=fun _=>⟨_,hx,rfl⟩
 have m0:=tuple_keys_none
 have m1:(["__module__", "__name__", "__qualname__", "__doc__", "__annotations__"]:List Str).contains "keys"=false:=by decide +kernel
 have m2:("keys":Str).length+100≤sizeLine:=by first|size_fits|decide +kernel
 have m3:=sub_AttributeError
 have m4:=PySem.F.slot_tuple_getattribute.lookup
 have m5:=PySem.F.slot_tuple_getattribute.bind (.ref a)
 have m6:=am_tuple_getattr_none
 unfold getAttr? getAttrBy? getAttrBy
 repeat (any_goals (first|assumption|exact ty _|((with_reducible show wpAny _ _ (call (Value.builtin "tuple.__getattribute__") _ _) _ _ _);refine call_meets PySem.F.slot_tuple_getattribute (ty _) am_entry_tuple_getattribute (PySem.F.args_tuple_getattribute_2 _ _) (meets_getattribute_miss_tuple a xs k sl "keys" _ m0 m1 m2) ⟨hx,hA,fun h' tk' e hx' => ?_⟩)|wp_step))
 obtain⟨_,_,he⟩:=hx'.there
 change wpAny _ _ (getattributeRaised _ _ _ _ _ _ _) _ _ _
 unfold getattributeRaised
 repeat (any_goals (first|assumption|wp_step))
 all_goals first|exact h _ _ hx'.keeps|(dsimp only;repeat (any_goals (first|assumption|exact h _ _ hx'.keeps|wp_step)))
theorem loopD {R:Result→Shared→Prop} {S I l:Addr} {items:Array Value} {res:Value} (hh:A.handled=none) (hlI:l≠I) (hSI:S≠I) (hSl:S≠l) (rest:List (Key×Value)) :
  ∀(i:Nat) (acc:List (Key×Value)) (ix:Int) (t:Tok) (s:Shared),items.size=i+rest.length→acc.length+rest.length≤sizeLine →
   (∀(j:Nat) (q:Key×Value),rest[j]?=some q→∃(b:Addr) (u:Value),items[i+j]?=some (.ref b)∧b≠S∧b≠I∧IsTup s.heap b #[u,q.2]∧keyIs q.1 u=true) →
   s.heap.IsTupleIter I l i→s.heap.IsTuple l items→s.heap.DictOf (mixKind prog w) S acc →
   (∀h' tk,h'.DictOf (mixKind prog w) S (merged acc rest)→(∀b o,b≠S→b≠I→s.heap.get? b=some o→h'.get? b=some o)→R (.ok (.ret res)) {s with heap:=h',toks:=tk}) →
   codeAny (model prog w) A (.builtin "dict.update.loop" ⟨[.ref S,.ref I,.int ix t,res],[]⟩) R s:=by
 induction rest with
|nil=>
  intro i acc ix t s hsz _ _ hit hl hm hR
  have hend:items[i]?=none:=Array.getElem?_eq_none (Nat.le_of_eq hsz)
  refine codeAny_builtin ud_entry ?_
  rw[Around.under_plainId ud_plain _]
  change wpAny _ A.in1 (pyNext (.ref I) >>= _) _ _ s
  refine wpAny_bind (wpAny_pyNext_tuple_end (A:=A.in1) hh hit hl hend fun h' he => ?_)
  change wpAny _ A.in1 (Builtin.Dict.addKeywords S [] >>= _) _ _ _
  exact wpAny_bind (wpAny_pure (wpAny_pure (hR h' s.toks (hm.extBut he hSI) fun b o _ hb e=>he b o hb e)))
|cons q rest ih=>
  intro i acc ix t s hsz hln ht hit hl hm hR
  obtain⟨b,u,hb,hbS,hbI,htup,hk⟩:=ht 0 q rfl
  rw[List.length_cons] at hsz hln
  have hb:items[i]?=some (.ref b):=by simpa using hb
  refine codeAny_builtin ud_entry ?_
  rw[Around.under_plainId ud_plain _]
  change wpAny _ A.in1 (pyNext (.ref I) >>= _) _ _ s
  refine wpAny_bind (wpAny_pyNext_tuple_item (x:=.ref b) hit hl hb fun h1 hit1 hs1 => ?_)
  have ht1:IsTup h1 b #[u,q.2]:=htup.extBut hs1.extBut hbI
  have hm1:h1.DictOf (mixKind prog w) S acc:=hm.extBut hs1.extBut hSI
  have ⟨o,ho,hc,n,hd⟩:=ht1
  change wpAny _ A.in1 (holding [Value.ref b] _ >>= _) _ _ _
  refine wpAny_bind (wpAny_holding (wpAny_bind (wpAny_tryCatch ?_)))
  unfold Builtin.Dict.pairItems
  refine wpAny_bind (wpAny_typeOf (T := "tuple") ⟨o,ho,hc⟩ ?_)
  rw[if_pos (by first|decide|rfl|simp)]
  refine wpAny_bind (wpAny_seqItems ho hd (wpAny_pure ?_))
  change wpAny _ A.in1 (holding [u,q.2] (dictSet S u q.2)) _ _ _
  refine wpAny_holding (wpAny_dictSet_pairs (knd:=mixKind prog w) (k:=q.1) hk hm1 (fun h2 hm2 hs2 => ?_) (by omega))
  have kp:∀c oc,c≠S→c≠I→s.heap.get? c=some oc→h2.get? c=some oc:=fun c oc h3 h4 e=>hs2.extBut c oc h3 (hs1.extBut c oc h4 e)
  refine wpAny_pure ⟨plainId_quiet ud_plain _,ih (i+1) (stored acc q.1 q.2) (ix+1) 0 _ (by omega) (by have:=stored_length_le acc q.1 q.2;omega) (fun j q' e => ?_) (hit1.at fun o' e=>hs2.extBut I o' (Ne.symm hSI) e) ?_ hm2 fun h' tk hd' k=>hR h' tk hd' fun c oc h3 h4 e=>k c oc h3 h4 (kp c oc h3 h4 e)⟩
  ·obtain⟨b',u',hb',hbS',hbI',htup',hk'⟩:=ht (j+1) q' (by simpa using e)
   exact⟨b',u',by rw[show i+1+j=i+(j+1) by omega];exact hb',hbS',hbI',(htup'.extBut hs1.extBut hbI').extBut hs2.extBut hbS',hk'⟩
  ·exact (hl.extBut hs1.extBut hlI).extBut hs2.extBut (Ne.symm hSl)
theorem call_dictT {s:Shared} {l:Addr} {items:Array Value} {n:Nat} {sl:Array (Option Value)} {prs:List (Key×Value)} {Q:Value→Shared→Prop} (hh:A.handled=none) (hl:s.heap.get? l=some {cls:=.type "tuple",dict:=none,data:=.seq items n,slots:=sl}) (hsz:items.size=prs.length) (hln:prs.length≤sizeLine)
  (ht:∀(j:Nat) (q:Key×Value),prs[j]?=some q→∃(b:Addr) (u:Value),items[j]?=some (.ref b)∧IsTup s.heap b #[u,q.2]∧keyIs q.1 u=true)
  (h:∀h' tk,h'.DictOf (mixKind prog w) s.heap.objs.size (merged [] prs)→(∀b o,s.heap.get? b=some o→h'.get? b=some o)→Q (.ref s.heap.objs.size) {s with heap:=h',toks:=tk}) :
  wpAny (model prog w) A (call (.type "dict") [.ref l]) Q E s:=by
 refine callType_codes (Q₁:=fun obj s1=>obj=.ref s.heap.objs.size∧s1={s with heap:=s.heap.push {cls:=.type "dict",data:=.dict #[]}}) PySem.F.kt_called_dict (PySem.F.kt_typeCall_dict_1 _) PySem.F.entry_dict_init (kt_code_dict_new _ ⟨rfl,rfl⟩) ?_
 rintro obj s1 ⟨rfl,rfl⟩
 have new:(s.heap.push {cls:=.type "dict",data:=.dict #[]}).DictOf (mixKind prog w) s.heap.objs.size []:=Heap.DictOf.new s.heap
 have k0:∀b o,s.heap.get? b=some o→(s.heap.push {cls:=.type "dict",data:=.dict #[]}).get? b=some o:=fun b o e=>Heap.get?_push_of_some _ e
 refine⟨new.typeIs,PySem.F.args_dict_init_2 _ _,?_⟩
 unfold Builtin.«dict.__init__»
 refine wpAny_bind ?_
 unfold Builtin.Dict.selfAndRest
 refine wpAny_bind (wpAny_notOrdered_dict new.typeIs (show wpAny _ _ (pure (s.heap.objs.size,[Value.ref l])) _ _ _ from wpAny_pure ?_))
 change wpAny _ _ (Builtin.Dict.updateFrom "dict.__init__" s.heap.objs.size (.ref l) [] .none) _ _ _
 unfold Builtin.Dict.updateFrom
 refine wpAny_bind (wpAny_typeOf (T := "tuple") ⟨_,k0 _ _ hl,rfl⟩ ?_)
 rw[if_pos (by first|decide|rfl|simp)]
 refine wpAny_bind (miss_tuple (k0 _ _ hl) hh fun h1 tk1 hk1 => ?_)
 rw[if_pos (show (none:Option Value).isNone=true from rfl)]
 refine wpAny_bind (wpAny_rule ?_)
 have hl1:h1.IsTuple l items:=⟨_,hk1 _ _ (k0 _ _ hl),rfl,n,rfl⟩
 have big:s.heap.objs.size<h1.objs.size:=Heap.lt_size (hk1 _ _ (Heap.get?_push_size s.heap (o:={cls:=.type "dict",data:=.dict #[]}) rfl))
 refine wpAny_bind (wpAny_pyIter_tuple hl1 ?_)
 have k2:∀b o,h1.get? b=some o→(h1.push {cls:=.type "tuple_iterator",data:=.fields #[.ref l,.int 0 0]}).get? b=some o:=fun b o e=>Heap.get?_push_of_some _ e
 have lt:l<s.heap.objs.size:=Heap.lt_size hl
 have key:=loopD (prog:=prog) (w:=w) (A:=A.in1) (R:=wants (fun r s2=>r=.none∧Q (.ref s.heap.objs.size) s2) E) (S:=s.heap.objs.size) (I:=h1.objs.size) (l:=l) (items:=items) (res:=Value.none) hh
  (Nat.ne_of_lt (Nat.lt_trans lt big)) (Nat.ne_of_lt big) (Nat.ne_of_gt lt) prs 0 [] 0 0 {s with heap:=h1.push {cls:=.type "tuple_iterator",data:=.fields #[.ref l,.int 0 0]},toks:=tk1} (by rw[hsz,Nat.zero_add]) (by rw[List.length_nil,Nat.zero_add];exact hln)
  (fun j q e=>by
   obtain⟨b,u,e1,e2,e3⟩:=ht j q e
   exact⟨b,u,by rw[Nat.zero_add];exact e1,Nat.ne_of_lt e2.lt,Nat.ne_of_lt (Nat.lt_trans e2.lt big),e2.keeps fun c o z=>k2 _ _ (hk1 _ _ (k0 _ _ z)),e3⟩)
  ⟨_,Heap.get?_push_size _ rfl,rfl,rfl⟩ (hl1.at fun o e=>k2 _ _ e) ((new.at fun o e=>hk1 _ _ e).at fun o e=>k2 _ _ e)
  (fun h' tk hd' k=>⟨rfl,h h' tk hd' fun b o e=>k b o (Nat.ne_of_lt (Heap.lt_size e)) (Nat.ne_of_lt (Nat.lt_trans (Heap.lt_size e) big)) (k2 _ _ (hk1 _ _ (k0 _ _ e)))⟩)
 first
 |exact wpAny_pure ⟨plainId_quiet ud_plain _,key⟩
 |exact wpAny_bind (wpAny_pure (wpAny_pure ⟨plainId_quiet ud_plain _,key⟩))
end
def SqN (K:PySem.W.Frag) (H:Hp) (a:Addr) (xs:List V):Prop:=(∃o,H a=some (.frz o (.tup xs))∧o.dict=none)∨∃(o:Obj) (its:Array Value) (n:Nat),K.lookup a=some o∧o.cls=.type "tuple"∧o.data=.seq its n∧its.size≤sizeLine∧Vals xs its.toList∧o.dict=none
theorem SqN.at {X:Cx} {pins:List (Addr×Obj)} {σ:L2.St} {H:Hp} {s:Shared} {a:Addr} {xs:List V} (I:L2.Inv X pins σ H s) (h:SqN X.K H a xs):∃(its:List Value) (n:Nat) (sl:Array (Option Value)),Vals xs its∧s.heap.get? a=some {cls:=.type "tuple",dict:=none,data:=.seq its.toArray n,slots:=sl}∧xs.length≤sizeLine:=by
 rcases h with ⟨⟨oc,od,dt,sl⟩,e,hd⟩|⟨⟨oc,od,dt,sl⟩,its,n,hk,hc,hs,hz,r,hd⟩
 ·obtain⟨g,z,its,r,⟨oc',od',dt',sl'⟩,g',hc,n,hdt⟩:=I.hok a _ e
  simp only at hd hc hdt
  rw[g] at g'
  cases g'
  subst hd hc hdt
  exact⟨its,n,sl,r,g,z⟩
 ·simp only at hd hc hs
  subst hd hc hs
  refine⟨its.toList,n,sl,r,by simpa using I.kIn a _ hk,?_⟩
  have:=r.length
  simp only[Array.length_toList] at this
  omega
theorem call_dictN {X:Cx} (hcalm:X.calm=true):CallR X (.type "dict") (fun xs H Q=>∃(a:Addr) (ps:List Addr) (kvs:List (Key×V)),xs=[.ref a]∧SqN X.K H a (ps.map V.ref)∧Paired (fun p kv=>SqT X.K H p [kV kv.1,kv.2]) ps kvs ∧
  ∀p,H p=none→Q (.ref p) (upd H p (.dK (mergeK [] kvs)))):=by
 intro pins s σ H xs us Q I r ⟨a,ps,kvs,ex,hq,hp,q⟩
 subst ex
 obtain⟨u,eu,rx⟩:=vals1 r
 subst eu
 cases rx
 obtain⟨its,n,sl,rv,ho,hz⟩:=hq.at I
 have ei:=refs_at rv
 subst ei
 rw[List.length_map] at hz
 obtain⟨prs,rel,hl,hpr⟩:=pairs_of I hp
 refine call_dictT (prs:=prs) (I.ok.hd hcalm) ho (by simp[hl]) (by rw[hl];exact hz) (fun j q' e => ?_) fun h' tk hd' k => ?_
 ·obtain⟨b,u,e1,e2,e3⟩:=hpr j q' e
  exact⟨b,u,by simp[e1],e2,e3⟩
 ·have hm:(s.heap.objs.size == sysModules)=false:=beq_eq_false_iff_ne.mpr (Nat.ne_of_gt I.big)
  have hlen:(mergeK [] kvs).length≤sizeLine:=by
   have:=length_mergeK kvs []
   rw[List.length_nil,Nat.zero_add,rel.length,hl] at this
   exact Nat.le_trans this hz
  exact⟨.ref s.heap.objs.size,upd H s.heap.objs.size (.dK (mergeK [] kvs)),I.laid (t':=tk) k (Nat.le_refl _) (show ObjOk X.prog X.w _ _ _ (.dK (mergeK [] kvs)) from ⟨hlen,hm,merged [] prs,KV.merge rel .nil,hd'⟩),rfl,q _ (I.hok.fresh (Nat.le_refl _))⟩
end DnD
namespace DnS
open PySem PySem.Spec PyProof.Rows L2
def hasK (l:List Key) (k:Key):Bool:=l.any fun y=>decide (y=k)
def met (val:Nat→Key):Nat→List Key
|0=>[]
|i+1=>if hasK (met val i) (val i)=true then met val i else met val i++[val i]
theorem setOf_congr {prog:Program} {w:World} {h:Heap} {a:Addr} {S S':Key→Bool} {n n':Nat} (x:h.SetOf (mixKind prog w) a S n) (e:∀k,S k=S' k) (en:n=n'):h.SetOf (mixKind prog w) a S' n':=by
 obtain rfl:S=S':=funext e
 subst en
 exact x
theorem met_le (val:Nat→Key):∀i,(met val i).length≤i
|0=>Nat.le_refl _
|i+1=>by
  have ih:=met_le val i
  unfold met
  split
  ·omega
  ·rw[List.length_append];simp;omega
section
variable {prog:Program} {w:World} {A:Around} {R:Result→Shared→Prop} {I:Addr} {fp wr:List Addr} {G:Array GenState→Array GenState→Prop} {n:Nat} {P:Nat→Value→Prop} {St:Nat→Shared→Prop}
abbrev Holds (prog:Program) (w:World) (val:Nat→Key) (i:Nat) (S:Addr) (h:Heap):Prop:=h.SetOf (mixKind prog w) S (hasK (met val i)) (met val i).length
theorem Holds.keep {val:Nat→Key} {i:Nat} {S:Addr} {h h':Heap} (a:Holds prog w val i S h) (k:∀o,h.get? S=some o→h'.get? S=some o):Holds prog w val i S h':=setOf_at a k
theorem loopK (W:WalksS prog w A.in1 I fp wr G n P St) {S:Addr} (hS:S ∉ fp) {val:Nat→Key} (hv:∀i v,P i v→keyIs (val i) v=true∧v.scannable=true) (hb:n+1<scanBound) (left:Nat) :
  ∀(i:Nat) (s:Shared),i+left=n→St i s→Holds prog w val i S s.heap→(∀s',Moved (S::wr) G s s'→Holds prog w val n S s'.heap→R (.ok (.ret .none)) s') →
   codeAny (model prog w) A (.builtin "set.update.loop" ⟨[.ref S,.ref I],[]⟩) R s:=by
 have out:S ∉ wr:=fun z=>hS (W.sub _ z)
 have more:∀b∈wr,b∈S::wr:=fun b z=>List.mem_cons_of_mem _ z
 induction left with
|zero=>
  intro i s hi hst hs hR
  have hi:i=n:=hi
  subst hi
  refine codeAny_builtin F.entry_set_update_loop ?_
  rw[Around.under_plainId F.plain_set_update_loop _]
  change wpAny _ A.in1 (pyNext (.ref I) >>= _) _ _ s
  exact wpAny_bind (W.done s _ _ hst fun s' mv=>wpAny_pure (hR s' (mv.mono more) (hs.keep fun o e=>mv.heap S o out e)))
|succ left ih=>
  intro i s hi hst hs hR
  refine codeAny_builtin F.entry_set_update_loop ?_
  rw[Around.under_plainId F.plain_set_update_loop _]
  change wpAny _ A.in1 (pyNext (.ref I) >>= _) _ _ s
  refine wpAny_bind (W.item i s _ _ (by omega) hst fun v s1 hP hst1 mv => ?_)
  obtain⟨k1,k2⟩:=hv i v hP
  have hs1:=hs.keep fun o e=>mv.heap S o out e
  change wpAny _ A.in1 (holding [v] (setAdd S v) >>= _) _ _ s1
  have room:(met val i).length+1<scanBound:=by have:=met_le val i;omega
  refine wpAny_bind (wpAny_holding ?_)
  unfold setAdd
  refine wpAny_holding (wpAny_bind ((mixKind prog w).pyHash (k:=val i) k1 ?_))
  refine wpAny_setAddHashed_of (knd:=mixKind prog w) (s:={s1 with toks:=s1.toks+1}) k1 k2 hs1 room fun h' sb hs2 => ?_
  have hs3:Holds prog w val (i+1) S h':=by
   refine setOf_congr hs2 (fun k => ?_) ?_
   ·simp only[met]
    by_cases c:hasK (met val i) (val i)=true
    ·rw[if_pos c]
     by_cases e:k=val i
     ·subst e;simp[c]
     ·simp[e]
    ·rw[if_neg c]
     unfold hasK
     rw[List.any_append]
     congr 1
     simp[eq_comm]
   ·simp only[met]
    by_cases c:hasK (met val i) (val i)=true
    ·rw[if_pos c,if_pos c]
    ·rw[if_neg c,if_neg c,List.length_append];rfl
  have off:∀b o,b≠S→s1.heap.get? b=some o→h'.get? b=some o:=fun b o hb e=>(sb.2 b hb).trans e
  refine wpAny_pure ⟨plainId_quiet F.plain_set_update_loop _,ih (i+1) _ (by omega) (W.frame _ s1 _ _ hst1 (Nat.le_succ _) fun b hb o e=>off b o (fun z=>hS (z ▸ hb)) e) hs3 fun s2 mv2 hs4 => ?_⟩
  exact hR s2 (Moved.trans W.gtrans ((mv.mono more).then_heap (Nat.le_succ _) fun b o hb e=>off b o (fun z=>hb (z ▸ List.mem_cons_self)) e) mv2) hs4
end
section
variable {prog:Program} {w:World} {A:Around} {E:Value→Shared→Prop} {s:Shared}
set_option maxHeartbeats 4000000 in
theorem call_setK {l:Addr} {items:Array Value} {val:Nat→Key} {Q:Value→Shared→Prop} (hh:A.handled=none) (hl:s.heap.IsList l items) (hv:∀i v,items[i]?=some v→keyIs (val i) v=true∧v.scannable=true) (hb:items.size+1<scanBound)
  (h:∀(h':Heap) (tk:Nat),Holds prog w val items.size s.heap.objs.size h'→(∀b o,b<s.heap.objs.size→s.heap.get? b=some o→h'.get? b=some o)→Q (.ref s.heap.objs.size) {s with heap:=h',toks:=tk}) :
  wpAny (model prog w) A (call (.type "set") [.ref l]) Q E s:=by
 obtain⟨c,tl,hmro⟩:=F.called_set.mro
 have hmade:=F.called_set.made
 have hsub:=F.called_set.sub
 have nt:=F.called_set.notType
 have cc:=F.called_set.canCreate
 have ct:=F.typeCall_set_1 (.ref l)
 refine wpAny_call (codeAny_of_tree (show wpAny _ _ (callAny (.type "set") _) _ _ _ from wpAny_pure ⟨Code.quiet_builtin _ (by decide +kernel),codeAny_builtin F.entry_type_call ?_⟩))
 rw[Around.under_plain (weight_type_call_type "set" [.ref l] []) rfl]
 repeat (any_goals (first|assumption|wp_step))
 refine codeAny_mono (code_set_new_1 (.ref l) (E:=E) (Q₁:=fun obj s1=>∃led:Bool,obj=.ref s.heap.objs.size∧s1={s with heap:=s.heap.push {cls:=.type "set",dict:=none,data:=.set #[] 0 (.fresh 0 0 led)}}) fun led=>⟨led,rfl,rfl⟩) fun r s1 hr => ?_
 match r,hr with
|.error e,hr=>exact hr
|.ok (.ret obj),hr=>
  obtain⟨led,rfl,rfl⟩:=hr
  let B:=s.heap.objs.size
  have at0:(s.heap.push {cls:=.type "set",dict:=none,data:=.set #[] 0 (.fresh 0 0 led)}).get? s.heap.objs.size=some {cls:=.type "set",dict:=none,data:=.set #[] 0 (.fresh 0 0 led)}:=Heap.get?_push_size _ rfl
  have ty:Shared.TypeIs {s with heap:=s.heap.push {cls:=.type "set",dict:=none,data:=.set #[] 0 (.fresh 0 0 led)}} (.ref s.heap.objs.size) "set":=⟨_,at0,rfl⟩
  have il:=F.called_set.init.lookup
  have ib:=F.called_set.init.bind (.ref s.heap.objs.size)
  repeat (any_goals (first|assumption|wp_step))
  refine codeAny_mono (codeAny_call_builtin (R:=wants (fun r s2=>r=.none∧∃h' tk,s2={s with heap:=h',toks:=tk}∧Holds prog w val items.size s.heap.objs.size h'∧(∀b o,b<s.heap.objs.size→s.heap.get? b=some o→h'.get? b=some o)) E)
   F.called_set.init.plain F.entry_set_init (check_set_init_1 ty ?_)) fun r2 s2 hr2 => ?_
  ·obtain⟨⟨oc,od,odt,osl⟩,hol,ec,nl,ed⟩:=hl
   simp only at ec ed
   subst ec ed
   have lt:l<s.heap.objs.size:=Heap.lt_size hol
   have hol1:(s.heap.push {cls:=.type "set",dict:=none,data:=.set #[] 0 (.fresh 0 0 led)}).get? l=some {cls:=.type "list",dict:=od,data:=.seq items nl,slots:=osl}:=Heap.get?_push_of_some _ hol
   have hl1:(s.heap.push {cls:=.type "set",dict:=none,data:=.set #[] 0 (.fresh 0 0 led)}).IsList l items:=⟨_,hol1,rfl,nl,rfl⟩
   have f1:=F.sub_list_set
   have f2:=F.sub_list_frozenset
   have f3:(Value.type "list" == Value.type "dict")=false:=by decide
   unfold Builtin.«set.__init__» noKeywords Builtin.Frozenset.updateFrom
   generalize hPI:pyIter=PI
   wp_walk
   subst hPI
   refine wpAny_pyIter_list hl1 (wpAny_bind (wpAny_runValue ?_))
   have hz:(s.heap.push {cls:=.type "set",dict:=none,data:=.set #[] 0 (.fresh 0 0 led)}).objs.size=s.heap.objs.size+1:=Heap.size_push ..
   have ne1:l≠(s.heap.push {cls:=.type "set",dict:=none,data:=.set #[] 0 (.fresh 0 0 led)}).objs.size:=by rw[hz];exact Nat.ne_of_lt (Nat.lt_succ_of_lt lt)
   refine loopK ((Walks.list (A:=A.in1.in1.in1) (by simp[hh]) _ l ne1 items).toS) (S:=s.heap.objs.size) ?_ hv hb items.size 0 _ (Nat.zero_add _) ⟨⟨_,Heap.get?_push_size _ rfl,rfl,rfl⟩,hl1.push _⟩ ?_ ?_
   ·rw[hz]
    intro z
    rcases List.mem_cons.mp z with z|z
    ·exact absurd z (Nat.ne_of_lt (Nat.lt_succ_self _))
    ·exact absurd (List.mem_singleton.mp z) (Nat.ne_of_gt lt)
   ·exact⟨_,#[],0,_,Heap.get?_push_of_some _ at0,⟨rfl,rfl,rfl⟩,rfl,fun e he=>by simp at he,fun k=>by simp[hasK,met],by unfold scanBound;simp,rfl,rfl⟩
   ·intro s3 mv hs3
    obtain⟨h',g',d',tk',os'⟩:=s3
    obtain rfl:g'=s.gens:=mv.gens
    obtain rfl:d'=s.drawn:=mv.drawn
    obtain rfl:os'=s.os:=mv.os
    refine wpAny_pure (show wpAny _ _ (ret Value.none) _ _ _ from wpAny_pure ⟨rfl,h',tk',rfl,hs3,fun b o hb e=>mv.heap b o (fun z => ?_) (Heap.get?_push_of_some _ (Heap.get?_push_of_some _ e))⟩)
    rw[hz] at z
    rcases List.mem_cons.mp z with z|z
    ·exact absurd z (Nat.ne_of_lt hb)
    ·exact absurd (List.mem_singleton.mp z) (Nat.ne_of_lt (Nat.lt_succ_of_lt hb))
  ·match r2,hr2 with
  |.error e,hr2=>exact hr2
  |.ok (.ret r),hr2=>
    obtain⟨rfl,h',tk,rfl,hs4,hk4⟩:=hr2
    repeat (any_goals (first|assumption|wp_step))
    exact h _ _ hs4 hk4
end
def uniq (ks:List Key):List Key:=ks.foldl (fun a k=>if hasK a k=true then a else a++[k]) []
theorem met_uniq (ks:List Key) (d:Key):∀i,i≤ks.length→met (fun j=>ks.getD j d) i=uniq (ks.take i)
|0,_=>rfl
|i+1,hi=>by
  have e:ks.take (i+1)=ks.take i++[ks[i]]:=by rw[List.take_add_one,List.getElem?_eq_getElem hi];rfl
  have e2:ks.getD i d=ks[i]:=by rw[List.getD_eq_getElem?_getD,List.getElem?_eq_getElem hi];rfl
  rw[e]
  unfold uniq
  rw[List.foldl_append]
  simp only[met,List.foldl_cons,List.foldl_nil,e2]
  rw[met_uniq ks d i (Nat.le_of_lt hi)] <;> rfl
def tLenSetK (K:PySem.W.Frag) (ta:TE):TE:=fun σ H Q=>ta σ H fun x H1=>∃(l:Addr) (ks:List Key),x=.ref l∧SqL K H1 l (ks.map kV)∧ks.length≤4000∧Q (.int ((uniq ks).length:Nat)) H1
theorem relV_key {k:Key} {u:Value} (r:RelV (kV k) u):keyIs k u=true∧u.scannable=true:=by
 refine⟨?_,key_scan r⟩
 cases k with
|inl i=>obtain⟨t,rfl⟩:=r;exact keyIs_int i t
|inr x=>obtain⟨t,rfl⟩:=r;exact keyIs_str x t
theorem pe_lenSetK {X:Cx} {a:Expr} {ta:TE} {p p2 q pos:Pos} (hg:Gl X "len") (hm:X.mg "len"=none) (hg2:Gl X "set") (hm2:X.mg "set"=none) (ha:PE X a ta) (hc:X.calm=true)
  (na:starEach [a] X.env=(false,eval a X.env)::starEach [] X.env):PE X (.Call (.Name "len" p) [.Call (.Name "set" p2) [a] [] q] [] pos) (tLenSetK X.K ta):=by
 constructor
 intro pins s σ H Q I h
 have run:=ha.run pins s σ H _ I h
 refine Call_ (ld_blt I hg hm boot_len (PyProof.Rows.callWith_builtin1 (PyProof.Rows.args_cons (Call_ (ld_blt I hg2 hm2 boot_set ?_)) rfl) rfl rfl))
 refine PyProof.Rows.callWith_type1 (PyProof.Rows.args_cons (thn run fun v s1 hr=>PyProof.Rows.args_nil ?_) na) na rfl
 obtain⟨x,H1,I1,r1,q1⟩:=hr
 obtain⟨l,ks,rfl,hq,hl,q1⟩:=q1
 cases r1
 obtain⟨its,r,pl,hz⟩:=I1.list hq
 have hlen:its.toArray.size=ks.length:=by rw[List.size_toArray,←r.length,List.length_map]
 refine call_setK (val:=fun j=>ks.getD j (.inl 0)) (I1.ok.hd hc) pl.isList (fun i v e => ?_) (by rw[hlen];unfold scanBound;omega) fun h' tk hS hk=>PyProof.Rows.args_nil ?_
 ·have e':its[i]?=some v:=by simpa using e
  have hi:i<ks.length:=by rw[←hlen];simpa using (List.getElem?_eq_some_iff.mp e').1
  obtain⟨u,e1,e2⟩:=r.get (i:=i) (x:=kV ks[i]) (by rw[List.getElem?_map,List.getElem?_eq_getElem hi];rfl)
  rw[e'] at e1
  cases e1
  rw[show ks.getD i (.inl 0)=ks[i] by rw[List.getD_eq_getElem?_getD,List.getElem?_eq_getElem hi];rfl]
  exact relV_key e2
 ·have hS:=hS
  rw[hlen] at hS
  obtain⟨o,es,ep,t,ho,hex,hd,_,_,_,hf,hn⟩:=hS
  have hle:=met_le (fun j=>ks.getD j (.inl 0)) ks.length
  have I2:Inv X pins σ H1 {s1 with heap:=h',toks:=tk}:=I1.kept fun b o e=>hk b o (Heap.lt_size e) e
  rw[met_uniq ks (.inl 0) ks.length (Nat.le_refl _),List.take_length] at hn hle
  exact call_len_set ho hex hd hf (by rw[hn];omega) ⟨.int ((uniq ks).length:Nat),H1,I2.tok _,⟨_,by rw[hn]⟩,q1⟩
end DnS
namespace Dn
open PySem L2
abbrev tx (x:List Nat):Str:=⟨x.toArray⟩
def KL (K:PySem.W.Frag) (a:Addr) (xs:List V):Prop:=
 ∃(o:Obj) (its:Array Value) (n:Nat),K.lookup a=some o∧o.cls=.type "list"∧o.dict=none∧o.data=.seq its n∧its.size≤sizeLine∧Vals xs its.toList
def KT' (K:PySem.W.Frag) (a:Addr) (xs:List V):Prop:=
 ∃(o:Obj) (its:Array Value) (n:Nat),K.lookup a=some o∧o.cls=.type "tuple"∧o.data=.seq its n∧its.size≤sizeLine∧Vals xs its.toList∧o.dict=none
mutual
inductive VR (K:PySem.W.Frag) (m:List Addr) (H:Hp):D→V→Prop
|non:VR K m H .non .non
|bl (b:Bool):VR K m H (.bl b) (.bl b)
|int (i:Int):VR K m H (.int i) (.int i)
|str (x:List Nat):VR K m H (.str x) (.str (tx x))
|tup {a:Addr} {o:Obj} {vs:List V} {ds:List D}:H a=some (.frz o (.tup vs))→o.dict=none→a ∉ m→VRs K m H ds vs→VR K m H (.tup ds) (.ref a)
|tupK {a:Addr} {vs:List V} {ds:List D}:KT' K a vs→VRs K m H ds vs→VR K m H (.tup ds) (.ref a)
|lst {a:Addr} {vs:List V} {ds:List D}:H a=some (.lst vs)→a ∉ m→VRs K m H ds vs→VR K m H (.lst ds) (.ref a)
|fz {a:Addr} {o:Obj} {vs:List V} {ds:List D}:H a=some (.frz o (.lst vs))→a ∉ m→VRs K m H ds vs→VR K m H (.fz ds) (.ref a)
|fzK {a:Addr} {vs:List V} {ds:List D}:KL K a vs→VRs K m H ds vs→VR K m H (.fz ds) (.ref a)
|ref {n:Nat} {a:Addr}:m[n]?=some a→VR K m H (.ref n) (.ref a)
inductive VRs (K:PySem.W.Frag) (m:List Addr) (H:Hp):List D→List V→Prop
|nil:VRs K m H [] []
|cons {d:D} {v:V} {ds:List D} {vs:List V}:VR K m H d v→VRs K m H ds vs→VRs K m H (d::ds) (v::vs)
end
def kyR:Ky→Key
|.inl i=>.inl i
|.inr x=>.inr (tx x)
def Lay (K:PySem.W.Frag) (m:List Addr) (H:Hp) (a:Addr):Ob→List V→Prop
|.lst _,vs=>H a=some (.lst vs)
|.dic kvs,vs=>H a=some (.dK ((kvs.map fun p=>kyR p.1).zip vs))
|.ins c fs,vs=>∃C dx,PySem.W.nsIn K mainGlobals c=some (some (.ref C))∧H a=some (.ins C dx ((fs.map (·.1)).zip vs))∧H dx=some (.own a)∧dx ∉ m
def ObR (K:PySem.W.Frag) (m:List Addr) (H:Hp) (a:Addr) (o:Ob):Prop:=∃vs,Lay K m H a o vs∧VRs K m H o.ds vs
structure Rl (K:PySem.W.Frag) (m:List Addr) (H:Hp) (st:Sto):Prop where
 len:m.length=st.length
 nd:m.Nodup
 ob:∀(n:Nat) (a:Addr) (o:Ob),m[n]?=some a→st[n]?=some o→ObR K m H a o
structure Fut (m:List Addr) (H:Hp) (m':List Addr) (H':Hp):Prop where
 pre:∃e,m'=m++e
 new:∀a∈m',a∈m∨H a=none
 keep:∀a u,a ∉ m→H a=some u→H' a=some u
structure ER (K:PySem.W.Frag) (m:List Addr) (H:Hp) (ρ:Env) (σ:L2.St):Prop where
 len:ρ.length=σ.length
 at_:∀(i:Nat) d,ρ[i]?=some (some d)→∃v,σ[i]?=some (some v)∧VR K m H d v
section
variable {K:PySem.W.Frag} {m m' m'':List Addr} {H H' H'':Hp} {st st':Sto}
theorem Fut.refl:Fut m H m H:=⟨⟨[],by simp⟩,fun _ h=>.inl h,fun _ _ _ h=>h⟩
theorem Fut.out (f:Fut m H m' H') {a:Addr} {u:HO} (h:a ∉ m) (e:H a=some u):a ∉ m':=fun q=>by
 rcases f.new a q with z|z
 ·exact h z
 ·rw[e] at z;cases z
theorem Fut.sub (f:Fut m H m' H') {a:Addr} (h:a∈m):a∈m':=by
 obtain⟨e,rfl⟩:=f.pre
 exact List.mem_append_left _ h
theorem Fut.at_ (f:Fut m H m' H') {n:Nat} {a:Addr} (h:m[n]?=some a):m'[n]?=some a:=by
 obtain⟨e,rfl⟩:=f.pre
 rw[List.getElem?_append_left (List.getElem?_eq_some_iff.mp h).1]
 exact h
theorem Fut.trans (f:Fut m H m' H') (g:Fut m' H' m'' H''):Fut m H m'' H'':=by
 refine⟨?_,fun a ha => ?_,fun a u h e=>g.keep a u (f.out h e) (f.keep a u h e)⟩
 ·obtain⟨e,rfl⟩:=f.pre
  obtain⟨e',rfl⟩:=g.pre
  exact⟨e++e',by rw[List.append_assoc]⟩
 ·rcases g.new a ha with z|z
  ·exact f.new a z
  ·by_cases hm:a∈m
   ·exact .inl hm
   ·cases q:H a with
   |none=>exact .inr rfl
   |some u=>
     rw[f.keep a u hm q] at z
     cases z
mutual
theorem VR.mono (f:Fut m H m' H'):∀{d:D} {v:V},VR K m H d v→VR K m' H' d v
|.non,_,h=>by cases h;exact .non
|.bl _,_,h=>by cases h;exact .bl _
|.int _,_,h=>by cases h;exact .int _
|.str _,_,h=>by cases h;exact .str _
|.tup ds,_,h=>by
  cases h with
 |tup e e' n r=>exact .tup (f.keep _ _ n e) e' (f.out n e) (VRs.mono f r)
 |tupK e r=>exact .tupK e (VRs.mono f r)
|.lst ds,_,h=>by
  cases h with
 |lst e n r=>exact .lst (f.keep _ _ n e) (f.out n e) (VRs.mono f r)
|.fz ds,_,h=>by
  cases h with
 |fz e n r=>exact .fz (f.keep _ _ n e) (f.out n e) (VRs.mono f r)
 |fzK e r=>exact .fzK e (VRs.mono f r)
|.ref n,_,h=>by
  cases h with
 |ref e=>exact .ref (f.at_ e)
theorem VRs.mono (f:Fut m H m' H'):∀{d:List D} {v:List V},VRs K m H d v→VRs K m' H' d v
|[],_,h=>by cases h;exact .nil
|_::_,_,h=>by
  cases h with
 |cons a b=>exact .cons (VR.mono f a) (VRs.mono f b)
end
theorem ER.mono {ρ:Env} {σ:L2.St} (f:Fut m H m' H') (e:ER K m H ρ σ):ER K m' H' ρ σ:=⟨e.len,fun i d h=>by
 obtain⟨v,a,b⟩:=e.at_ i d h
 exact⟨v,a,b.mono f⟩⟩
theorem VRs.length:∀{ds:List D} {vs:List V},VRs K m H ds vs→ds.length=vs.length
|[],_,h=>by cases h;rfl
|_::_,_,h=>by
  cases h with
 |cons a b=>rw[List.length_cons,List.length_cons,VRs.length b]
theorem VRs.get:∀{ds:List D} {vs:List V},VRs K m H ds vs→∀{i:Nat} {d:D},ds[i]?=some d→∃v,vs[i]?=some v∧VR K m H d v
|[],_,h,i,d,e=>by simp at e
|x::_,_,h,i,d,e=>by
  cases h with
 |@cons _ v _ vs a b=>
   cases i with
  |zero=>simp at e;subst e;exact⟨v,rfl,a⟩
  |succ i=>simpa using VRs.get b (by simpa using e)
theorem VRs.append:∀{ds es:List D} {vs us:List V},VRs K m H ds vs→VRs K m H es us→VRs K m H (ds++es) (vs++us)
|[],_,_,_,h,g=>by cases h;exact g
|_::_,_,_,_,h,g=>by
  cases h with
 |cons a b=>exact .cons a (VRs.append b g)
theorem VRs.drop:∀{ds:List D} {vs:List V} (n:Nat),VRs K m H ds vs→VRs K m H (ds.drop n) (vs.drop n)
|_,_,0,h=>h
|[],_,_+1,h=>by cases h;exact .nil
|_::_,_,n+1,h=>by
  cases h with
 |cons a b=>exact VRs.drop n b
theorem VRs.take:∀{ds:List D} {vs:List V} (n:Nat),VRs K m H ds vs→VRs K m H (ds.take n) (vs.take n)
|_,_,0,h=>.nil
|[],_,_+1,h=>by cases h;exact .nil
|_::_,_,n+1,h=>by
  cases h with
 |cons a b=>exact .cons a (VRs.take n b)
theorem VRs.set {d:D} {v:V} (r:VR K m H d v):∀{ds:List D} {vs:List V} (n:Nat),VRs K m H ds vs→VRs K m H (ds.set n d) (vs.set n v)
|[],_,_,h=>by cases h;exact .nil
|_::_,_,n,h=>by
  cases h with
 |cons a b=>
   cases n with
  |zero=>exact .cons r b
  |succ n=>exact .cons a (VRs.set r n b)
theorem VRs.flat:∀{ds:List D} {vs:List V} (k:Nat),VRs K m H ds vs→VRs K m H (List.replicate k ds).flatten (List.replicate k vs).flatten
|_,_,0,_=>.nil
|_,_,k+1,h=>by
  rw[List.replicate_succ,List.replicate_succ,List.flatten_cons,List.flatten_cons]
  exact VRs.append h (VRs.flat k h)
theorem VRs.dropLast {ds:List D} {vs:List V} (h:VRs K m H ds vs):VRs K m H ds.dropLast vs.dropLast:=by
 rw[List.dropLast_eq_take,List.dropLast_eq_take,h.length]
 exact h.take _
theorem VRs.eraseIdx:∀{ds:List D} {vs:List V} (n:Nat),VRs K m H ds vs→VRs K m H (ds.eraseIdx n) (vs.eraseIdx n)
|[],_,_,h=>by cases h;exact .nil
|_::_,_,n,h=>by
  cases h with
 |cons a b=>
   cases n with
  |zero=>exact b
  |succ n=>exact .cons a (VRs.eraseIdx n b)
theorem VRs.reverse:∀{ds:List D} {vs:List V},VRs K m H ds vs→VRs K m H ds.reverse vs.reverse
|[],_,h=>by cases h;exact .nil
|_::_,_,h=>by
  cases h with
 |cons a b=>
   rw[List.reverse_cons,List.reverse_cons]
   exact VRs.append (VRs.reverse b) (.cons a .nil)
theorem VRs.ints:∀{ds:List D} {vs:List V} {ns:List Int},VRs K m H ds vs→alls isInt ds=some ns→vs=ns.map V.int
|[],_,_,h,e=>by cases h;cases e;rfl
|d::r,_,ns,h,e=>by
  cases h with
 |cons a b=>
   rw[alls] at e
   cases hd:isInt d with
  |none=>rw[hd] at e;cases e
  |some i=>
    cases hr:alls isInt r with
   |none=>rw[hd,hr] at e;cases e
   |some is=>
     rw[hd,hr] at e
     cases e
     cases d <;> simp[isInt] at hd
     subst hd
     cases a
     rw[VRs.ints b hr];rfl
theorem VRs.bls:∀{ds:List D} {vs:List V} {ns:List Bool},VRs K m H ds vs→alls isBl ds=some ns→vs=ns.map V.bl
|[],_,_,h,e=>by cases h;cases e;rfl
|d::r,_,ns,h,e=>by
  cases h with
 |cons a b=>
   rw[alls] at e
   cases hd:isBl d with
  |none=>rw[hd] at e;cases e
  |some i=>
    cases hr:alls isBl r with
   |none=>rw[hd,hr] at e;cases e
   |some is=>
     rw[hd,hr] at e
     cases e
     cases d <;> simp[isBl] at hd
     subst hd
     cases a
     rw[VRs.bls b hr];rfl
theorem VRs.strs:∀{ds:List D} {vs:List V} {ns:List (List Nat)},VRs K m H ds vs→alls isStr ds=some ns→vs=(ns.map tx).map V.str
|[],_,_,h,e=>by cases h;cases e;rfl
|d::r,_,ns,h,e=>by
  cases h with
 |cons a b=>
   rw[alls] at e
   cases hd:isStr d with
  |none=>rw[hd] at e;cases e
  |some i=>
    cases hr:alls isStr r with
   |none=>rw[hd,hr] at e;cases e
   |some is=>
     rw[hd,hr] at e
     cases e
     cases d <;> simp[isStr] at hd
     subst hd
     cases a
     rw[VRs.strs b hr];rfl
theorem Rl.get (r:Rl K m H st) {n:Nat} {a:Addr} {xs:List D} (h:m[n]?=some a) (e:st[n]?=some (.lst xs)):∃vs,H a=some (.lst vs)∧VRs K m H xs vs:=r.ob n a _ h e
theorem Lay.there {a:Addr} {o:Ob} {vs:List V} (h:Lay K m H a o vs):∃u,H a=some u:=by
 cases o with
|lst _=>exact⟨_,h⟩
|dic _=>exact⟨_,h⟩
|ins c fs=>obtain⟨_,_,_,e,_⟩:=h;exact⟨_,e⟩
theorem Lay.later {a:Addr} {o:Ob} {vs:List V} (h:Lay K m H a o vs) (hk:∀b u,b ∉ m→H b=some u→H' b=some u∧b ∉ m') (ha:H' a=H a):Lay K m' H' a o vs:=by
 cases o with
|lst _=>exact ha.trans h
|dic _=>exact ha.trans h
|ins c fs=>
  obtain⟨C,dx,h1,h2,h3,h4⟩:=h
  obtain⟨h5,h6⟩:=hk dx _ h4 h3
  exact⟨C,dx,h1,ha.trans h2,h5,h6⟩
theorem Rl.there (r:Rl K m H st) {a:Addr} (h:a∈m):H a≠none:=by
 obtain⟨n,hn,e⟩:=List.getElem_of_mem h
 have e':m[n]?=some a:=by rw[←e];exact List.getElem?_eq_getElem hn
 have hs:n<st.length:=by rw[←r.len];exact hn
 obtain⟨vs,q,_⟩:=r.ob n a _ e' (List.getElem?_eq_getElem hs)
 obtain⟨u,z⟩:=q.there
 rw[z];simp
theorem Rl.fresh (r:Rl K m H st) {p:Addr} (h:H p=none):p ∉ m:=fun z=>r.there z h
theorem Fut.upd {p:Addr} {o:HO} (h:H p=none):Fut m H m (upd H p o):=⟨⟨[],by simp⟩,fun _ z=>.inl z,fun a u _ e=>by
 rw[upd_ne (ne_of_none e h)]
 exact e⟩
theorem Rl.grow (r:Rl K m H st) (f:Fut m H m H') (k:∀a∈m,H' a=H a):Rl K m H' st:=⟨r.len,r.nd,fun n a o e1 e2=>by
 obtain⟨vs,q,y⟩:=r.ob n a o e1 e2
 exact⟨vs,q.later (fun b u hb e=>⟨f.keep b u hb e,hb⟩) (k a (List.mem_of_getElem? e1)),y.mono f⟩⟩
theorem Rl.new (r:Rl K m H st) {p:Addr} {o:HO} (h:H p=none):Rl K m (L2.upd H p o) st:=r.grow (Fut.upd h) fun a ha=>upd_ne fun z=>by
 subst z
 exact r.there ha h
theorem Fut.set {n:Nat} {a:Addr} {o:HO} (h:m[n]?=some a):Fut m H m (L2.upd H a o):=⟨⟨[],by simp⟩,fun _ z=>.inl z,fun b u hb e=>by
 rw[upd_ne (fun z=>by subst z;exact hb (List.mem_of_getElem? h))]
 exact e⟩
theorem Rl.put (r:Rl K m H st) {n:Nat} {a:Addr} {o:Ob} {ho:HO} {vs:List V} (h:m[n]?=some a) (hl:Lay K m (L2.upd H a ho) a o vs) (hv:VRs K m H o.ds vs):Rl K m (L2.upd H a ho) (st.set n o):=by
 have f:Fut m H m (L2.upd H a ho):=Fut.set h
 refine⟨by rw[List.length_set];exact r.len,r.nd,fun k b o' e1 e2 => ?_⟩
 by_cases hk:n=k
 ·subst hk
  rw[h] at e1;cases e1
  have hn:=(List.getElem?_eq_some_iff.mp h).1
  rw[r.len] at hn
  rw[List.getElem?_set_self hn] at e2
  cases e2
  exact⟨vs,hl,hv.mono f⟩
 ·rw[List.getElem?_set_ne hk] at e2
  obtain⟨us,q,y⟩:=r.ob k b o' e1 e2
  have ne:b≠a:=fun z=>hk (by
   subst z
   obtain⟨h1,h2⟩:=List.getElem?_eq_some_iff.mp h
   obtain⟨h3,h4⟩:=List.getElem?_eq_some_iff.mp e1
   exact (List.getElem_inj r.nd).mp (h2.trans h4.symm))
  exact⟨us,q.later (fun c u hc e=>⟨f.keep c u hc e,hc⟩) (upd_ne ne),y.mono f⟩
theorem Rl.set (r:Rl K m H st) {n:Nat} {a:Addr} {xs:List D} {vs:List V} (h:m[n]?=some a) (hv:VRs K m H xs vs):Rl K m (L2.upd H a (.lst vs)) (st.set n (.lst xs)):=r.put (o:=.lst xs) h upd_same hv
theorem Fut.push {p:Addr} (h:H p=none) (k:∀a u,a ∉ m→H a=some u→H' a=some u):Fut m H (m++[p]) H':=⟨⟨[p],rfl⟩,fun a ha=>by
 rcases List.mem_append.mp ha with z|z
 ·exact .inl z
 ·simp at z;subst z;exact .inr h,k⟩
theorem Rl.push (r:Rl K m H st) {p:Addr} {o:Ob} {vs:List V} (hn:H p=none) (e:Lay K (m++[p]) H' p o vs) (hv:VRs K (m++[p]) H' o.ds vs) (f:Fut m H (m++[p]) H') (k:∀a∈m,H' a=H a):Rl K (m++[p]) H' (st++[o]):=by
 have hp:=r.fresh hn
 refine⟨by rw[List.length_append,List.length_append,r.len];rfl,?_,fun n a o' e1 e2 => ?_⟩
 ·rw[List.nodup_append]
  exact⟨r.nd,by simp,fun a ha b hb=>by simp at hb;subst hb;exact fun z=>hp (z ▸ ha)⟩
 ·by_cases hm:n<m.length
  ·rw[List.getElem?_append_left hm] at e1
   rw[List.getElem?_append_left (by rw[←r.len];exact hm)] at e2
   obtain⟨us,q,y⟩:=r.ob n a o' e1 e2
   refine⟨us,q.later (fun b u hb eb=>⟨f.keep b u hb eb,fun z => ?_⟩) (k a (List.mem_of_getElem? e1)),y.mono f⟩
   rcases List.mem_append.mp z with z|z
   ·exact hb z
   ·simp at z;subst z;rw[hn] at eb;cases eb
  ·have hn':n=m.length:=by
    have h1:=(List.getElem?_eq_some_iff.mp e1).1
    rw[List.length_append] at h1
    simp at h1
    omega
   subst hn'
   rw[List.getElem?_append_right (Nat.le_refl _),Nat.sub_self] at e1
   rw[r.len,List.getElem?_append_right (Nat.le_refl _),Nat.sub_self] at e2
   simp at e1 e2
   subst e1 e2
   exact⟨vs,e,hv⟩
end
end Dn
namespace Dn
open PySem L2
def XR (K:PySem.W.Frag) (m:List Addr) (H:Hp) (x:Xc) (cls:Value) (dd:Option Addr):Prop:=
 ∃C,PySem.W.nsIn K mainGlobals x.cls=some (some (.ref C))∧cls=.ref C∧match x.fld with
 |none=>dd=none
 |some (f,d)=>∃a v,dd=some a∧a ∉ m∧H a=some (.xd [(f,v)])∧VR K m H d v
abbrev Rel (α β:Type):=List Addr→Hp→List Addr→Hp→Sto→α→β→Prop
def NewL (K:PySem.W.Frag) (m:List Addr) (H:Hp) (m':List Addr) (H':Hp) (st:Sto) (ds:List D) (v:V):Prop:=
 ∃p vs H0,v=.ref p∧H'=L2.upd H0 p (.lst vs)∧H0 p=none∧Fut m H m' H0∧Rl K m' H0 st∧VRs K m' H0 ds vs
def aV (K:PySem.W.Frag) (fr:Bool):Rel D V:=fun m H m' H' st d v=>VR K m' H' d v∧(fr=true→∀ds,d=.lst ds→NewL K m H m' H' st ds v)
def aB:Rel Bool Bool:=fun _ _ _ _ _ a b=>a=b
def aL (K:PySem.W.Frag):Rel (List D) (List V):=fun _ _ m' H' _ ds vs=>VRs K m' H' ds vs
def aO:Rel (Option Int) (Option Int):=fun _ _ _ _ _ a b=>a=b
section
variable {α β γ δ:Type}
def Post (A:Rel α β) (K:PySem.W.Frag) (W:WX) (σ:L2.St) (m:List Addr) (H:Hp) (r:R α) (Q:β→Hp→Prop):Prop:=match r with
|.ok a st=>∀b m' H',Fut m H m' H'→Rl K m' H' st→A m H m' H' st a b→Q b H'
|.ex x st=>∀cls dd m' H',Fut m H m' H'→Rl K m' H' st→XR K m' H' x cls dd→W cls dd σ H'
|.no=>False
def rd (A:Rel α β) (K:PySem.W.Frag) (W:WX) (f:Env→M α) (σ:L2.St) (H:Hp) (Q:β→Hp→Prop):Prop:=
 ∃ρ m st,ER K m H ρ σ∧Rl K m H st∧Post A K W σ m H (f ρ st) Q
structure Later (K:PySem.W.Frag) (A:Rel α β):Prop where
 h:∀{m H m1 H1 m2 H2 st1 st2 a b},Fut m H m1 H1→Rl K m1 H1 st1→Fut m1 H1 m2 H2→Rl K m2 H2 st2→A m1 H1 m2 H2 st2 a b→A m H m2 H2 st2 a b
variable {K:PySem.W.Frag} {W:WX} {σ:L2.St} {m m1:List Addr} {H H1:Hp} {st st1:Sto} {A:Rel α β} {B:Rel γ δ}
theorem laterV {fr:Bool}:Later K (aV K fr):=⟨fun f r f2 r2 h=>⟨h.1,fun e ds h1=>by
 obtain⟨p,vs,H0,e1,e2,e3,e4,e5⟩:=h.2 e ds h1
 exact⟨p,vs,H0,e1,e2,e3,f.trans e4,e5⟩⟩⟩
theorem laterB:Later K aB:=⟨fun _ _ _ _ h=>h⟩
theorem laterL:Later K (aL K):=⟨fun _ _ _ _ h=>h⟩
theorem laterO:Later K aO:=⟨fun _ _ _ _ h=>h⟩
theorem Post.later (L:Later K A) {r:R α} {Q:β→Hp→Prop} (h:Post A K W σ m H r Q) (f:Fut m H m1 H1) (rl:Rl K m1 H1 st1):Post A K W σ m1 H1 r Q:=by
 cases r with
|ok a st2=>exact fun b m2 H2 f2 r2 ab=>h b m2 H2 (f.trans f2) r2 (L.h f rl f2 r2 ab)
|ex x st2=>exact fun c d m2 H2 f2 r2 x2=>h c d m2 H2 (f.trans f2) r2 x2
|no=>exact h
theorem Post.bind (L:Later K B) {f:M α} {k:α→M γ} {Q:δ→Hp→Prop} {Q':β→Hp→Prop} (h:Post B K W σ m H (M.bind f k st) Q)
  (hk:∀a b st1 m1 H1,Fut m H m1 H1→Rl K m1 H1 st1→A m H m1 H1 st1 a b→Post B K W σ m1 H1 (k a st1) Q→Q' b H1):Post A K W σ m H (f st) Q':=by
 unfold M.bind at h
 cases e:f st with
|ok a st2=>
  rw[e] at h
  exact fun b m2 H2 f2 r2 ab=>hk a b st2 m2 H2 f2 r2 ab (h.later L f2 r2)
|ex x st2=>rw[e] at h;exact h
|no=>rw[e] at h;exact h
theorem rd_bind (L:Later K B) {f:Env→M α} {k:Env→α→M γ} {Q:δ→Hp→Prop} {Q':β→Hp→Prop} (h:rd B K W (fun ρ=>M.bind (f ρ) (k ρ)) σ H Q)
  (hk:∀ρ a b st1 m m1 H1,Fut m H m1 H1→Rl K m1 H1 st1→ER K m1 H1 ρ σ→A m H m1 H1 st1 a b→Post B K W σ m1 H1 (k ρ a st1) Q→Q' b H1):rd A K W f σ H Q':=by
 obtain⟨ρ,m,st,er,rl,p⟩:=h
 exact⟨ρ,m,st,er,rl,p.bind L fun a b st1 m1 H1 f r ab q=>hk ρ a b st1 m m1 H1 f r (er.mono f) ab q⟩
end
abbrev SE (X:Cx) (W:WX) (e:Expr) (f:Env→M D) (fr:Bool):Prop:=PE X e (rd (aV X.K fr) X.K W f)
abbrev ST (X:Cx) (W:WX) (e:Expr) (f:Env→M Bool):Prop:=PT X e (rd aB X.K W f)
abbrev SA (X:Cx) (W:WX) (es:List Expr) (f:Env→M (List D)):Prop:=PA X es (rd (aL X.K) X.K W f)
abbrev SO (X:Cx) (W:WX) (e:Option Expr) (f:Env→M (Option Int)):Prop:=PO X e (rd aO X.K W f)
theorem _root_.L2.PE.imp {X:Cx} {e:Expr} {t t':TE} (h:PE X e t) (hi:∀σ H Q,t' σ H Q→t σ H Q):PE X e t':=⟨fun pins s σ H Q I q=>h.run pins s σ H Q I (hi _ _ _ q)⟩
theorem _root_.L2.PT.imp {X:Cx} {e:Expr} {t t':TT} (h:PT X e t) (hi:∀σ H Q,t' σ H Q→t σ H Q):PT X e t':=⟨fun pins s σ H Q I q=>h.run pins s σ H Q I (hi _ _ _ q)⟩
theorem _root_.L2.PA.imp {X:Cx} {e:List Expr} {t t':TA} (h:PA X e t) (hi:∀σ H Q,t' σ H Q→t σ H Q):PA X e t':=⟨fun pos pins s σ H Q I q=>h.run pos pins s σ H Q I (hi _ _ _ q)⟩
theorem _root_.L2.PO.imp {X:Cx} {e:Option Expr} {t t':TO} (h:PO X e t) (hi:∀σ H Q,t' σ H Q→t σ H Q):PO X e t':=⟨fun pins s σ H Q I q=>h.run pins s σ H Q I (hi _ _ _ q)⟩
theorem _root_.L2.PS.imp {X:Cx} {e:Stmt} {t t':TS} (h:PS X e t) (hi:∀D σ H,t' D σ H→t D σ H):PS X e t':=⟨fun pins s σ H D I q=>h.run pins s σ H D I (hi _ _ _ q)⟩
theorem _root_.L2.PSs.imp {X:Cx} {e:List Stmt} {t t':TS} (h:PSs X e t) (hi:∀D σ H,t' D σ H→t D σ H):PSs X e t':=⟨fun pins s σ H D I q=>h.run pins s σ H D I (hi _ _ _ q)⟩
theorem SE.weak {X:Cx} {W:WX} {e:Expr} {f:Env→M D} {fr:Bool} (h:SE X W e f true):SE X W e f fr:=h.imp fun σ H Q ⟨ρ,m,st,er,rl,p⟩=>⟨ρ,m,st,er,rl,by
 cases q:f ρ st with
|ok a st1=>rw[q] at p;exact fun b m1 H1 f1 r1 ab=>p b m1 H1 f1 r1 ⟨ab.1,fun _=>ab.2 rfl⟩
|ex x st1=>rw[q] at p;exact p
|no=>rw[q] at p;exact p⟩
section
variable {K:PySem.W.Frag} {W:WX} {σ:L2.St} {m:List Addr} {H:Hp} {st:Sto} {fr:Bool}
theorem Post.val {d:D} {v:V} {Q:VK} (h:Post (aV K fr) K W σ m H (.ok d st) Q) (r:Rl K m H st) (hv:VR K m H d v) (hl:∀ds,d≠.lst ds):Q v H:=h v m H .refl r ⟨hv,fun _ ds e=>absurd e (hl ds)⟩
theorem Post.any {d:D} {v:V} {Q:VK} (h:Post (aV K false) K W σ m H (.ok d st) Q) (r:Rl K m H st) (hv:VR K m H d v):Q v H:=h v m H .refl r ⟨hv,fun e=>nomatch e⟩
theorem Post.newL {ds:List D} {vs:List V} {p:Addr} {Q:VK} (h:Post (aV K fr) K W σ m H (.ok (.lst ds) st) Q) (r:Rl K m H st) (hp:H p=none) (hv:VRs K m H ds vs):Q (.ref p) (L2.upd H p (.lst vs)):=
 h _ m _ (Fut.upd hp) (r.new hp) ⟨.lst upd_same (r.fresh hp) (hv.mono (Fut.upd hp)),fun _ _ e=>by cases e;exact⟨p,vs,H,rfl,rfl,hp,.refl,r,hv⟩⟩
theorem Post.newT {ds:List D} {vs:List V} {p:Addr} {us:List Value} {Q:VK} (h:Post (aV K fr) K W σ m H (.ok (.tup ds) st) Q) (r:Rl K m H st) (hp:H p=none) (hv:VRs K m H ds vs):Q (.ref p) (L2.upd H p (DnU.tf us vs)):=
 h _ m _ (Fut.upd hp) (r.new hp) ⟨.tup upd_same rfl (r.fresh hp) (hv.mono (Fut.upd hp)),fun _ _ e=>by cases e⟩
theorem szOk_le {n:Nat} (h:szOk n=true):n≤1000000:=Nat.le_of_ble_eq_true h
theorem szOk_line {n:Nat} (h:szOk n=true):n≤sizeLine:=Nat.le_trans (szOk_le h) (by decide)
theorem szOk_lt {n:Nat} (h:szOk n=true):n<sizeLine:=Nat.lt_of_le_of_lt (szOk_le h) (by decide)
theorem Post.when {α β:Type} {A:Rel α β} {b:Bool} {g:M α} {Q:β→Hp→Prop} (h:Post A K W σ m H (whenM b g st) Q):b=true∧Post A K W σ m H (g st) Q:=by
 unfold whenM at h
 by_cases e:b=true
 ·rw[if_pos e] at h;exact⟨e,h⟩
 ·rw[if_neg e] at h;exact h.elim
theorem VR.tupS {ds:List D} {v:V} (h:VR K m H (.tup ds) v):∃a vs,v=.ref a∧SqT K H a vs∧VRs K m H ds vs:=by
 cases h with
|tup e _ _ r=>exact⟨_,_,rfl,.inl (.inr ⟨_,e⟩),r⟩
|tupK e r=>
  obtain⟨o,its,n,h1,h2,h3,h4,h5,_⟩:=e
  exact⟨_,_,rfl,.inr ⟨o,its,n,h1,h2,h3,h4,h5⟩,r⟩
theorem listS {d:D} {v:V} {xs:List D} {st1:Sto} (h:VR K m H d v) (rl:Rl K m H st) (e:listOf d st=.ok xs st1):∃a vs,v=.ref a∧SqL K H a vs∧VRs K m H xs vs∧st1=st:=by
 cases d with
|lst ds=>
  cases h with
 |lst e1 _ r=>cases e;exact⟨_,_,rfl,.inl (.inl e1),r,rfl⟩
|fz ds=>
  cases h with
 |fz e1 _ r=>cases e;exact⟨_,_,rfl,.inl (.inr ⟨_,e1⟩),r,rfl⟩
 |fzK e1 r=>cases e;exact⟨_,_,rfl,.inr e1,r,rfl⟩
|ref n=>
  cases h with
 |ref e1=>
   simp only[listOf] at e
   cases q:st[n]? with
  |none=>rw[q] at e;cases e
  |some o=>
    rw[q] at e
    cases o with
   |lst ys=>
     cases e
     obtain⟨vs,z,y⟩:=rl.get e1 q
     exact⟨_,_,rfl,.inl (.inl z),y,rfl⟩
   |_=>cases e
|_=>simp[listOf] at e
theorem listOf_st {d:D} {xs:List D} {st1:Sto} (e:listOf d st=.ok xs st1):st1=st:=by
 cases d with
|lst ds=>cases e;rfl
|fz ds=>cases e;rfl
|ref n=>
  simp only[listOf] at e
  cases q:st[n]? with
 |none=>rw[q] at e;cases e
 |some o=>rw[q] at e;cases o <;> first|(cases e;rfl)|cases e
|_=>simp[listOf] at e
theorem catS {d:D} {v:V} {xs:List D} (h:VR K m H d v) (rl:Rl K m H st) (e:catOf d st=some xs):∃a vs,v=.ref a∧H a=some (.lst vs)∧VRs K m H xs vs:=by
 cases d with
|lst ds=>
  cases h with
 |lst e1 _ r=>cases e;exact⟨_,_,rfl,e1,r⟩
|ref n=>
  cases h with
 |ref e1=>
   simp only[catOf] at e
   cases q:st[n]? with
  |none=>rw[q] at e;cases e
  |some o=>
    rw[q] at e
    cases o with
   |lst ys=>
     cases e
     obtain⟨vs,z,y⟩:=rl.get e1 q
     exact⟨_,_,rfl,z,y⟩
   |_=>cases e
|_=>simp[catOf] at e
theorem truS {d:D} {v:V} {b:Bool} {st1:Sto} (h:VR K m H d v) (rl:Rl K m H st) (e:truth d st=.ok b st1):TruV K v H b∧st1=st:=by
 have emp:∀{ds:List D} {vs:List V},VRs K m H ds vs→(!ds.isEmpty) = !vs.isEmpty:=fun r=>by cases r <;> rfl
 cases d with
|non=>cases h;cases e;exact⟨rfl,rfl⟩
|bl x=>cases h;cases e;exact⟨rfl,rfl⟩
|int x=>cases h;cases e;exact⟨rfl,rfl⟩
|str x=>
  cases h
  simp only[truth] at e
  by_cases hz:szOk x.length=true
  ·rw[if_pos hz] at e
   cases e
   refine⟨⟨?_,?_⟩,rfl⟩
   ·show (tx x).length≤_
    simpa [Str.length] using szOk_line hz
   ·cases x <;> simp[Str.length]
    omega
  ·rw[if_neg hz] at e;cases e
|tup x=>
  obtain⟨a,vs,rfl,s1,s2⟩:=h.tupS
  cases e
  exact⟨.inr (.inl ⟨vs,s1,emp s2⟩),rfl⟩
|lst x=>
  obtain⟨a,vs,rfl,s1,s2,_⟩:=listS h rl (st1:=st) rfl
  cases e
  exact⟨.inl ⟨vs,s1,emp s2⟩,rfl⟩
|fz x=>
  obtain⟨a,vs,rfl,s1,s2,_⟩:=listS h rl (st1:=st) rfl
  cases e
  exact⟨.inl ⟨vs,s1,emp s2⟩,rfl⟩
|ref n=>
  simp only[truth] at e
  cases q:st[n]? with
 |none=>rw[q] at e;cases e
 |some o=>
   rw[q] at e
   cases o with
  |lst ys=>
    cases e
    obtain⟨a,vs,rfl,s1,s2,_⟩:=listS h rl (xs:=ys) (st1:=st) (by simp only[listOf,q])
    exact⟨.inl ⟨vs,s1,emp s2⟩,rfl⟩
  |_=>cases e
theorem truth_no {d:D} {x:Xc} {st1:Sto}:truth d st≠.ex x st1:=by
 unfold truth
 repeat' split
 all_goals (intro h;cases h)
end
end Dn
namespace Dn
open PySem L2
def BinF (fr:Bool) (K:PySem.W.Frag) (g:D→D→M D) (r:R2):Prop:=∀(W:WX) (σ:L2.St) (m:List Addr) (H:Hp) (st:Sto) (x y:D) (u v:V) (Q:VK),
 Rl K m H st→VR K m H x u→VR K m H y v→Post (aV K fr) K W σ m H (g x y st) Q→r u v H Q
abbrev BinD:=BinF true
section
variable {X:Cx}
theorem opNone {f:Value→Value→Sem Value}:OpR X f (fun _ _ _ _=>False):=fun _ _ _ _ _ _ _ _ _ _ _ _ h=>h.elim
theorem rep_len {α:Type} (xs:List α) (k:Nat):(rep xs k).length=xs.length*k:=by
 unfold rep
 rw[List.length_flatten,List.map_replicate,List.sum_replicate_nat,Nat.mul_comm]
theorem fold_cps (x:List Nat):∀(k:Nat) (acc:Array Nat),(List.replicate k x.toArray).foldl (·++·) acc=acc++(rep x k).toArray
|0,acc=>by simp[rep]
|k+1,acc=>by
  rw[List.replicate_succ,List.foldl_cons,fold_cps x k]
  simp[rep,List.replicate_succ]
def rMulS:R2:=fun u v H Q=>∃x k,u=.str (tx x)∧v=.int k ∧ -1000000<k∧k<1000000∧x.length*k.toNat≤1000000∧Q (.str (tx (rep x k.toNat))) H
theorem op_mulS:OpR X (binaryOp .Mult) rMulS:=by
 intro pins s σ H u v a b Q I rx ry h
 obtain⟨x,k,rfl,rfl,h1,h2,h3,q⟩:=h
 obtain⟨t,rfl⟩:=rx
 obtain⟨t',rfl⟩:=ry
 have hl:(tx x).length=x.length:=by simp[Str.length]
 refine PySem.P.mul_str (by simp;omega) (fun hn _ => ?_) (fun hn _ => ?_) ?_
 ·rw[hl]
  have hk:1≤k:=by omega
  have hx:(x.length:Int)≤1000000:=by
   have:x.length*1≤x.length*k.toNat:=Nat.mul_le_mul_left _ (by omega)
   omega
  have:(1000000:Int)≤(2 ^ 63 - 1) / k:=by
   rw[Int.le_ediv_iff_mul_le (by omega)]
   have:(1000000:Int)*k≤1000000*1000000:=Int.mul_le_mul_of_nonneg_left (by omega) (by omega)
   omega
  omega
 ·rw[hl]
  unfold Builtin.Str.tooLong
  simp
  exact Nat.le_trans h3 (by decide)
 ·by_cases c1:k<1
  ·rw[if_pos c1]
   have e:rep x k.toNat=[]:=by
    have:k.toNat=0:=by omega
    rw[this];rfl
   rw[e] at q
   exact⟨Nat.zero_le _,⟨.str _,H,I.tok _,⟨_,rfl⟩,q⟩⟩
  ·rw[if_neg c1]
   by_cases c2:(k == 1||(tx x).length == 0)=true
   ·rw[if_pos c2]
    have e:rep x k.toNat=x:=by
     simp only[Bool.or_eq_true,beq_iff_eq] at c2
     rcases c2 with c|c
     ·subst c;simp[rep]
     ·rw[hl] at c
      have:x=[]:=List.length_eq_zero_iff.mp c
      subst this
      simp[rep]
    rw[e] at q
    exact⟨.str _,H,I,⟨_,rfl⟩,q⟩
   ·rw[if_neg c2]
    have e:=fold_cps x k.toNat #[]
    rw[Array.empty_append] at e
    rw[e]
    refine⟨?_,⟨.str _,H,I.tok _,⟨_,rfl⟩,q⟩⟩
    show (tx (rep x k.toNat)).length≤_
    simp only[Str.length,List.size_toArray,rep_len]
    exact Nat.le_trans h3 (by decide)
end
section
variable {K:PySem.W.Frag}
theorem cat_case {W:WX} {σ:L2.St} {m:List Addr} {H:Hp} {st:Sto} {x y:D} {u v:V} {Q:VK} (rl:Rl K m H st) (hx:VR K m H x u) (hy:VR K m H y v)
  (h:Post (aV K true) K W σ m H (match catOf x st,catOf y st with
  |some a,some b=>if szOk (a.length+b.length)=true then .ok (.lst (a++b)) st else .no
  |_,_=>.no) Q):rCat u v H Q:=by
 cases e1:catOf x st with
|none=>rw[e1] at h;exact h.elim
|some a=>
  cases e2:catOf y st with
 |none=>rw[e1,e2] at h;exact h.elim
 |some b=>
   rw[e1,e2] at h
   simp only at h
   by_cases hz:szOk (a.length+b.length)=true
   ·rw[if_pos hz] at h
    obtain⟨p,vs,rfl,z1,y1⟩:=catS hx rl e1
    obtain⟨q,us,rfl,z2,y2⟩:=catS hy rl e2
    exact⟨p,q,vs,us,rfl,rfl,z1,z2,by rw[←y1.length,←y2.length];exact szOk_line hz,fun l hl=>h.newL rl hl (y1.append y2)⟩
   ·rw[if_neg hz] at h;exact h.elim
theorem if_post {α β:Type} {A:Rel α β} {W:WX} {σ:L2.St} {m:List Addr} {H:Hp} {b:Bool} {r:R α} {Q:β→Hp→Prop} (h:Post A K W σ m H (if b=true then r else .no) Q):b=true∧Post A K W σ m H r Q:=by
 by_cases e:b=true
 ·rw[if_pos e] at h;exact⟨e,h⟩
 ·rw[if_neg e] at h;exact h.elim
theorem and3 {a b:Bool} (h:(a&&b)=true):a=true∧b=true:=Bool.and_eq_true_iff.mp h
theorem small_iff {i:Int} (h:small64 i=true) : -(2 ^ 64)<i∧i<2 ^ 64:=by
 obtain⟨a,b⟩:=and3 h
 exact⟨of_decide_eq_true a,of_decide_eq_true b⟩
theorem small_abs {i:Int} (h:small64 i=true):i.natAbs<2 ^ 64:=by
 obtain⟨a,b⟩:=small_iff h
 omega
end
set_option hygiene false in
theorem bin_ok (X:Cx) (o:Operator):∃r,OpR X (binaryOp o) r∧BinD X.K (binOp o) r:=by
 cases o with
|Add=>
  refine⟨_,op_add.or (op_add_str.or (DnU.op_catF.or op_cat)),?_⟩
  intro W σ m H st x y u v Q rl hx hy h
  cases x with
 |int i=>
   cases y with
  |int j=>cases hx;cases hy;exact .inl ⟨i,j,rfl,rfl,h.val rl (.int _) (by simp)⟩
  |_=>simp[binOp,catOf,Post] at h
 |str i=>
   cases y with
  |str j=>
    cases hx;cases hy
    obtain⟨hz,h⟩:=if_post h
    refine .inr (.inl ⟨_,_,rfl,rfl,?_,?_⟩)
    ·simpa [Str.length] using szOk_line hz
    ·have q:=h.val rl (.str _) (by simp)
     have e:tx i++tx j=tx (i++j):=by
      show Str.append _ _=_
      simp[Str.append]
     rw[e]
     exact q
  |_=>simp[binOp,catOf,Post] at h
 |tup xs=>
   cases y with
  |tup ys=>
    obtain⟨hz,h⟩:=if_post h
    obtain⟨a,vs,rfl,s1,r1⟩:=hx.tupS
    obtain⟨b,us,rfl,s2,r2⟩:=hy.tupS
    refine .inr (.inr (.inl ⟨a,b,vs,us,rfl,rfl,s1,s2,by rw[←r1.length,←r2.length];exact szOk_line hz,fun e => ?_,fun _ e => ?_,fun _ _ p us hp=>h.newT rl hp (r1.append r2)⟩))
    ·subst e
     cases r1
     exact h.val rl hy (by simp)
    ·subst e
     cases r2
     rw[List.append_nil] at h
     exact h.val rl hx (by simp)
  |_=>simp[binOp,catOf,Post] at h
 |lst xs=>exact .inr (.inr (.inr (cat_case rl hx hy (by cases y <;> exact h))))
 |ref n=>exact .inr (.inr (.inr (cat_case rl hx hy (by cases y <;> exact h))))
 |_=>cases y <;> simp[binOp,catOf,Post] at h
|Sub=>
  refine⟨_,op_sub,?_⟩
  intro W σ m H st x y u v Q rl hx hy h
  cases x with
 |int i=>
   cases y with
  |int j=>cases hx;cases hy;exact⟨i,j,rfl,rfl,h.val rl (.int _) (by simp)⟩
  |_=>simp[binOp,catOf,Post] at h
 |_=>cases y <;> simp[binOp,catOf,Post] at h
|Mult=>
  refine⟨_,op_mul.or (op_mulS.or (DnU.op_mulF.or op_rep)),?_⟩
  intro W σ m H st x y u v Q rl hx hy h
  have go:∀k:Int,y=.int k→Post (aV X.K true) X.K W σ m H (match catOf x st with
   |some a=>if (decide (-1000000<k)&&decide (k<1000000)&&szOk (a.length*k.toNat))=true then .ok (.lst (rep a k.toNat)) st else .no
   |none=>.no) Q→rRep u v H Q:=by
   intro k ek h2
   clear h
   subst ek
   cases hy
   cases e1:catOf x st with
  |none=>rw[e1] at h2;exact h2.elim
  |some a=>
    rw[e1] at h2
    obtain⟨hz,h⟩:=if_post h2
    obtain⟨hz,hz3⟩:=and3 hz
    obtain⟨hz1,hz2⟩:=and3 hz
    have k1:=of_decide_eq_true hz1
    have k2:=of_decide_eq_true hz2
    obtain⟨p,vs,rfl,z1,y1⟩:=catS hx rl e1
    exact⟨p,k,vs,rfl,rfl,z1,by omega,by omega,by rw[←y1.length];exact szOk_line hz3,fun l hl=>h.newL rl hl (y1.flat _)⟩
  cases y with
 |int k=>
   cases x with
  |int i=>
    cases hx;cases hy
    obtain⟨hz,h⟩:=if_post h
    refine .inl ⟨i,k,rfl,rfl,?_,h.val rl (.int _) (by simp)⟩
    rcases Bool.or_eq_true_iff.mp hz with z|z
    ·exact .inl (small_iff z)
    ·exact .inr (small_iff z)
  |str i=>
    cases hx;cases hy
    obtain⟨hz,h⟩:=if_post h
    obtain⟨hz,hz3⟩:=and3 hz
    obtain⟨hz1,hz2⟩:=and3 hz
    exact .inr (.inl ⟨i,k,rfl,rfl,of_decide_eq_true hz1,of_decide_eq_true hz2,szOk_le hz3,h.val rl (.str _) (by simp)⟩)
  |tup a=>
    cases hy
    obtain⟨hz,h⟩:=if_post h
    obtain⟨hz,hz3⟩:=and3 hz
    obtain⟨hz1,hz2⟩:=and3 hz
    have k1:=of_decide_eq_true hz1
    have k2:=of_decide_eq_true hz2
    have k3:=of_decide_eq_true hz3
    obtain⟨p,vs,rfl,s1,r1⟩:=hx.tupS
    have hl:=r1.length
    refine .inr (.inr (.inl ⟨p,k,vs,rfl,rfl,s1,k1,k2,by omega,fun c1 => ?_,fun _ l us hl2=>h.newT rl hl2 (r1.flat _)⟩))
    have e:rep a k.toNat=a:=by
     rcases c1 with c|c
     ·subst c
      have:a=[]:=List.eq_nil_of_length_eq_zero (by simpa using hl)
      subst this
      simp[rep]
     ·subst c;simp[rep]
    rw[e] at h
    exact h.val rl hx (by simp)
  |lst xs=>exact .inr (.inr (.inr (go k rfl h)))
  |ref n=>exact .inr (.inr (.inr (go k rfl h)))
  |_=>simp[binOp,catOf,Post] at h
 |_=>cases x <;> simp[binOp,catOf,Post] at h
|FloorDiv=>
  refine⟨_,op_fdivN,?_⟩
  intro W σ m H st x y u v Q rl hx hy h
  cases x with
 |int i=>
   cases y with
  |int j=>
    cases hx;cases hy
    obtain⟨hz,h⟩:=if_post h
    obtain⟨h1,h2⟩:=and3 hz
    exact⟨i,j,rfl,rfl,⟨of_decide_eq_true h1,of_decide_eq_true h2⟩,h.val rl (.int _) (by simp)⟩
  |_=>simp[binOp,catOf,Post] at h
 |_=>cases y <;> simp[binOp,catOf,Post] at h
|Mod=>
  refine⟨_,op_modN,?_⟩
  intro W σ m H st x y u v Q rl hx hy h
  cases x with
 |int i=>
   cases y with
  |int j=>
    cases hx;cases hy
    obtain⟨hz,h⟩:=if_post h
    exact⟨i,j,rfl,rfl,of_decide_eq_true hz,h.val rl (.int _) (by simp)⟩
  |_=>simp[binOp,catOf,Post] at h
 |_=>cases y <;> simp[binOp,catOf,Post] at h
|Pow=>
  refine⟨_,op_pow,?_⟩
  intro W σ m H st x y u v Q rl hx hy h
  cases x with
 |int i=>
   cases y with
  |int j=>
    cases hx;cases hy
    obtain⟨hz,h⟩:=if_post h
    obtain⟨hz,h3⟩:=and3 hz
    obtain⟨h1,h2⟩:=and3 hz
    have:=of_decide_eq_true h2
    exact⟨i,j,rfl,rfl,⟨of_decide_eq_true h1,by omega,small_abs h3⟩,h.val rl (.int _) (by simp)⟩
  |_=>simp[binOp,catOf,Post] at h
 |_=>cases y <;> simp[binOp,catOf,Post] at h
|LShift=>
  refine⟨_,op_shl,?_⟩
  intro W σ m H st x y u v Q rl hx hy h
  cases x with
 |int i=>
   cases y with
  |int j=>
    cases hx;cases hy
    obtain⟨hz,h⟩:=if_post h
    obtain⟨hz,h3⟩:=and3 hz
    obtain⟨h1,h2⟩:=and3 hz
    have:=of_decide_eq_true h2
    exact⟨i,j,rfl,rfl,⟨of_decide_eq_true h1,by omega,small_abs h3⟩,h.val rl (.int _) (by simp)⟩
  |_=>simp[binOp,catOf,Post] at h
 |_=>cases y <;> simp[binOp,catOf,Post] at h
|RShift=>
  refine⟨_,op_shr,?_⟩
  intro W σ m H st x y u v Q rl hx hy h
  cases x with
 |int i=>
   cases y with
  |int j=>
    cases hx;cases hy
    obtain⟨hz,h⟩:=if_post h
    exact⟨i,j,rfl,rfl,of_decide_eq_true hz,h.val rl (.int _) (by simp)⟩
  |_=>simp[binOp,catOf,Post] at h
 |_=>cases y <;> simp[binOp,catOf,Post] at h
|BitAnd=>
  refine⟨_,op_and,?_⟩
  intro W σ m H st x y u v Q rl hx hy h
  cases x with
 |int i=>
   cases y with
  |int j=>
    cases hx;cases hy
    obtain⟨hz,h⟩:=if_post h
    obtain⟨h1,h2⟩:=and3 hz
    refine⟨i,j,rfl,rfl,?_⟩
    show Q (.int (Builtin.bitAnd i j)) H
    rw[PyProof.Rows.bitAnd_pp (of_decide_eq_true h1) (of_decide_eq_true h2)]
    exact h.val rl (.int _) (by simp)
  |_=>simp[binOp,catOf,Post] at h
 |_=>cases y <;> simp[binOp,catOf,Post] at h
|BitOr=>
  refine⟨_,op_or,?_⟩
  intro W σ m H st x y u v Q rl hx hy h
  cases x with
 |int i=>
   cases y with
  |int j=>
    cases hx;cases hy
    obtain⟨hz,h⟩:=if_post h
    obtain⟨h1,h2⟩:=and3 hz
    refine⟨i,j,rfl,rfl,?_⟩
    show Q (.int (Builtin.bitOr i j)) H
    rw[Bits.bitOr_pp (of_decide_eq_true h1) (of_decide_eq_true h2)]
    exact h.val rl (.int _) (by simp)
  |_=>simp[binOp,catOf,Post] at h
 |_=>cases y <;> simp[binOp,catOf,Post] at h
|BitXor=>
  refine⟨_,op_xor,?_⟩
  intro W σ m H st x y u v Q rl hx hy h
  cases x with
 |int i=>
   cases y with
  |int j=>
    cases hx;cases hy
    obtain⟨hz,h⟩:=if_post h
    obtain⟨h1,h2⟩:=and3 hz
    refine⟨i,j,rfl,rfl,?_⟩
    show Q (.int (Builtin.bitXor i j)) H
    rw[Bits.bitXor_pp (of_decide_eq_true h1) (of_decide_eq_true h2)]
    exact h.val rl (.int _) (by simp)
  |_=>simp[binOp,catOf,Post] at h
 |_=>cases y <;> simp[binOp,catOf,Post] at h
|MatMult=>
  refine⟨_,opNone,?_⟩
  intro W σ m H st x y u v Q rl hx hy h
  cases x <;> cases y <;> simp[binOp,catOf,Post] at h
|Div=>
  refine⟨_,opNone,?_⟩
  intro W σ m H st x y u v Q rl hx hy h
  cases x <;> cases y <;> simp[binOp,catOf,Post] at h
mutual
def toP:D→PyData
|.non=>.none
|.bl b=>.bool b
|.int i=>.int i
|.str x=>.str (tx x)
|.tup xs=>.tuple (toPs xs)
|.lst xs=>.list (toPs xs)
|.fz xs=>.list (toPs xs)
|.ref _=>.none
def toPs:List D→List PyData
|[]=>[]
|d::r=>toP d::toPs r
end
theorem tx_inj {x y:List Nat}:tx x=tx y↔x=y:=⟨fun h=>by
 have:=congrArg (fun s:Str=>s.cps.toList) h
 simpa using this,fun h=>by rw[h]⟩
theorem tx_beq (x y:List Nat):(tx x == tx y)=decide (x=y):=by
 by_cases h:x=y
 ·subst h;simp
 ·rw[decide_eq_false h]
  exact beq_eq_false_iff_ne.mpr fun e=>h (tx_inj.mp e)
theorem ibeq (a b:Int):(a == b)=decide (a=b):=by
 by_cases h:a=b
 ·subst h;simp
 ·rw[decide_eq_false h];exact beq_eq_false_iff_ne.mpr h
mutual
theorem eqv_toP:∀(n k:Nat) (d e:D),cmpOk n d=true→cmpOk k e=true→PyData.eqv (toP d) (toP e)=eqv d e
|n,k,.tup a,.tup b,h,g=>by
  cases n with
 |zero=>simp[cmpOk] at h
 |succ n=>
   cases k with
  |zero=>simp[cmpOk] at g
  |succ k=>simp only[toP,PyData.eqv,eqv];exact eqvs_toP n k a b (by simpa [cmpOk] using h) (by simpa [cmpOk] using g)
|n,k,.lst a,.lst b,h,g=>by
  cases n with
 |zero=>simp[cmpOk] at h
 |succ n=>
   cases k with
  |zero=>simp[cmpOk] at g
  |succ k=>simp only[toP,PyData.eqv,eqv];exact eqvs_toP n k a b (by simpa [cmpOk] using h) (by simpa [cmpOk] using g)
|n,k,.lst a,.fz b,h,g=>by
  cases n with
 |zero=>simp[cmpOk] at h
 |succ n=>
   cases k with
  |zero=>simp[cmpOk] at g
  |succ k=>simp only[toP,PyData.eqv,eqv];exact eqvs_toP n k a b (by simpa [cmpOk] using h) (by simpa [cmpOk] using g)
|n,k,.fz a,.lst b,h,g=>by
  cases n with
 |zero=>simp[cmpOk] at h
 |succ n=>
   cases k with
  |zero=>simp[cmpOk] at g
  |succ k=>simp only[toP,PyData.eqv,eqv];exact eqvs_toP n k a b (by simpa [cmpOk] using h) (by simpa [cmpOk] using g)
|n,k,.fz a,.fz b,h,g=>by
  cases n with
 |zero=>simp[cmpOk] at h
 |succ n=>
   cases k with
  |zero=>simp[cmpOk] at g
  |succ k=>simp only[toP,PyData.eqv,eqv];exact eqvs_toP n k a b (by simpa [cmpOk] using h) (by simpa [cmpOk] using g)
|n,k,.str a,.str b,h,g=>by simp only[toP,PyData.eqv,eqv];exact tx_beq a b
|n,k,.int a,.int b,h,g=>by simp only[toP,PyData.eqv,eqv];exact ibeq a b
|n,k,.bl a,.int b,h,g=>by simp only[toP,PyData.eqv,eqv];exact ibeq _ b
|n,k,.int a,.bl b,h,g=>by simp only[toP,PyData.eqv,eqv];exact ibeq a _
|n,k,.bl a,.bl b,h,g=>by simp only[toP,PyData.eqv,eqv]
|n,k,.non,.non,h,g=>by simp only[toP,PyData.eqv,eqv]
|n,k,.ref _,_,h,g=>by cases n <;> simp[cmpOk] at h
|n,k,_,.ref _,h,g=>by cases k <;> simp[cmpOk] at g
|_,_,.non,.bl _,_,_|_,_,.non,.int _,_,_|_,_,.non,.str _,_,_|_,_,.non,.tup _,_,_|_,_,.non,.lst _,_,_|_,_,.non,.fz _,_,_=>by simp only[toP,PyData.eqv,eqv]
|_,_,.bl _,.non,_,_|_,_,.bl _,.str _,_,_|_,_,.bl _,.tup _,_,_|_,_,.bl _,.lst _,_,_|_,_,.bl _,.fz _,_,_=>by simp only[toP,PyData.eqv,eqv]
|_,_,.int _,.non,_,_|_,_,.int _,.str _,_,_|_,_,.int _,.tup _,_,_|_,_,.int _,.lst _,_,_|_,_,.int _,.fz _,_,_=>by simp only[toP,PyData.eqv,eqv]
|_,_,.str _,.non,_,_|_,_,.str _,.bl _,_,_|_,_,.str _,.int _,_,_|_,_,.str _,.tup _,_,_|_,_,.str _,.lst _,_,_|_,_,.str _,.fz _,_,_=>by simp only[toP,PyData.eqv,eqv]
|_,_,.tup _,.non,_,_|_,_,.tup _,.bl _,_,_|_,_,.tup _,.int _,_,_|_,_,.tup _,.str _,_,_|_,_,.tup _,.lst _,_,_|_,_,.tup _,.fz _,_,_=>by simp only[toP,PyData.eqv,eqv]
|_,_,.lst _,.non,_,_|_,_,.lst _,.bl _,_,_|_,_,.lst _,.int _,_,_|_,_,.lst _,.str _,_,_|_,_,.lst _,.tup _,_,_=>by simp only[toP,PyData.eqv,eqv]
|_,_,.fz _,.non,_,_|_,_,.fz _,.bl _,_,_|_,_,.fz _,.int _,_,_|_,_,.fz _,.str _,_,_|_,_,.fz _,.tup _,_,_=>by simp only[toP,PyData.eqv,eqv]
theorem eqvs_toP:∀(n k:Nat) (d e:List D),cmpOks n d=true→cmpOks k e=true→PyData.eqvAll (toPs d) (toPs e)=eqvs d e
|_,_,[],[],_,_=>by simp only[toPs,PyData.eqvAll,eqvs]
|n,k,a::r,b::t,h,g=>by
  simp only[cmpOks,Bool.and_eq_true] at h g
  simp only[toPs,PyData.eqvAll,eqvs]
  rw[eqv_toP n k a b h.1 g.1,eqvs_toP n k r t h.2 g.2]
|_,_,[],_::_,_,_=>by simp only[toPs,PyData.eqvAll,eqvs]
|_,_,_::_,[],_,_=>by simp only[toPs,PyData.eqvAll,eqvs]
end
theorem okStr_ok {x:List Nat} (h:okStr x=true):PyData.strOk (tx x)=true:=by
 unfold PyData.strOk
 simpa [okStr] using h
mutual
theorem lay_toP:∀(n:Nat) (d:D),cmpOk n d=true→(toP d).canLay0=true∧(toP d).depth≤n+1
|n,.non,_=>by simp[toP,PyData.canLay0,PyData.depth]
|n,.bl _,_=>by simp[toP,PyData.canLay0,PyData.depth]
|n,.int _,_=>by simp[toP,PyData.canLay0,PyData.depth]
|n,.str x,h=>by
  have h':okStr x=true:=by cases n <;> simpa [cmpOk] using h
  simp[toP,PyData.canLay0,PyData.depth,okStr_ok h']
|n,.tup xs,h=>by
  cases n with
 |zero=>simp[cmpOk] at h
 |succ n=>
   have q:=lays_toP n xs (by simpa [cmpOk] using h)
   simp only[toP,PyData.canLay0,PyData.depth]
   exact⟨q.1,by omega⟩
|n,.lst xs,h=>by
  cases n with
 |zero=>simp[cmpOk] at h
 |succ n=>
   have q:=lays_toP n xs (by simpa [cmpOk] using h)
   simp only[toP,PyData.canLay0,PyData.depth]
   exact⟨q.1,by omega⟩
|n,.fz xs,h=>by
  cases n with
 |zero=>simp[cmpOk] at h
 |succ n=>
   have q:=lays_toP n xs (by simpa [cmpOk] using h)
   simp only[toP,PyData.canLay0,PyData.depth]
   exact⟨q.1,by omega⟩
|n,.ref _,h=>by cases n <;> simp[cmpOk] at h
theorem lays_toP:∀(n:Nat) (d:List D),cmpOks n d=true→PyData.canLayAll0 (toPs d)=true∧PyData.depthAll (toPs d)≤n+1
|n,[],_=>by simp[toPs,PyData.canLayAll0,PyData.depthAll]
|n,d::r,h=>by
  simp only[cmpOks,Bool.and_eq_true] at h
  have q1:=lay_toP n d h.1
  have q2:=lays_toP n r h.2
  simp only[toPs,PyData.canLayAll0,PyData.depthAll,q1.1,q2.1,Bool.and_self,true_and]
  exact Nat.max_le.mpr ⟨q1.2,q2.2⟩
end
section
variable {K:PySem.W.Frag} {m:List Addr} {H:Hp} {st:Sto}
mutual
theorem VR.dp:∀(n:Nat) (d:D) {v:V},cmpOk n d=true→VR K m H d v→Dp K H v (toP d)
|_,.non,_,_,h=>by cases h;exact .non
|_,.bl _,_,_,h=>by cases h;exact .bl _
|_,.int _,_,_,h=>by cases h;exact .int _
|_,.str _,_,_,h=>by cases h;exact .str _
|n,.tup xs,_,c,h=>by
  cases n with
 |zero=>simp[cmpOk] at c
 |succ n=>
   obtain⟨a,vs,rfl,s,r⟩:=h.tupS
   exact .tup s (VRs.dp n xs (by simpa [cmpOk] using c) r)
|n,.lst xs,_,c,h=>by
  cases n with
 |zero=>simp[cmpOk] at c
 |succ n=>
   cases h with
  |lst e _ r=>exact .lst (.inl (.inl e)) (VRs.dp n xs (by simpa [cmpOk] using c) r)
|n,.fz xs,_,c,h=>by
  cases n with
 |zero=>simp[cmpOk] at c
 |succ n=>
   cases h with
  |fz e _ r=>exact .lst (.inl (.inr ⟨_,e⟩)) (VRs.dp n xs (by simpa [cmpOk] using c) r)
  |fzK e r=>exact .lst (.inr e) (VRs.dp n xs (by simpa [cmpOk] using c) r)
|n,.ref _,_,c,h=>by cases n <;> simp[cmpOk] at c
theorem VRs.dp:∀(n:Nat) (d:List D) {v:List V},cmpOks n d=true→VRs K m H d v→DpAll K H v (toPs d)
|_,[],_,_,h=>by cases h;exact .nil
|n,d::r,_,c,h=>by
  simp only[cmpOks,Bool.and_eq_true] at c
  cases h with
 |cons a b=>exact .cons (VR.dp n d c.1 a) (VRs.dp n r c.2 b)
end
theorem derf_dp {d:D} {v:V} (rl:Rl K m H st) (c:cmpOk 60 (derf d st)=true) (h:VR K m H d v):Dp K H v (toP (derf d st)):=by
 cases d with
|ref n=>
  cases h with
 |ref e1=>
   simp only[derf] at c ⊢
   cases q:st[n]? with
  |none=>rw[q] at c;simp[cmpOk] at c
  |some o=>
    rw[q] at c
    cases o with
   |lst ys=>
     obtain⟨vs,z,y⟩:=rl.get e1 q
     exact .lst (.inl (.inl z)) (VRs.dp 59 ys (by simpa [cmpOk] using c) y)
   |_=>simp[cmpOk] at c
|_=>exact VR.dp 60 _ c h
theorem shaped_of {d:D} (c:cmpOk 60 d=true):SeqAt.shaped (toP d)=true:=by
 obtain⟨h1,h2⟩:=lay_toP 60 d c
 unfold SeqAt.shaped
 rw[h1,decide_eq_true (by omega)] <;> rfl
theorem non_iff {d:D} {v:V} (h:VR K m H d v):decide (v=.non)=decide (d=.non):=by
 cases h <;> simp
end
theorem flat_ok {K:PySem.W.Frag} {m:List Addr} {H:Hp} {d:D} {v:V} (h:VR K m H d v) (f:flatD d=true):flatV v=true:=by
 cases h <;> first|rfl|simp[flatD] at f
theorem eqV_ok {K:PySem.W.Frag} {m:List Addr} {H:Hp} {d e:D} {u v:V} (h:VR K m H d u) (h':VR K m H e v) (f:flatD d=true) (f':flatD e=true):eqV u v=eqv d e:=by
 cases h <;> cases h' <;> first|rfl|(simp[flatD] at f;done)|(simp[flatD] at f';done)|(simp[eqV,eqv];done)|skip
 all_goals (rename_i a b;simp only[eqV,eqv];by_cases q:a=b <;> simp_all [tx])
theorem inL_ok {K:PySem.W.Frag} {m:List Addr} {H:Hp} {x:D} {u:V} {xs:List D} {us:List V} {b:Bool} (hx:VR K m H x u) (r:VRs K m H xs us) (h:inL x xs=some b):flatV u=true∧us.all flatV=true∧inV u us=b:=by
 unfold inL at h
 split at h
 ·rename_i c
  obtain⟨c1,c2⟩:=and3 c
  cases h
  refine⟨flat_ok hx c1,?_⟩
  clear c
  unfold inV
  induction xs generalizing us with
 |nil=>cases r;exact⟨rfl,rfl⟩
 |cons d xs ih=>
   cases r with
  |cons a r=>
   rw[List.all_cons,Bool.and_eq_true] at c2
   obtain⟨i1,i2⟩:=ih r c2.2
   exact⟨by rw[List.all_cons,flat_ok a c2.1,i1];rfl,by rw[List.any_cons,List.any_cons,i2,eqV_ok a hx c2.1 c1]⟩
 ·cases h
theorem inF_ok {K:PySem.W.Frag} {m:List Addr} {H:Hp} {st:Sto} {x y:D} {u v:V} {b:Bool} (rl:Rl K m H st) (hx:VR K m H x u) (hy:VR K m H y v) (h:inF x y st=some b) :
  (∃(c:Nat) (z:Str),u=.str ⟨#[c]⟩∧v=.str z∧decide (c∈z.cps.toList)=b)∨∃p us,v=.ref p∧(SqL K H p us∨SqT K H p us)∧flatV u=true∧us.all flatV=true∧inV u us=b:=by
 have lst:∀{o:Option Bool},(match listOf y st with
  |.ok xs _=>inL x xs
  |_=>none)=some b→∃p us,v=.ref p∧(SqL K H p us∨SqT K H p us)∧flatV u=true∧us.all flatV=true∧inV u us=b:=fun {o} h=>by
  cases e:listOf y st with
 |ok xs st1=>
   rw[e] at h
   obtain⟨a,us,rfl,sq,r,_⟩:=listS hy rl e
   exact⟨a,us,rfl,.inl sq,inL_ok hx r h⟩
 |ex _ _=>rw[e] at h;cases h
 |no=>rw[e] at h;cases h
 cases y with
|str z=>
  cases x with
 |str s=>
   match s,hx,h with
  |[c],hx,h=>
    cases hx
    cases hy
    refine .inl ⟨c,_,rfl,rfl,?_⟩
    simpa [inF,tx] using h
  |[],hx,h=>cases h
  |_::_::_,hx,h=>cases h
 |_=>cases h
|tup xs=>
  obtain⟨a,us,rfl,sq,r⟩:=hy.tupS
  exact .inr ⟨a,us,rfl,.inr sq,inL_ok hx r h⟩
|_=>exact .inr (lst (o:=none) h)
theorem any_toP {d:D} {k:Nat} (cd:cmpOk k d=true):∀{n:Nat} {xs:List D},cmpOks n xs=true→((toPs xs).any fun z=>PyData.eqv z (toP d))=xs.any fun z=>eqv z d
|n,[],_=>by simp[toPs]
|n,x::xs,c=>by
  rw[cmpOks,Bool.and_eq_true] at c
  rw[toPs,List.any_cons,List.any_cons,any_toP cd c.2,eqv_toP n k x d c.1 cd]
def rInT (K:PySem.W.Frag) (f:Bool→Bool):R2:=fun x y H Q=>∃d ds,Dp K H x d∧(Dp K H y (.tuple ds)∨Dp K H y (.list ds))∧d.canLay0=true∧PyData.canLayAll0 ds=true∧d.depth≤61∧Q (.bl (f (ds.any fun z=>PyData.eqv z d))) H
theorem op_inT {X:Cx} (hu:X.A.units+64<cLine):OpR X (compareOp .In) (rInT X.K id):=by
 intro pins s σ H x y v u Q I rx ry h
 obtain⟨d,ds,hd,he,sd,se,hz,q⟩:=h
 obtain⟨as,r1⟩:=Dp.reads I d x v hd rx
 have hm:X.A.units+1+min (PyData.depthAll ds) d.depth<cLine:=by
  have:=Nat.min_le_right (PyData.depthAll ds) d.depth
  omega
 rcases he with he|he
 ·obtain⟨bs,r2⟩:=Dp.reads I (.tuple ds) y u he ry
  exact SeqAt.in_tuple_reads r2 r1 se sd hm ⟨.bl _,H,I,rfl,q⟩
 ·obtain⟨bs,r2⟩:=Dp.reads I (.list ds) y u he ry
  exact SeqAt.in_list_reads r2 r1 se sd hm ⟨.bl _,H,I,rfl,q⟩
theorem op_notInT {X:Cx} (hu:X.A.units+64<cLine):OpR X (compareOp .NotIn) (rInT X.K not):=by
 intro pins s σ H x y v u Q I rx ry h
 obtain⟨d,ds,hd,he,sd,se,hz,q⟩:=h
 obtain⟨as,r1⟩:=Dp.reads I d x v hd rx
 have hm:X.A.units+1+min (PyData.depthAll ds) d.depth<cLine:=by
  have:=Nat.min_le_right (PyData.depthAll ds) d.depth
  omega
 rcases he with he|he
 ·obtain⟨bs,r2⟩:=Dp.reads I (.tuple ds) y u he ry
  exact SeqAt.notIn_tuple_reads r2 r1 se sd hm ⟨.bl _,H,I,rfl,q⟩
 ·obtain⟨bs,r2⟩:=Dp.reads I (.list ds) y u he ry
  exact SeqAt.notIn_list_reads r2 r1 se sd hm ⟨.bl _,H,I,rfl,q⟩
theorem inP_ok {K:PySem.W.Frag} {m:List Addr} {H:Hp} {st:Sto} {x y:D} {u v:V} {b:Bool} (rl:Rl K m H st) (hx:VR K m H x u) (hy:VR K m H y v) (h:inP x y st=some b) :
  ∃d ds,Dp K H u d∧(Dp K H v (.tuple ds)∨Dp K H v (.list ds))∧d.canLay0=true∧PyData.canLayAll0 ds=true∧d.depth≤61∧(ds.any fun z=>PyData.eqv z d)=b:=by
 unfold inP at h
 split at h
 ·rename_i c
  obtain⟨c1,c2⟩:=and3 c
  have p1:=derf_dp rl c1 hx
  have p2:=derf_dp rl c2 hy
  obtain⟨l1,l2⟩:=lay_toP 60 _ c1
  split at h
  ·rename_i xs e
   rw[e] at c2 p2
   rw[cmpOk] at c2
   rw[toP] at p2
   cases h
   exact⟨_,_,p1,.inl p2,l1,(lays_toP _ _ c2).1,l2,any_toP c1 c2⟩
  ·rename_i xs e
   rw[e] at c2 p2
   rw[cmpOk] at c2
   rw[toP] at p2
   cases h
   exact⟨_,_,p1,.inr p2,l1,(lays_toP _ _ c2).1,l2,any_toP c1 c2⟩
  ·cases h
 ·cases h
theorem inD_ok {K:PySem.W.Frag} {m:List Addr} {H:Hp} {st:Sto} {x y:D} {u v:V} {b:Bool} (rl:Rl K m H st) (hx:VR K m H x u) (hy:VR K m H y v) (h:inD x y st=some b) :
  ((∃(c:Nat) (z:Str),u=.str ⟨#[c]⟩∧v=.str z∧decide (c∈z.cps.toList)=b)∨∃p us,v=.ref p∧(SqL K H p us∨SqT K H p us)∧flatV u=true∧us.all flatV=true∧inV u us=b) ∨
  ∃d ds,Dp K H u d∧(Dp K H v (.tuple ds)∨Dp K H v (.list ds))∧d.canLay0=true∧PyData.canLayAll0 ds=true∧d.depth≤61∧(ds.any fun z=>PyData.eqv z d)=b:=by
 unfold inD at h
 split at h
 ·rename_i c e
  cases h
  exact .inl (inF_ok rl hx hy e)
 ·exact .inr (inP_ok rl hx hy h)
theorem cmp_ok (X:Cx) (hu:X.A.units+64<cLine) (o:CmpOp):∃r,OpR X (compareOp o) r∧BinD X.K (cmpOp o) r:=by
 have two:∀{W:WX} {σ:L2.St} {m:List Addr} {H:Hp} {st:Sto} {x y:D} {u v:V} {b:Bool},Rl X.K m H st→VR X.K m H x u→VR X.K m H y v→(cmpOk 60 (derf x st)&&cmpOk 60 (derf y st))=true →
   Dp X.K H u (toP (derf x st))∧Dp X.K H v (toP (derf y st))∧SeqAt.shaped (toP (derf x st))=true∧SeqAt.shaped (toP (derf y st))=true∧PyData.eqv (toP (derf x st)) (toP (derf y st))=eqv (derf x st) (derf y st):=by
  intro W σ m H st x y u v b rl hx hy c
  obtain⟨c1,c2⟩:=and3 c
  exact⟨derf_dp rl c1 hx,derf_dp rl c2 hy,shaped_of c1,shaped_of c2,eqv_toP 60 60 _ _ c1 c2⟩
 cases o with
|Eq=>
  refine⟨_,op_eqD hu,?_⟩
  intro W σ m H st x y u v Q rl hx hy h
  obtain⟨c,h⟩:=if_post h
  obtain⟨d1,d2,s1,s2,e⟩:=two (W:=W) (σ:=σ) (b:=true) rl hx hy c
  exact⟨_,_,d1,d2,s1,s2,by rw[e];exact h.val rl (.bl _) (by simp)⟩
|NotEq=>
  refine⟨_,op_neD hu,?_⟩
  intro W σ m H st x y u v Q rl hx hy h
  obtain⟨c,h⟩:=if_post h
  obtain⟨d1,d2,s1,s2,e⟩:=two (W:=W) (σ:=σ) (b:=true) rl hx hy c
  exact⟨_,_,d1,d2,s1,s2,by rw[e];exact h.val rl (.bl _) (by simp)⟩
|Lt=>
  refine⟨_,op_lt,?_⟩
  intro W σ m H st x y u v Q rl hx hy h
  cases x with
 |int i=>
   cases y with
  |int j=>cases hx;cases hy;exact⟨i,j,rfl,rfl,h.val rl (.bl _) (by simp)⟩
  |_=>exact h.elim
 |_=>cases y <;> exact h.elim
|LtE=>
  refine⟨_,op_le,?_⟩
  intro W σ m H st x y u v Q rl hx hy h
  cases x with
 |int i=>
   cases y with
  |int j=>cases hx;cases hy;exact⟨i,j,rfl,rfl,h.val rl (.bl _) (by simp)⟩
  |_=>exact h.elim
 |_=>cases y <;> exact h.elim
|Gt=>
  refine⟨_,op_gt,?_⟩
  intro W σ m H st x y u v Q rl hx hy h
  cases x with
 |int i=>
   cases y with
  |int j=>cases hx;cases hy;exact⟨i,j,rfl,rfl,h.val rl (.bl _) (by simp)⟩
  |_=>exact h.elim
 |_=>cases y <;> exact h.elim
|GtE=>
  refine⟨_,op_ge,?_⟩
  intro W σ m H st x y u v Q rl hx hy h
  cases x with
 |int i=>
   cases y with
  |int j=>cases hx;cases hy;exact⟨i,j,rfl,rfl,h.val rl (.bl _) (by simp)⟩
  |_=>exact h.elim
 |_=>cases y <;> exact h.elim
|Is=>
  refine⟨_,op_isN.or op_is_bl,?_⟩
  intro W σ m H st x y u v Q rl hx hy h
  cases y with
 |non=>
   cases hy
   refine .inl ⟨rfl,?_⟩
   rw[non_iff hx]
   exact h.val rl (.bl _) (by simp)
 |bl b=>
   cases hy
   cases x with
  |bl a=>
    cases hx
    exact .inr ⟨a,b,rfl,rfl,h.val rl (.bl _) (by simp)⟩
  |_=>exact h.elim
 |_=>exact h.elim
|IsNot=>
  refine⟨_,op_notN.or op_isnot_bl,?_⟩
  intro W σ m H st x y u v Q rl hx hy h
  cases y with
 |non=>
   cases hy
   refine .inl ⟨rfl,?_⟩
   rw[non_iff hx]
   exact h.val rl (.bl _) (by simp)
 |bl b=>
   cases hy
   cases x with
  |bl a=>
    cases hx
    exact .inr ⟨a,b,rfl,rfl,h.val rl (.bl _) (by simp)⟩
  |_=>exact h.elim
 |_=>exact h.elim
|In=>
  refine⟨_,(op_in_sign.or op_in_seq).or (op_inT hu),?_⟩
  intro W σ m H st x y u v Q rl hx hy h
  cases e:inD x y st with
 |none=>
   simp only[cmpOp,e] at h
   exact h.elim
 |some b=>
   simp only[cmpOp,e] at h
   rcases inD_ok rl hx hy e with (⟨c,z,rfl,rfl,hb⟩|⟨p,us,rfl,hs,f1,f2,hb⟩)|⟨d,ds,g1,g2,g3,g4,g5,hb⟩
   ·exact .inl (.inl ⟨c,z,rfl,rfl,by rw[hb];exact h.val rl (.bl _) (by simp)⟩)
   ·refine .inl (.inr ⟨p,us,rfl,hs,f1,f2,?_⟩)
    rw[hb]
    exact h.val rl (.bl _) (by simp)
   ·refine .inr ⟨d,ds,g1,g2,g3,g4,g5,?_⟩
    rw[hb]
    exact h.val rl (.bl _) (by simp)
|NotIn=>
  refine⟨_,(op_notIn_sign.or op_notIn_seq).or (op_notInT hu),?_⟩
  intro W σ m H st x y u v Q rl hx hy h
  cases e:inD x y st with
 |none=>
   simp only[cmpOp,e] at h
   exact h.elim
 |some b=>
   simp only[cmpOp,e] at h
   rcases inD_ok rl hx hy e with (⟨c,z,rfl,rfl,hb⟩|⟨p,us,rfl,hs,f1,f2,hb⟩)|⟨d,ds,g1,g2,g3,g4,g5,hb⟩
   ·exact .inl (.inl ⟨c,z,rfl,rfl,by rw[hb];exact h.val rl (.bl _) (by simp)⟩)
   ·refine .inl (.inr ⟨p,us,rfl,hs,f1,f2,?_⟩)
    rw[hb]
    exact h.val rl (.bl _) (by simp)
   ·refine .inr ⟨d,ds,g1,g2,g3,g4,g5,?_⟩
    rw[hb]
    exact h.val rl (.bl _) (by simp)
end Dn
namespace DnLs
open PySem PySem.Spec PySem.Calls L2 PyProof.Rows PyProof.V
section
variable {prog:Program} {w:World} {Ar:Around} {Ex:Value→Shared→Prop} {sh:Shared} {z:Str} {tk:Tok}
theorem hint_text {Q:Bool→Shared→Prop} (q:Q false sh):wpAny (model prog w) Ar (Builtin.List.listLengthHint (.str z tk)) Q Ex sh:=by
 have ty:sh.TypeIs (.str z tk) "str":=rfl
 unfold Builtin.List.listLengthHint
 refine wpAny_bind (wpAny_specialOf ty PySem.F.slot_str_len.lookup ?_)
 generalize hn:("str.__len__":String)=nm
 wp_delta
 rw[show splitId nm=some ("str", "__len__") by subst hn;decide +kernel]
 subst hn
 refine wpAny_bind (wpAny_isInstance (T := "str") (b:=true) ty (by rw[isSubtype_type];kernel_rfl) ?_)
 refine wpAny_ite_split (fun c=>absurd c (by decide)) (fun _ => ?_)
 refine wpAny_ite_split (fun _ => ?_) (fun c=>absurd (by decide +kernel) c)
 exact wpAny_bind (wpAny_typeOf ty (wpAny_pure q))
theorem extend_text {Rs:Result→Shared→Prop} (h0:Ar.handled=none) (L:Addr) (back:Value) (cap:Nat) (hL:sh.heap.get? L=some {cls:=.type "list",data:=.seq #[] cap})
  (fin:∀hp t2 its c2,(∀b o,b≠L→sh.heap.get? b=some o→hp.get? b=some o)→hp.get? L=some {cls:=.type "list",dict:=none,data:=.seq its c2,slots:=#[]}→ItemsOf (SignAt z) its z.cps.size→Rs (.ok (.ret back)) {sh with heap:=hp,toks:=t2}) (hz:z.cps.size≤sizeLine) :
  wpAny (model prog w) Ar.in1 (Builtin.List.listExtendWith (.ref L) (.str z tk) back)
   (fun e s2=>match e with|.done f=>Rs (.ok f) s2|.again c=>c.quiet=true∧codeAny (model prog w) Ar c Rs s2) (fun e s2=>Rs (.error e) s2) sh:=by
 unfold Builtin.List.listExtendWith
 refine wpAny_bind (wpAny_typeOf (T := "str") rfl ?_)
 have n1:Builtin.List.listSameRef (.ref L) (.str z tk)=false:=rfl
 have n2:(Value.type "str" == Value.type "list")=false:=by decide +kernel
 have n3:(Value.type "str" == Value.type "tuple")=false:=by decide +kernel
 simp only[n1,n2,n3,Bool.or_false,Bool.false_eq_true,if_false]
 refine wpAny_bind (wpAny_pyIter_str fun ob St hW st0 => ?_)
 have hLI:L≠sh.heap.objs.size:=Nat.ne_of_lt (Heap.lt_size hL)
 have W:=hW Ar.in1 h0
 have hLf:L ∉ [sh.heap.objs.size]:=by simpa using hLI
 have hL1:=Heap.get?_push_of_some ob hL
 refine wpAny_bind (wpAny_holding (hint_text ?_))
 refine wpAny_ite_split (fun c=>absurd c (by decide +kernel)) (fun _ => ?_)
 refine wpAny_pure ⟨plainId_quiet PySem.F.plain_extend_loop _,?_⟩
 refine codeAny_extend_loopS W.toS hz L hLf back z.cps.size 0 _ #[] cap rfl (Nat.zero_le _) st0 hL1 (ItemsOf.nil _) fun s3 its c3 mv hL3 io => ?_
 rw[Moved.eq_with mv]
 refine fin s3.heap s3.toks its c3 (fun b o hb e=>mv.heap b o (fun hm => ?_) (Heap.get?_push_of_some _ e)) hL3 io
 rcases List.mem_cons.mp hm with q|q
 ·exact hb q
 ·exact absurd (Heap.lt_size e) (by rw[List.mem_singleton.mp q];exact Nat.lt_irrefl _)
theorem list_text {Q:Value→Shared→Prop} (h0:Ar.handled=none) (hz:z.cps.size≤sizeLine)
  (fin:∀hp t2 its c2,(∀b o,sh.heap.get? b=some o→hp.get? b=some o)→hp.get? sh.heap.objs.size=some {cls:=.type "list",dict:=none,data:=.seq its c2,slots:=#[]}→ItemsOf (SignAt z) its z.cps.size→Q (.ref sh.heap.objs.size) {sh with heap:=hp,toks:=t2}) :
  wpAny (model prog w) Ar (call (.type "list") [.str z tk]) Q Ex sh:=by
 refine callType_codes (Q₁:=fun v s1=>v=.ref sh.heap.objs.size∧s1={sh with heap:=sh.heap.push {cls:=.type "list",data:=.seq #[]}}) PySem.F.called_list (PySem.F.typeCall_list_1 _) PySem.F.entry_list_init
  (code_list_new _ ⟨rfl,rfl⟩) fun v s1 h1 => ?_
 obtain⟨rfl,rfl⟩:=h1
 have hN:(sh.heap.push {cls:=.type "list",data:=.seq #[]}).get? sh.heap.objs.size=some {cls:=.type "list",data:=.seq #[]}:=Heap.get?_push_size _ rfl
 refine⟨⟨_,hN,rfl⟩,PySem.F.args_list_init_2 _ _,?_⟩
 show wpAny _ _ (do let was ←Builtin.List.listItems (.ref sh.heap.objs.size);Builtin.List.listUpdate (.ref sh.heap.objs.size) (fun _=>#[]);letGo was.toList.reverse;Builtin.List.listExtendWith (.ref sh.heap.objs.size) (.str z tk) .none) _ _ _
 refine wpAny_bind ?_
 unfold Builtin.List.listItems
 refine wpAny_bind (wpAny_seqItems hN rfl (wpAny_pure ?_))
 show wpAny _ _ (updateSeq sh.heap.objs.size (fun _=>#[]) >>= fun _=>letGo (#[]:Array Value).toList.reverse >>= fun _=>Builtin.List.listExtendWith (.ref sh.heap.objs.size) (.str z tk) .none) _ _ _
 refine wpAny_bind (wpAny_updateSeq hN rfl ?_)
 have hN2:=Heap.get?_update_self (Obj.mapSeq (fun _=>(#[]:Array Value))) hN rfl
 refine wpAny_bind (wpAny_letGo ?_)
 refine extend_text (Ar:=Ar.in1) h0 sh.heap.objs.size .none _ hN2 (fun hp t2 its c2 hk hL io => ?_) hz
 refine⟨rfl,fin hp t2 its c2 (fun b o e => ?_) hL io⟩
 have hb:b≠sh.heap.objs.size:=Nat.ne_of_lt (Heap.lt_size e)
 exact hk b o hb ((Heap.get?_update_other _ _ (Ne.symm hb)).trans (Heap.get?_push_of_some _ e))
end
def rLs:List V→Hp→VK→Prop:=fun vs H Q=>∃z,vs=[.str z]∧z.cps.size≤sizeLine∧∀q,H q=none→Q (.ref q) (L2.upd H q (.lst (z.cps.toList.map fun c=>V.str ⟨#[c]⟩)))
theorem cr_text {X:Cx} (hc:X.calm=true):CallR X (.type "list") rLs:=by
 intro pins s σ H vs us Q J r h
 obtain⟨z,rfl,hz,q⟩:=h
 obtain⟨u,rfl,ru⟩:=vals1 r
 obtain⟨t,rfl⟩:∃t,u=Value.str z t:=ru
 refine list_text (J.ok.hd hc) hz fun hp t2 its c2 hk hL io => ?_
 refine⟨.ref s.heap.objs.size,L2.upd H s.heap.objs.size (.lst (z.cps.toList.map fun c=>V.str ⟨#[c]⟩)),J.laid (t':=t2) hk (Nat.le_refl _) ⟨?_,its.toList,c2,?_,?_⟩,rfl,q _ (J.hok.fresh (Nat.le_refl _))⟩
 ·rw[List.length_map,Array.length_toList];exact hz
 ·have el:its.toList.length=its.size:=by simp
  refine vals_of_at (by rw[List.length_map,el,io.1,Array.length_toList]) fun j x v h1 h2 => ?_
  obtain⟨c,t3,e1,rfl⟩:=io.2 j v (by rw[←Array.getElem?_toList];exact h2)
  rw[List.getElem?_map,Array.getElem?_toList,e1] at h1
  cases h1
  exact⟨t3,rfl⟩
 ·rw[Array.toArray_toList];exact hL
end DnLs
namespace Dn.H
open PySem
abbrev Ent:=NestedKey×Value×Value
def ent (w:World) (x:Ent):DictEntry:=⟨x.1.hash w,x.2.1,x.2.2⟩
def at_ (xs:List Ent) (k:NestedKey):Option Value:=(xs.find? fun x=>decide (x.1=k)).map (·.2.2)
def put (xs:List Ent) (k:NestedKey) (kv v:Value):List Ent:=if (at_ xs k).isSome then xs.map (fun x=>if x.1=k then (x.1,x.2.1,v) else x) else xs++[(k,kv,v)]
section
variable {xs:List Ent} {k:NestedKey}
theorem at_get (hn:(xs.map (·.1)).Nodup) {i:Nat} {kv v:Value} (hx:xs[i]?=some (k,kv,v)):at_ xs k=some v:=by
 induction xs generalizing i with
|nil=>cases hx
|cons x r ih=>
  rw[List.map_cons,List.nodup_cons] at hn
  unfold at_
  rw[List.find?_cons]
  cases i with
 |zero=>cases hx;simp
 |succ j=>
   have hm:k∈r.map (·.1):=List.mem_map.mpr ⟨_,List.mem_of_getElem? hx,rfl⟩
   have hne:decide (x.1=k)=false:=decide_eq_false fun e=>hn.1 (by rw[e];exact hm)
   rw[hne]
   exact ih hn.2 hx
theorem at_none (h:∀(j:Nat) (p:Value×Value),xs[j]?≠some (k,p)):at_ xs k=none:=by
 unfold at_
 rw[List.find?_eq_none.mpr]
 ·rfl
 ·intro x hx hk
  obtain⟨j,hj⟩:=List.mem_iff_getElem?.mp hx
  have e:x.1=k:=of_decide_eq_true hk
  exact h j x.2 (by rw[hj,←e])
theorem at_some {v:Value} (h:at_ xs k=some v):∃(j:Nat) (kv:Value),xs[j]?=some (k,kv,v):=by
 unfold at_ at h
 cases e:xs.find? (fun x=>decide (x.1=k)) with
|none=>rw[e] at h;cases h
|some x=>
  rw[e] at h
  obtain⟨j,hj⟩:=List.mem_iff_getElem?.mp (List.mem_of_find?_eq_some e)
  have h1:x.1=k:=of_decide_eq_true (List.find?_some (p:=fun x:Ent=>decide (x.1=k)) e)
  obtain⟨a,b,c⟩:=x
  cases h1
  cases h
  exact⟨j,b,hj⟩
theorem keys_map {v:Value}:(xs.map (fun x=>if x.1=k then (x.1,x.2.1,v) else x)).map (·.1)=xs.map (·.1):=by
 rw[List.map_map]
 refine List.map_congr_left fun x _ => ?_
 show (if x.1=k then (x.1,x.2.1,v) else x).1=x.1
 split <;> rfl
theorem keys_put {kv v:Value}:(put xs k kv v).map (·.1)=if (at_ xs k).isSome then xs.map (·.1) else xs.map (·.1)++[k]:=by
 unfold put
 by_cases h:(at_ xs k).isSome=true
 ·rw[if_pos h,if_pos h,keys_map]
 ·rw[if_neg h,if_neg h,List.map_append];rfl
theorem nodup_put (hn:(xs.map (·.1)).Nodup) {kv v:Value}:((put xs k kv v).map (·.1)).Nodup:=by
 rw[keys_put]
 by_cases h:(at_ xs k).isSome=true
 ·rw[if_pos h];exact hn
 ·rw[if_neg h,List.nodup_append]
  refine⟨hn,by simp,fun a ha b hb e=>h ?_⟩
  rw[List.mem_singleton] at hb
  subst e hb
  obtain⟨x,hx,rfl⟩:=List.mem_map.mp ha
  obtain⟨j,hj⟩:=List.mem_iff_getElem?.mp hx
  obtain⟨k1,k2,k3⟩:=x
  rw[at_get hn hj] <;> rfl
end
def Raw (w:World) (h:Heap) (d:Addr) (xs:List Ent):Prop:=∃o es ep,h.get? d=some o∧o.ExactDict∧o.data=.dict es ep∧es.toList=xs.map (ent w)∧(xs.map (·.1)).Nodup
def Keys (h:Heap) (xs:List Ent):Prop:=∀x∈xs,NestedIs h x.1 x.2.1∧x.1.depth≤8
theorem Raw.typeIs {w:World} {s:Shared} {d:Addr} {xs:List Ent} (x:Raw w s.heap d xs):s.TypeIs (.ref d) "dict":=let ⟨o,_,_,ho,hc,_⟩:=x;⟨o,ho,hc.1⟩
theorem Raw.new {w:World} (h:Heap):Raw w (h.push {cls:=.type "dict",data:=.dict #[]}) h.objs.size []:=⟨_,#[],0,Heap.get?_push_size _ rfl,⟨rfl,rfl,rfl⟩,rfl,rfl,List.nodup_nil⟩
theorem Raw.at' {w:World} {h h':Heap} {d:Addr} {xs:List Ent} (x:Raw w h d xs) (k:∀o,h.get? d=some o→h'.get? d=some o):Raw w h' d xs:=let ⟨o,es,ep,ho,r⟩:=x;⟨o,es,ep,k o ho,r⟩
theorem Keys.at' {h h':Heap} {xs:List Ent} (x:Keys h xs) (k:∀a o vs n,h.get? a=some o→o.data=.seq vs n→h'.get? a=some o):Keys h' xs:=fun y hy=>⟨NestedIs.at k _ _ (x y hy).1,(x y hy).2⟩
section
variable {prog:Program} {w:World} {A:Around} {E:Value→Shared→Prop} {s:Shared} {d:Addr} {xs:List Ent} {k:NestedKey} {kv:Value}
theorem quietV (hk:NestedIs s.heap k kv) (hd:k.depth≤8) {Q:Bool→Shared→Prop} (h:Q true s):wpAny (model prog w) A (eqIsQuiet 8 kv) Q E s:=quiet_key k kv 8 s hk hd A E Q h
theorem tells (hk:NestedIs s.heap k kv) (hd:k.depth≤8) {stored:List Value} (hst:∀v∈stored,∃k',NestedIs s.heap k' v∧k'.depth≤8) {Q:Bool→Shared→Prop} (h:Q false s):wpAny (model prog w) A (tableMayTell kv stored) Q E s:=by
 unfold tableMayTell
 split
 ·exact wpAny_pure h
 ·refine wpAny_bind (quietV hk hd ?_)
  rw[if_neg (by decide)]
  refine wpAny_bind (wpAny_forIn_list _ (fun rest r s'=>s'=s∧r=(none,())∧∀v∈rest,∃k',NestedIs s.heap k' v∧k'.depth≤8) _ ?_ ?_ _ _ ⟨rfl,rfl,hst⟩)
  ·rintro x rest r s' ⟨rfl,rfl,hr⟩
   obtain⟨k',hb,hb2⟩:=hr x List.mem_cons_self
   refine wpAny_bind (quietV hb hb2 ?_)
   rw[if_neg (by decide)]
   exact wpAny_pure ⟨rfl,rfl,fun v hv=>hr v (List.mem_cons_of_mem _ hv)⟩
  ·rintro r s' ⟨rfl,rfl,_⟩
   exact wpAny_pure h
theorem eqV {k':NestedKey} {u:Value} (hu:A.units+8<cLine) (hx:NestedIs s.heap k' u) (hdx:k'.depth≤8) (hy:NestedIs s.heap k kv) (hdy:k.depth≤8) {Q:Bool→Shared→Prop} (h:Q (decide (k'=k)) s):wpAny (model prog w) A (eqBool u kv) Q E s:=
 eqAt_key k' k A s _ _ hx hy (by omega) _ _ _ _ (by rw[←NestedKey.decide_eq];exact h)
theorem find {o:Obj} {es:Array DictEntry} {ep:Nat} {Q:Option Nat→Shared→Prop} (hu:A.units+8<cLine) (hkey:NestedIs s.heap k kv) (hdk:k.depth≤8) (ho:s.heap.get? d=some o) (hd:o.data=.dict es ep) (he:es.toList=xs.map (ent w)) (his:Keys s.heap xs) (hn:(xs.map (·.1)).Nodup)
  (hnone:(∀(j:Nat) (p:Value×Value),xs[j]?≠some (k,p))→Q none s) (hsome:∀(j:Nat) (p:Value×Value),xs[j]?=some (k,p)→Q (some j) s):wpAny (model prog w) A (dictFind d kv (k.hash w)) Q E s:=by
 have hat:∀j:Nat,es[j]?=(xs[j]?).map (ent w):=fun j=>by rw[←Array.getElem?_toList,he,List.getElem?_map]
 have hsz:es.size=xs.length:=by rw[←Array.length_toList,he,List.length_map]
 have hash:∀(j:Nat) (p:Value×Value),xs[j]?=some (k,p)→((es[j]?.map (·.hash)) == some (k.hash w))=true:=fun j p hj=>by
  rw[hat j,hj]
  simp[ent]
 have hmem:∀e∈es,∃x∈xs,e=ent w x:=fun e hin=>by
  have z:e∈xs.map (ent w):=he ▸ Array.mem_toList_iff.mpr hin
  obtain⟨x,hx,rfl⟩:=List.mem_map.mp z
  exact⟨x,hx,rfl⟩
 have uniq:∀{i j:Nat} {p q:Value×Value},xs[i]?=some (k,p)→xs[j]?=some (k,q)→i=j:=fun {i j p q} hi hj=>by
  have hi':(xs.map (·.1))[i]?=some k:=by rw[List.getElem?_map,hi];rfl
  have hj':(xs.map (·.1))[j]?=some k:=by rw[List.getElem?_map,hj];rfl
  exact (List.getElem?_inj (List.getElem?_eq_some_iff.mp hi').1 hn).mp (hi'.trans hj'.symm)
 have hent:∀x,x<es.size→∃k' u v',xs[x]?=some (k',u,v')∧es[x]?=some ⟨k'.hash w,u,v'⟩∧NestedIs s.heap k' u∧k'.depth≤8:=fun x hx=>by
  obtain⟨⟨k',u,v'⟩,hkv⟩:∃y,xs[x]?=some y:=⟨xs[x]'(by rw[←hsz];exact hx),List.getElem?_eq_getElem _⟩
  obtain⟨h1,h2⟩:=his _ (List.mem_of_getElem? hkv)
  exact⟨k',u,v',hkv,by rw[hat x,hkv];rfl,h1,h2⟩
 have stored:∀v∈(placesWithHash es.size (fun i=>es[i]?.map (·.hash)) (k.hash w)).filterMap (fun i=>es[i]?.map (·.key)),∃k',NestedIs s.heap k' v∧k'.depth≤8:=fun v hv=>by
  obtain⟨i,_,hi⟩:=List.mem_filterMap.mp hv
  cases hei:es[i]? with
 |none=>rw[hei] at hi;cases hi
 |some e=>
   rw[hei] at hi
   obtain rfl:e.key=v:=by simpa using hi
   obtain⟨x,hx,rfl⟩:=hmem e (Array.mem_of_getElem? hei)
   exact⟨x.1,his x hx⟩
 have skip:∀i x:Nat,(∀j,i≤j→j<x→((es[j]?.map (·.hash)) == some (k.hash w))=false)→(∀j p,j<i→xs[j]?≠some (k,p))→∀j p,j<x→xs[j]?≠some (k,p):=fun i x hs h0 j p hjx hj=>by
  rcases Nat.lt_or_ge j i with h|h
  ·exact h0 j p h hj
  ·have:=hs j h hjx
   rw[hash j p hj] at this
   cases this
 have step:∀(x:Nat) {k':NestedKey} {u v':Value},xs[x]?=some (k',u,v')→¬k'=k→(∀j p,j<x→xs[j]?≠some (k,p))→∀j p,j<x+1→xs[j]?≠some (k,p):=fun x k' u v' hkv hne h0 j p hjx hj=>by
  rcases Nat.lt_or_ge j x with h|h
  ·exact h0 j p h hj
  ·obtain rfl:j=x:=by omega
   rw[hkv] at hj
   cases hj
   exact hne rfl
 have fin:∀i:Nat,(∀j,i≤j→j<es.size→((es[j]?.map (·.hash)) == some (k.hash w))=false)→(∀j p,j<i→xs[j]?≠some (k,p))→Q none s:=fun i hs h0=>hnone fun j p hj=>by
  rcases Nat.lt_or_ge j es.size with h|h
  ·exact skip i es.size hs h0 j p h hj
  ·rw[List.getElem?_eq_none (by omega)] at hj;cases hj
 unfold dictFind
 try with_reducible refine wpAny_holding ?_
 refine wpAny_bind (wpAny_dictEntries ho hd ?_)
 dsimp only
 have walk:wpAny (model prog w) A (dictWalkPlain d kv (k.hash w) es (placesWithHash es.size (fun i=>es[i]?.map (·.hash)) (k.hash w))) Q E s:=by
  unfold dictWalkPlain
  refine wpAny_bind (wpAny_forIn_list _ (fun rest b s'=>s'=s∧b=(none,())∧∃i,rest=(List.range' i (es.size - i)).filter (fun i=>(es[i]?.map (·.hash)) == some (k.hash w))∧i≤es.size∧∀j p,j<i→xs[j]?≠some (k,p)) _ ?_ ?_ _ _
   ⟨rfl,rfl,0,by rw[placesWithHash,List.range_eq_range',Nat.sub_zero],Nat.zero_le _,fun _ _ h=>absurd h (Nat.not_lt_zero _)⟩)
  ·rintro x rest b s' ⟨rfl,rfl,i,hr,hi,h0⟩
   obtain⟨hix,hxn,hpx,hskip,hrest⟩:=filter_range'_cons _ _ _ _ _ hr.symm
   have hlt:x<es.size:=by omega
   obtain⟨k',u,v',hkv,hex,i1,i2⟩:=hent x hlt
   have h1:=skip i x hskip h0
   have hrest':rest=(List.range' (x+1) (es.size - (x+1))).filter (fun i=>(es[i]?.map (·.hash)) == some (k.hash w)):=by rw[hrest];congr 2;omega
   rw[hex]
   dsimp only
   by_cases hh:(k'.hash w == k.hash w)=true
   ·rw[if_pos hh]
    refine wpAny_bind (wpAny_dictEpoch ho hd (wpAny_bind (eqV hu i1 i2 hkey hdk (wpAny_bind (wpAny_dictEpoch ho hd ?_)))))
    rw[if_neg (by simp)]
    by_cases hkk:k'=k
    ·rw[decide_eq_true hkk]
     subst hkk
     exact wpAny_bind (wpAny_rule (wpAny_pure (wpAny_pure (hsome x _ hkv))))
    ·rw[decide_eq_false hkk]
     exact wpAny_bind (wpAny_rule (wpAny_pure ⟨rfl,rfl,x+1,hrest',hlt,step x hkv hkk h1⟩))
   ·rw[if_neg hh]
    exact wpAny_pure ⟨rfl,rfl,x+1,hrest',hlt,step x hkv (fun e=>hh (by rw[e];simp)) h1⟩
  ·rintro b s' ⟨rfl,rfl,i,hr,hi,h0⟩
   refine wpAny_pure (fin i (fun j h1 h2 => ?_) h0)
   have:=List.filter_eq_nil_iff.mp hr.symm j (List.mem_range'_1.mpr ⟨h1,by omega⟩)
   simpa using this
 have hany:∀a,kv=.ref a→¬(es.any fun e=>e.key == Value.ref a&&e.hash != k.hash w)=true:=fun a ea=>by
  rw[←Array.any_toList,List.any_eq_true]
  rintro⟨e,hin,hc⟩
  obtain⟨x,hx,rfl⟩:=hmem e (Array.mem_toList_iff.mp hin)
  rw[Bool.and_eq_true] at hc
  obtain⟨c1,c2⟩:=hc
  have e1:x.2.1=kv:=by rw[ea];exact beq_iff_eq.mp c1
  have i1:=(his x hx).1
  rw[e1] at i1
  have e2:=NestedIs.inj _ _ _ i1 hkey
  simp[ent,e2] at c2
 cases kv with
|none=>
  by_cases hall:((Value.none::(placesWithHash es.size (fun i=>es[i]?.map (·.hash)) (k.hash w)).filterMap (fun i=>es[i]?.map (·.key))).all carriedByValue)=true
  ·rw[if_pos hall]
   exact walk
  ·rw[if_neg hall]
   by_cases hone:(((placesWithHash es.size (fun i=>es[i]?.map (·.hash)) (k.hash w)).filterMap (fun i=>es[i]?.map (·.key))) == [Value.none])=true <;> (first|rw[if_pos hone]|rw[if_neg hone]) <;> (first|refine wpAny_bind (wpAny_pure ?_)|refine wpAny_bind (tells hkey hdk stored ?_)) <;> (
    rw[if_neg (by simp)]
    refine wpAny_bind (wpAny_forIn_list _ (fun rest b s'=>s'=s∧∃i hit,b=(none,hit)∧rest=(List.range' i (es.size - i)).filter (fun i=>(es[i]?.map (·.hash)) == some (k.hash w))∧i≤es.size ∧
      ((hit=none∧∀j p,j<i→xs[j]?≠some (k,p))∨∃j p,hit=some j∧j<i∧xs[j]?=some (k,p))) _ ?_ ?_ _ _ ⟨rfl,0,none,rfl,by rw[placesWithHash,List.range_eq_range',Nat.sub_zero],Nat.zero_le _,.inl ⟨rfl,fun _ _ h=>absurd h (Nat.not_lt_zero _)⟩⟩)
    ·rintro x rest b s' ⟨rfl,i,hit,rfl,hr,hi,hH⟩
     obtain⟨hix,hxn,hpx,hskip,hrest⟩:=filter_range'_cons _ _ _ _ _ hr.symm
     have hlt:x<es.size:=by omega
     obtain⟨k',u,v',hkv,hex,i1,i2⟩:=hent x hlt
     have hrest':rest=(List.range' (x+1) (es.size - (x+1))).filter (fun i=>(es[i]?.map (·.hash)) == some (k.hash w)):=by rw[hrest];congr 2;omega
     have hHx:(hit=none∧∀j p,j<x→xs[j]?≠some (k,p))∨∃j p,hit=some j∧j<x∧xs[j]?=some (k,p):=by
      rcases hH with ⟨h0,h1⟩|⟨j,p,h1,hji,hj⟩
      ·exact .inl ⟨h0,skip i x hskip h1⟩
      ·exact .inr ⟨j,p,h1,by omega,hj⟩
     have hstay:¬k'=k→((hit=none∧∀j p,j<x+1→xs[j]?≠some (k,p))∨∃j p,hit=some j∧j<x+1∧xs[j]?=some (k,p)):=by
      intro hne
      rcases hHx with ⟨h0,h1⟩|⟨j,p,h1,hji,hj⟩
      ·exact .inl ⟨h0,step x hkv hne h1⟩
      ·exact .inr ⟨j,p,h1,by omega,hj⟩
     rw[hex]
     dsimp only
     by_cases hh:(k'.hash w == k.hash w)=true
     ·rw[if_pos hh]
      refine wpAny_bind (wpAny_dictEpoch ho hd (wpAny_bind (eqV hu i1 i2 hkey hdk (wpAny_bind (wpAny_dictEpoch ho hd ?_)))))
      rw[if_neg (by simp)]
      by_cases hkk:k'=k
      ·rw[decide_eq_true hkk]
       subst hkk
       rcases hHx with ⟨rfl,_⟩|⟨j,p,_,hjx,hj⟩
       ·first|rw[if_pos rfl]|skip
        simp only[Option.isSome_none,Bool.false_eq_true,if_false]
        first|refine wpAny_bind (wpAny_pure ?_)|skip
        refine wpAny_bind (wpAny_rule ?_)
        split
        ·exact wpAny_pure (wpAny_pure (hsome x _ hkv))
        ·exact wpAny_pure ⟨rfl,x+1,some x,rfl,hrest',hlt,.inr ⟨x,_,rfl,Nat.lt_succ_self x,hkv⟩⟩
       ·exact absurd (uniq hj hkv) (by omega)
      ·rw[decide_eq_false hkk]
       simp only[Bool.false_eq_true,if_false]
       refine wpAny_bind (wpAny_rule ?_)
       first|rw[if_neg (by simp)]|skip
       first
       |exact wpAny_pure ⟨rfl,x+1,hit,rfl,hrest',hlt,hstay hkk⟩
       |exact wpAny_bind (wpAny_pure (wpAny_pure ⟨rfl,x+1,hit,rfl,hrest',hlt,hstay hkk⟩))
     ·rw[if_neg hh]
      exact wpAny_pure ⟨rfl,x+1,hit,rfl,hrest',hlt,hstay fun e=>hh (by rw[e];simp)⟩
    ·rintro b s' ⟨rfl,i,hit,rfl,hr,hi,hH⟩
     have hall2:∀j,i≤j→j<es.size→((es[j]?.map (·.hash)) == some (k.hash w))=false:=fun j h1 h2=>by
      have:=List.filter_eq_nil_iff.mp hr.symm j (List.mem_range'_1.mpr ⟨h1,by omega⟩)
      simpa using this
     rcases hH with ⟨rfl,h0⟩|⟨j,p,rfl,_,hj⟩
     ·exact wpAny_pure (fin i hall2 h0)
     ·exact wpAny_pure (hsome j p hj))
|ellipsis=>cases hkey
|notImplemented=>cases hkey
|bool b=>
  by_cases hall:((Value.bool b::(placesWithHash es.size (fun i=>es[i]?.map (·.hash)) (k.hash w)).filterMap (fun i=>es[i]?.map (·.key))).all carriedByValue)=true
  ·rw[if_pos hall]
   exact walk
  ·rw[if_neg hall]
   by_cases hone:(((placesWithHash es.size (fun i=>es[i]?.map (·.hash)) (k.hash w)).filterMap (fun i=>es[i]?.map (·.key))) == [Value.bool b])=true <;> (first|rw[if_pos hone]|rw[if_neg hone]) <;> (first|refine wpAny_bind (wpAny_pure ?_)|refine wpAny_bind (tells hkey hdk stored ?_)) <;> (
    rw[if_neg (by simp)]
    refine wpAny_bind (wpAny_forIn_list _ (fun rest b s'=>s'=s∧∃i hit,b=(none,hit)∧rest=(List.range' i (es.size - i)).filter (fun i=>(es[i]?.map (·.hash)) == some (k.hash w))∧i≤es.size ∧
      ((hit=none∧∀j p,j<i→xs[j]?≠some (k,p))∨∃j p,hit=some j∧j<i∧xs[j]?=some (k,p))) _ ?_ ?_ _ _ ⟨rfl,0,none,rfl,by rw[placesWithHash,List.range_eq_range',Nat.sub_zero],Nat.zero_le _,.inl ⟨rfl,fun _ _ h=>absurd h (Nat.not_lt_zero _)⟩⟩)
    ·rintro x rest b s' ⟨rfl,i,hit,rfl,hr,hi,hH⟩
     obtain⟨hix,hxn,hpx,hskip,hrest⟩:=filter_range'_cons _ _ _ _ _ hr.symm
     have hlt:x<es.size:=by omega
     obtain⟨k',u,v',hkv,hex,i1,i2⟩:=hent x hlt
     have hrest':rest=(List.range' (x+1) (es.size - (x+1))).filter (fun i=>(es[i]?.map (·.hash)) == some (k.hash w)):=by rw[hrest];congr 2;omega
     have hHx:(hit=none∧∀j p,j<x→xs[j]?≠some (k,p))∨∃j p,hit=some j∧j<x∧xs[j]?=some (k,p):=by
      rcases hH with ⟨h0,h1⟩|⟨j,p,h1,hji,hj⟩
      ·exact .inl ⟨h0,skip i x hskip h1⟩
      ·exact .inr ⟨j,p,h1,by omega,hj⟩
     have hstay:¬k'=k→((hit=none∧∀j p,j<x+1→xs[j]?≠some (k,p))∨∃j p,hit=some j∧j<x+1∧xs[j]?=some (k,p)):=by
      intro hne
      rcases hHx with ⟨h0,h1⟩|⟨j,p,h1,hji,hj⟩
      ·exact .inl ⟨h0,step x hkv hne h1⟩
      ·exact .inr ⟨j,p,h1,by omega,hj⟩
     rw[hex]
     dsimp only
     by_cases hh:(k'.hash w == k.hash w)=true
     ·rw[if_pos hh]
      refine wpAny_bind (wpAny_dictEpoch ho hd (wpAny_bind (eqV hu i1 i2 hkey hdk (wpAny_bind (wpAny_dictEpoch ho hd ?_)))))
      rw[if_neg (by simp)]
      by_cases hkk:k'=k
      ·rw[decide_eq_true hkk]
       subst hkk
       rcases hHx with ⟨rfl,_⟩|⟨j,p,_,hjx,hj⟩
       ·first|rw[if_pos rfl]|skip
        simp only[Option.isSome_none,Bool.false_eq_true,if_false]
        first|refine wpAny_bind (wpAny_pure ?_)|skip
        refine wpAny_bind (wpAny_rule ?_)
        split
        ·exact wpAny_pure (wpAny_pure (hsome x _ hkv))
        ·exact wpAny_pure ⟨rfl,x+1,some x,rfl,hrest',hlt,.inr ⟨x,_,rfl,Nat.lt_succ_self x,hkv⟩⟩
       ·exact absurd (uniq hj hkv) (by omega)
      ·rw[decide_eq_false hkk]
       simp only[Bool.false_eq_true,if_false]
       refine wpAny_bind (wpAny_rule ?_)
       first|rw[if_neg (by simp)]|skip
       first
       |exact wpAny_pure ⟨rfl,x+1,hit,rfl,hrest',hlt,hstay hkk⟩
       |exact wpAny_bind (wpAny_pure (wpAny_pure ⟨rfl,x+1,hit,rfl,hrest',hlt,hstay hkk⟩))
     ·rw[if_neg hh]
      exact wpAny_pure ⟨rfl,x+1,hit,rfl,hrest',hlt,hstay fun e=>hh (by rw[e];simp)⟩
    ·rintro b s' ⟨rfl,i,hit,rfl,hr,hi,hH⟩
     have hall2:∀j,i≤j→j<es.size→((es[j]?.map (·.hash)) == some (k.hash w))=false:=fun j h1 h2=>by
      have:=List.filter_eq_nil_iff.mp hr.symm j (List.mem_range'_1.mpr ⟨h1,by omega⟩)
      simpa using this
     rcases hH with ⟨rfl,h0⟩|⟨j,p,rfl,_,hj⟩
     ·exact wpAny_pure (fin i hall2 h0)
     ·exact wpAny_pure (hsome j p hj))
|int i t=>
  by_cases hall:((Value.int i t::(placesWithHash es.size (fun i=>es[i]?.map (·.hash)) (k.hash w)).filterMap (fun i=>es[i]?.map (·.key))).all carriedByValue)=true
  ·rw[if_pos hall]
   exact walk
  ·rw[if_neg hall]
   by_cases hone:(((placesWithHash es.size (fun i=>es[i]?.map (·.hash)) (k.hash w)).filterMap (fun i=>es[i]?.map (·.key))) == [Value.int i t])=true <;> (first|rw[if_pos hone]|rw[if_neg hone]) <;> (first|refine wpAny_bind (wpAny_pure ?_)|refine wpAny_bind (tells hkey hdk stored ?_)) <;> (
    rw[if_neg (by simp)]
    refine wpAny_bind (wpAny_forIn_list _ (fun rest b s'=>s'=s∧∃i hit,b=(none,hit)∧rest=(List.range' i (es.size - i)).filter (fun i=>(es[i]?.map (·.hash)) == some (k.hash w))∧i≤es.size ∧
      ((hit=none∧∀j p,j<i→xs[j]?≠some (k,p))∨∃j p,hit=some j∧j<i∧xs[j]?=some (k,p))) _ ?_ ?_ _ _ ⟨rfl,0,none,rfl,by rw[placesWithHash,List.range_eq_range',Nat.sub_zero],Nat.zero_le _,.inl ⟨rfl,fun _ _ h=>absurd h (Nat.not_lt_zero _)⟩⟩)
    ·rintro x rest b s' ⟨rfl,i,hit,rfl,hr,hi,hH⟩
     obtain⟨hix,hxn,hpx,hskip,hrest⟩:=filter_range'_cons _ _ _ _ _ hr.symm
     have hlt:x<es.size:=by omega
     obtain⟨k',u,v',hkv,hex,i1,i2⟩:=hent x hlt
     have hrest':rest=(List.range' (x+1) (es.size - (x+1))).filter (fun i=>(es[i]?.map (·.hash)) == some (k.hash w)):=by rw[hrest];congr 2;omega
     have hHx:(hit=none∧∀j p,j<x→xs[j]?≠some (k,p))∨∃j p,hit=some j∧j<x∧xs[j]?=some (k,p):=by
      rcases hH with ⟨h0,h1⟩|⟨j,p,h1,hji,hj⟩
      ·exact .inl ⟨h0,skip i x hskip h1⟩
      ·exact .inr ⟨j,p,h1,by omega,hj⟩
     have hstay:¬k'=k→((hit=none∧∀j p,j<x+1→xs[j]?≠some (k,p))∨∃j p,hit=some j∧j<x+1∧xs[j]?=some (k,p)):=by
      intro hne
      rcases hHx with ⟨h0,h1⟩|⟨j,p,h1,hji,hj⟩
      ·exact .inl ⟨h0,step x hkv hne h1⟩
      ·exact .inr ⟨j,p,h1,by omega,hj⟩
     rw[hex]
     dsimp only
     by_cases hh:(k'.hash w == k.hash w)=true
     ·rw[if_pos hh]
      refine wpAny_bind (wpAny_dictEpoch ho hd (wpAny_bind (eqV hu i1 i2 hkey hdk (wpAny_bind (wpAny_dictEpoch ho hd ?_)))))
      rw[if_neg (by simp)]
      by_cases hkk:k'=k
      ·rw[decide_eq_true hkk]
       subst hkk
       rcases hHx with ⟨rfl,_⟩|⟨j,p,_,hjx,hj⟩
       ·first|rw[if_pos rfl]|skip
        simp only[Option.isSome_none,Bool.false_eq_true,if_false]
        first|refine wpAny_bind (wpAny_pure ?_)|skip
        refine wpAny_bind (wpAny_rule ?_)
        split
        ·exact wpAny_pure (wpAny_pure (hsome x _ hkv))
        ·exact wpAny_pure ⟨rfl,x+1,some x,rfl,hrest',hlt,.inr ⟨x,_,rfl,Nat.lt_succ_self x,hkv⟩⟩
       ·exact absurd (uniq hj hkv) (by omega)
      ·rw[decide_eq_false hkk]
       simp only[Bool.false_eq_true,if_false]
       refine wpAny_bind (wpAny_rule ?_)
       first|rw[if_neg (by simp)]|skip
       first
       |exact wpAny_pure ⟨rfl,x+1,hit,rfl,hrest',hlt,hstay hkk⟩
       |exact wpAny_bind (wpAny_pure (wpAny_pure ⟨rfl,x+1,hit,rfl,hrest',hlt,hstay hkk⟩))
     ·rw[if_neg hh]
      exact wpAny_pure ⟨rfl,x+1,hit,rfl,hrest',hlt,hstay fun e=>hh (by rw[e];simp)⟩
    ·rintro b s' ⟨rfl,i,hit,rfl,hr,hi,hH⟩
     have hall2:∀j,i≤j→j<es.size→((es[j]?.map (·.hash)) == some (k.hash w))=false:=fun j h1 h2=>by
      have:=List.filter_eq_nil_iff.mp hr.symm j (List.mem_range'_1.mpr ⟨h1,by omega⟩)
      simpa using this
     rcases hH with ⟨rfl,h0⟩|⟨j,p,rfl,_,hj⟩
     ·exact wpAny_pure (fin i hall2 h0)
     ·exact wpAny_pure (hsome j p hj))
|float f t=>cases hkey
|bytes b t=>cases hkey
|type n=>cases hkey
|builtin n=>cases hkey
|ref a=>
  have hany:=hany a rfl
  by_cases hall:((Value.ref a::(placesWithHash es.size (fun i=>es[i]?.map (·.hash)) (k.hash w)).filterMap (fun i=>es[i]?.map (·.key))).all carriedByValue)=true
  ·rw[if_pos hall]
   exact walk
  ·rw[if_neg hall]
   rw[if_neg hany]
   by_cases hone:(((placesWithHash es.size (fun i=>es[i]?.map (·.hash)) (k.hash w)).filterMap (fun i=>es[i]?.map (·.key))) == [Value.ref a])=true <;> (first|rw[if_pos hone]|rw[if_neg hone]) <;> (first|refine wpAny_bind (wpAny_pure ?_)|refine wpAny_bind (tells hkey hdk stored ?_)) <;> (
    rw[if_neg (by simp)]
    refine wpAny_bind (wpAny_forIn_list _ (fun rest b s'=>s'=s∧∃i hit,b=(none,hit)∧rest=(List.range' i (es.size - i)).filter (fun i=>(es[i]?.map (·.hash)) == some (k.hash w))∧i≤es.size ∧
      ((hit=none∧∀j p,j<i→xs[j]?≠some (k,p))∨∃j p,hit=some j∧j<i∧xs[j]?=some (k,p))) _ ?_ ?_ _ _ ⟨rfl,0,none,rfl,by rw[placesWithHash,List.range_eq_range',Nat.sub_zero],Nat.zero_le _,.inl ⟨rfl,fun _ _ h=>absurd h (Nat.not_lt_zero _)⟩⟩)
    ·rintro x rest b s' ⟨rfl,i,hit,rfl,hr,hi,hH⟩
     obtain⟨hix,hxn,hpx,hskip,hrest⟩:=filter_range'_cons _ _ _ _ _ hr.symm
     have hlt:x<es.size:=by omega
     obtain⟨k',u,v',hkv,hex,i1,i2⟩:=hent x hlt
     have hrest':rest=(List.range' (x+1) (es.size - (x+1))).filter (fun i=>(es[i]?.map (·.hash)) == some (k.hash w)):=by rw[hrest];congr 2;omega
     have hHx:(hit=none∧∀j p,j<x→xs[j]?≠some (k,p))∨∃j p,hit=some j∧j<x∧xs[j]?=some (k,p):=by
      rcases hH with ⟨h0,h1⟩|⟨j,p,h1,hji,hj⟩
      ·exact .inl ⟨h0,skip i x hskip h1⟩
      ·exact .inr ⟨j,p,h1,by omega,hj⟩
     have hstay:¬k'=k→((hit=none∧∀j p,j<x+1→xs[j]?≠some (k,p))∨∃j p,hit=some j∧j<x+1∧xs[j]?=some (k,p)):=by
      intro hne
      rcases hHx with ⟨h0,h1⟩|⟨j,p,h1,hji,hj⟩
      ·exact .inl ⟨h0,step x hkv hne h1⟩
      ·exact .inr ⟨j,p,h1,by omega,hj⟩
     rw[hex]
     dsimp only
     by_cases hh:(k'.hash w == k.hash w)=true
     ·rw[if_pos hh]
      refine wpAny_bind (wpAny_dictEpoch ho hd (wpAny_bind (eqV hu i1 i2 hkey hdk (wpAny_bind (wpAny_dictEpoch ho hd ?_)))))
      rw[if_neg (by simp)]
      by_cases hkk:k'=k
      ·rw[decide_eq_true hkk]
       subst hkk
       rcases hHx with ⟨rfl,_⟩|⟨j,p,_,hjx,hj⟩
       ·first|rw[if_pos rfl]|skip
        simp only[Option.isSome_none,Bool.false_eq_true,if_false]
        first|refine wpAny_bind (wpAny_pure ?_)|skip
        refine wpAny_bind (wpAny_rule ?_)
        split
        ·exact wpAny_pure (wpAny_pure (hsome x _ hkv))
        ·exact wpAny_pure ⟨rfl,x+1,some x,rfl,hrest',hlt,.inr ⟨x,_,rfl,Nat.lt_succ_self x,hkv⟩⟩
       ·exact absurd (uniq hj hkv) (by omega)
      ·rw[decide_eq_false hkk]
       simp only[Bool.false_eq_true,if_false]
       refine wpAny_bind (wpAny_rule ?_)
       first|rw[if_neg (by simp)]|skip
       first
       |exact wpAny_pure ⟨rfl,x+1,hit,rfl,hrest',hlt,hstay hkk⟩
       |exact wpAny_bind (wpAny_pure (wpAny_pure ⟨rfl,x+1,hit,rfl,hrest',hlt,hstay hkk⟩))
     ·rw[if_neg hh]
      exact wpAny_pure ⟨rfl,x+1,hit,rfl,hrest',hlt,hstay fun e=>hh (by rw[e];simp)⟩
    ·rintro b s' ⟨rfl,i,hit,rfl,hr,hi,hH⟩
     have hall2:∀j,i≤j→j<es.size→((es[j]?.map (·.hash)) == some (k.hash w))=false:=fun j h1 h2=>by
      have:=List.filter_eq_nil_iff.mp hr.symm j (List.mem_range'_1.mpr ⟨h1,by omega⟩)
      simpa using this
     rcases hH with ⟨rfl,h0⟩|⟨j,p,rfl,_,hj⟩
     ·exact wpAny_pure (fin i hall2 h0)
     ·exact wpAny_pure (hsome j p hj))
|str z t=>
  by_cases hstr:(es.all fun e=>isExactStrKey e.key)=true
  ·simp only[hstr,if_true]
   have hk2:k=.text z:=by cases hkey;rfl
   have hfun:∀j:Nat,∀x:Ent,xs[j]?=some x→x.2.1.isStr z=decide (x.1=k):=fun j x hx=>by
    have i1:=(his x (List.mem_of_getElem? hx)).1
    obtain⟨a1,a2,a3⟩:=x
    subst hk2
    cases i1 with
   |text y t'=>
     show (y == z)=_
     by_cases hy:y=z
     ·subst hy;simp
     ·simp[hy]
   |none=>rfl
   |bool _=>rfl
   |int _ _=>rfl
   |tup _ _ _ _=>rfl
   unfold foundByValue
   cases hf:es.findIdx? (fun e=>e.key.isStr z) with
  |none=>
    refine wpAny_pure (hnone fun j p hj => ?_)
    have hjl:j<es.size:=by
     rw[hsz]
     exact (List.getElem?_eq_some_iff.mp hj).1
    have e1:es[j]?=some (ent w (k,p)):=by rw[hat j,hj];rfl
    have q:=Array.findIdx?_eq_none_iff.mp hf _ (Array.mem_of_getElem? e1)
    have q2:=hfun j _ hj
    have q3:p.1.isStr z=false:=q
    rw[q2] at q3
    simp at q3
  |some i=>
    obtain⟨hlt,hi,_⟩:=Array.findIdx?_eq_some_iff_getElem.mp hf
    obtain⟨k',u,v',hkv,hex,i1,i2⟩:=hent i hlt
    have e1:es[i]=⟨k'.hash w,u,v'⟩:=by
     rw[Array.getElem?_eq_getElem hlt] at hex
     exact Option.some.inj hex
    rw[e1] at hi
    have hkk:k'=k:=by
     have q2:=hfun i _ hkv
     have hi:u.isStr z=true:=hi
     rw[q2] at hi
     exact of_decide_eq_true hi
    simp only[hex]
    refine wpAny_bind (wpAny_dictEpoch ho hd (wpAny_bind (eqV hu i1 i2 hkey hdk (wpAny_bind (wpAny_dictEpoch ho hd ?_)))))
    rw[if_neg (by simp),decide_eq_true hkk]
    subst hkk
    exact wpAny_bind (wpAny_rule (wpAny_pure (hsome i _ hkv)))
  ·simp only[hstr,if_false,Bool.false_eq_true]
   by_cases hall:((Value.str z t::(placesWithHash es.size (fun i=>es[i]?.map (·.hash)) (k.hash w)).filterMap (fun i=>es[i]?.map (·.key))).all carriedByValue)=true
   ·rw[if_pos hall]
    exact walk
   ·rw[if_neg hall]
    by_cases hone:(((placesWithHash es.size (fun i=>es[i]?.map (·.hash)) (k.hash w)).filterMap (fun i=>es[i]?.map (·.key))) == [Value.str z t])=true <;> (first|rw[if_pos hone]|rw[if_neg hone]) <;> (first|refine wpAny_bind (wpAny_pure ?_)|refine wpAny_bind (tells hkey hdk stored ?_)) <;> (
     rw[if_neg (by simp)]
     refine wpAny_bind (wpAny_forIn_list _ (fun rest b s'=>s'=s∧∃i hit,b=(none,hit)∧rest=(List.range' i (es.size - i)).filter (fun i=>(es[i]?.map (·.hash)) == some (k.hash w))∧i≤es.size ∧
       ((hit=none∧∀j p,j<i→xs[j]?≠some (k,p))∨∃j p,hit=some j∧j<i∧xs[j]?=some (k,p))) _ ?_ ?_ _ _ ⟨rfl,0,none,rfl,by rw[placesWithHash,List.range_eq_range',Nat.sub_zero],Nat.zero_le _,.inl ⟨rfl,fun _ _ h=>absurd h (Nat.not_lt_zero _)⟩⟩)
     ·rintro x rest b s' ⟨rfl,i,hit,rfl,hr,hi,hH⟩
      obtain⟨hix,hxn,hpx,hskip,hrest⟩:=filter_range'_cons _ _ _ _ _ hr.symm
      have hlt:x<es.size:=by omega
      obtain⟨k',u,v',hkv,hex,i1,i2⟩:=hent x hlt
      have hrest':rest=(List.range' (x+1) (es.size - (x+1))).filter (fun i=>(es[i]?.map (·.hash)) == some (k.hash w)):=by rw[hrest];congr 2;omega
      have hHx:(hit=none∧∀j p,j<x→xs[j]?≠some (k,p))∨∃j p,hit=some j∧j<x∧xs[j]?=some (k,p):=by
       rcases hH with ⟨h0,h1⟩|⟨j,p,h1,hji,hj⟩
       ·exact .inl ⟨h0,skip i x hskip h1⟩
       ·exact .inr ⟨j,p,h1,by omega,hj⟩
      have hstay:¬k'=k→((hit=none∧∀j p,j<x+1→xs[j]?≠some (k,p))∨∃j p,hit=some j∧j<x+1∧xs[j]?=some (k,p)):=by
       intro hne
       rcases hHx with ⟨h0,h1⟩|⟨j,p,h1,hji,hj⟩
       ·exact .inl ⟨h0,step x hkv hne h1⟩
       ·exact .inr ⟨j,p,h1,by omega,hj⟩
      rw[hex]
      dsimp only
      by_cases hh:(k'.hash w == k.hash w)=true
      ·rw[if_pos hh]
       refine wpAny_bind (wpAny_dictEpoch ho hd (wpAny_bind (eqV hu i1 i2 hkey hdk (wpAny_bind (wpAny_dictEpoch ho hd ?_)))))
       rw[if_neg (by simp)]
       by_cases hkk:k'=k
       ·rw[decide_eq_true hkk]
        subst hkk
        rcases hHx with ⟨rfl,_⟩|⟨j,p,_,hjx,hj⟩
        ·first|rw[if_pos rfl]|skip
         simp only[Option.isSome_none,Bool.false_eq_true,if_false]
         first|refine wpAny_bind (wpAny_pure ?_)|skip
         refine wpAny_bind (wpAny_rule ?_)
         split
         ·exact wpAny_pure (wpAny_pure (hsome x _ hkv))
         ·exact wpAny_pure ⟨rfl,x+1,some x,rfl,hrest',hlt,.inr ⟨x,_,rfl,Nat.lt_succ_self x,hkv⟩⟩
        ·exact absurd (uniq hj hkv) (by omega)
       ·rw[decide_eq_false hkk]
        simp only[Bool.false_eq_true,if_false]
        refine wpAny_bind (wpAny_rule ?_)
        first|rw[if_neg (by simp)]|skip
        first
        |exact wpAny_pure ⟨rfl,x+1,hit,rfl,hrest',hlt,hstay hkk⟩
        |exact wpAny_bind (wpAny_pure (wpAny_pure ⟨rfl,x+1,hit,rfl,hrest',hlt,hstay hkk⟩))
      ·rw[if_neg hh]
       exact wpAny_pure ⟨rfl,x+1,hit,rfl,hrest',hlt,hstay fun e=>hh (by rw[e];simp)⟩
     ·rintro b s' ⟨rfl,i,hit,rfl,hr,hi,hH⟩
      have hall2:∀j,i≤j→j<es.size→((es[j]?.map (·.hash)) == some (k.hash w))=false:=fun j h1 h2=>by
       have:=List.filter_eq_nil_iff.mp hr.symm j (List.mem_range'_1.mpr ⟨h1,by omega⟩)
       simpa using this
      rcases hH with ⟨rfl,h0⟩|⟨j,p,rfl,_,hj⟩
      ·exact wpAny_pure (fin i hall2 h0)
      ·exact wpAny_pure (hsome j p hj))
end
end Dn.H
namespace Dn.H
open PySem
section
variable {prog:Program} {w:World} {A:Around} {E:Value→Shared→Prop} {s:Shared} {d:Addr} {xs:List Ent} {k:NestedKey} {kv:Value}
theorem Keys.toks {t:Nat} (h:Keys s.heap xs):Keys ({s with toks:=t}:Shared).heap xs:=h
theorem get {Q:Option Value→Shared→Prop} (hu:A.units+8<cLine) (hkey:NestedIs s.heap k kv) (hdk:k.depth≤8) (hm:Raw w s.heap d xs) (hks:Keys s.heap xs) (h:Q (at_ xs k) {s with toks:=s.toks+k.draws}):wpAny (model prog w) A (dictGet d kv) Q E s:=by
 obtain⟨o,es,ep,ho,hc,hd,he,hn⟩:=hm
 unfold dictGet
 try with_reducible refine wpAny_holding ?_
 refine wpAny_bind (pyHash_key k kv A s _ hkey (by omega) (wpAny_bind (find (s:={s with toks:=s.toks+k.draws}) hu hkey hdk ho hd he hks hn (fun hno => ?_) fun j p hj => ?_)))
 ·rw[at_none hno] at h
  exact wpAny_pure h
 ·obtain⟨p1,p2⟩:=p
  rw[at_get hn hj] at h
  refine wpAny_bind (wpAny_dictEntries (s:={s with toks:=s.toks+k.draws}) ho hd ?_)
  rw[show es[j]?=some (ent w (k,p1,p2)) by rw[←Array.getElem?_toList,he,List.getElem?_map,hj];rfl]
  exact wpAny_pure h
theorem modify_put {v:Value}:∀{xs:List Ent} {j:Nat} {p:Value×Value},(xs.map (·.1)).Nodup→xs[j]?=some (k,p)→(xs.map (ent w)).modify j (fun e=>{e with val:=v})=(xs.map (fun x=>if x.1=k then (x.1,x.2.1,v) else x)).map (ent w)
|[],j,p,hn,hj=>by cases hj
|x::r,0,p,hn,hj=>by
  cases hj
  rw[List.map_cons,List.nodup_cons] at hn
  rw[List.map_cons,List.map_cons,List.map_cons,if_pos rfl]
  show _::r.map (ent w)=_::_
  congr 1
  rw[List.map_map]
  refine List.map_congr_left fun y hy => ?_
  show ent w y=ent w (if y.1=k then (y.1,y.2.1,v) else y)
  rw[if_neg fun e=>hn.1 (List.mem_map.mpr ⟨y,hy,e⟩)]
|x::r,j+1,p,hn,hj=>by
  rw[List.map_cons,List.nodup_cons] at hn
  have hne:x.1≠k:=fun e=>hn.1 (List.mem_map.mpr ⟨_,List.mem_of_getElem? hj,e.symm⟩)
  rw[List.map_cons,List.map_cons,List.map_cons,if_neg hne,←modify_put hn.2 (by simpa using hj)] <;> rfl
theorem set {v:Value} {Q:Unit→Shared→Prop} (hu:A.units+8<cLine) (hkey:NestedIs s.heap k kv) (hdk:k.depth≤8) (hm:Raw w s.heap d xs) (hks:Keys s.heap xs) (hsz:xs.length<sizeLine)
  (hQ:∀h',Raw w h' d (put xs k kv v)→Heap.SameBut d s.heap h'→Q () {s with heap:=h',toks:=s.toks+k.draws}):wpAny (model prog w) A (dictSet d kv v) Q E s:=by
 obtain⟨o,es,ep,ho,hc,hd,he,hn⟩:=hm
 have hl:es.size=xs.length:=by rw[←Array.length_toList,he,List.length_map]
 unfold dictSet
 try with_reducible refine wpAny_holding ?_
 refine wpAny_bind (pyHash_key k kv A s _ hkey (by omega) ?_)
 unfold dictSetHashed
 try with_reducible refine wpAny_holding ?_
 refine wpAny_bind (find (s:={s with toks:=s.toks+k.draws}) hu hkey hdk ho hd he hks hn (fun hno => ?_) fun j p hj => ?_)
 ·refine wpAny_bind (wpAny_rule (wpAny_updateDictKeys (hz:=by omega) (s:={s with toks:=s.toks+k.draws}) ho hd (hQ _ ⟨_,_,ep+1,Heap.get?_update_self _ ho (Obj.isFreed_of_dict (Obj.data_mapDictKeys hd _)),hc.mapDictKeys _,Obj.data_mapDictKeys hd _,?_,nodup_put hn⟩ (Heap.SameBut.update ..))))
  unfold put
  rw[at_none hno,if_neg (by decide),List.map_append,←he]
  simp[ent]
 ·obtain⟨p1,p2⟩:=p
  refine wpAny_bind (wpAny_rule (wpAny_bind (wpAny_updateDict (s:={s with toks:=s.toks+k.draws}) ho hd (wpAny_point (hQ _ ⟨_,_,ep,Heap.get?_update_self _ ho (Obj.isFreed_of_dict (Obj.data_mapDict hd _)),hc.mapDict _,Obj.data_mapDict hd _,?_,nodup_put hn⟩ (Heap.SameBut.update ..))))))
  unfold put
  rw[at_get hn hj,if_pos (show (some p2).isSome=true from rfl),←modify_put hn hj,←he]
  obtain⟨l⟩:=es
  simp
theorem item {v:Value} {Q:Value→Shared→Prop} (hu:A.units+9<cLine) (hkey:NestedIs s.heap k kv) (hdk:k.depth≤8) (hm:Raw w s.heap d xs) (hks:Keys s.heap xs) (hp:at_ xs k=some v) (h:Q v {s with toks:=s.toks+k.draws}):wpAny (model prog w) A (getItem (.ref d) kv) Q E s:=by
 unfold getItem
 try with_reducible refine wpAny_holding ?_
 refine wpAny_bind (wpAny_sequenceKey hm.typeIs (by decide) ?_)
 refine wpAny_bind (wpAny_callSpecial?_slot (name:=Str.ofString "__getitem__") hm.typeIs slot_dict_getitem (wpAny_call_entry slot_dict_getitem hm.typeIs entry_dict_getitem ?_ (args_dict_getitem _ _)))
 show wpAny _ _ (dictGet d kv >>= _) _ _ s
 refine wpAny_bind (get (A:=A.in1) (by show A.units+1+8<_;omega) hkey hdk hm hks ?_)
 rw[hp]
 exact wpAny_pure ⟨v,rfl,wpAny_pure h⟩
end
end Dn.H
namespace Dn.H
open PySem PySem.Spec L2 PyProof.Rows
def nk1:Key→NestedKey
|.inl i=>.num i
|.inr x=>.text x
def nkT (qs:List Key):NestedKey:=.tup (qs.map nk1)
theorem nk1_inj {a b:Key} (h:nk1 a=nk1 b):a=b:=by
 cases a <;> cases b <;> simp only[nk1] at h <;> cases h <;> rfl
theorem nkT_inj:∀{a b:List Key},nkT a=nkT b→a=b:=by
 intro a b h
 have h:a.map nk1=b.map nk1:=NestedKey.tup.inj h
 induction a generalizing b with
|nil=>cases b with
 |nil=>rfl
 |cons _ _=>cases h
|cons x r ih=>
  cases b with
 |nil=>cases h
 |cons y t=>
   rw[List.map_cons,List.map_cons] at h
   obtain⟨h1,h2⟩:=List.cons.inj h
   rw[nk1_inj h1,ih (by unfold nkT;rw[h2]) h2]
abbrev OK:=Option (List Key)
def nkO:OK→NestedKey
|none=>.none
|some qs=>nkT qs
theorem nkO_inj {a b:OK} (h:nkO a=nkO b):a=b:=by
 cases a <;> cases b
 ·rfl
 ·cases h
 ·cases h
 ·rw[nkT_inj h]
theorem dep1:∀qs:List Key,NestedKey.depthAll (qs.map nk1)=0
|[]=>rfl
|q::r=>by
  rw[List.map_cons,NestedKey.depthAll,dep1 r]
  cases q <;> rfl
theorem depO (k:OK):(nkO k).depth≤8:=by
 cases k with
|none=>exact Nat.zero_le _
|some qs=>show (NestedKey.tup (qs.map nk1)).depth≤8;rw[NestedKey.depth,dep1];decide
def NK (K:PySem.W.Frag) (H:Hp):OK→V→Prop
|none,v=>v=.non
|some qs,v=>∃a,v=.ref a∧SqT K H a (qs.map kV)
def vv:V→Value
|.ref a=>.ref a
|_=>.none
theorem NK.vv {K:PySem.W.Frag} {H:Hp} {k:OK} {v:V} (h:NK K H k v) {u:Value} (r:RelV v u):u=Dn.H.vv v:=by
 cases k with
|none=>obtain rfl:v=.non:=h;exact r
|some qs=>obtain⟨a,rfl,_⟩:=h;exact r
theorem NK.rel {K:PySem.W.Frag} {H:Hp} {k:OK} {v:V} (h:NK K H k v):RelV v (Dn.H.vv v):=by
 cases k with
|none=>obtain rfl:v=.non:=h;rfl
|some qs=>obtain⟨a,rfl,_⟩:=h;rfl
theorem nested_parts {h:Heap}:∀{qs:List Key} {its:List Value},Vals (qs.map kV) its→NestedAll h (qs.map nk1) its
|[],its,r=>by cases r;exact .nil
|q::qs,its,r=>by
  cases r with
 |cons r1 r2=>
   refine .cons ?_ (nested_parts r2)
   cases q with
  |inl i=>
    obtain⟨t,rfl⟩:∃t,_=Value.int i t:=r1
    exact .int i t
  |inr x=>
    obtain⟨t,rfl⟩:∃t,_=Value.str x t:=r1
    exact .text x t
theorem NK.nested {X:Cx} {pins:List (Addr×Obj)} {σ:L2.St} {H:Hp} {s:Shared} (I:Inv X pins σ H s) {k:OK} {v:V} (h:NK X.K H k v):NestedIs s.heap (nkO k) (Dn.H.vv v):=by
 cases k with
|none=>obtain rfl:v=.non:=h;exact .none
|some qs=>
  obtain⟨a,rfl,hs⟩:=h
  obtain⟨its,r,⟨o,ho,hc,n,hd⟩,_⟩:=I.tuple hs
  exact .tup ho hc hd (nested_parts r)
def ents (ks:List (OK×V)):List Ent:=ks.map fun p=>(nkO p.1,Dn.H.vv p.2,Value.bool true)
def putN (ks:List (OK×V)) (k:OK) (v:V):List (OK×V):=if (ks.any fun p=>decide (p.1=k))=true then ks else ks++[(k,v)]
theorem at_ents {k:OK}:∀{ks:List (OK×V)},(at_ (ents ks) (nkO k)).isSome=ks.any fun p=>decide (p.1=k)
|[]=>rfl
|(k',v)::r=>by
  have ih:=at_ents (k:=k) (ks:=r)
  unfold at_ at ih ⊢
  show ((List.find? _ ((nkO k',Dn.H.vv v,Value.bool true)::ents r)).map _).isSome=(decide (k'=k)||r.any _)
  rw[List.find?_cons]
  by_cases e:k'=k
  ·subst e
   simp
  ·have e2:decide (nkO k'=nkO k)=false:=decide_eq_false fun z=>e (nkO_inj z)
   simp only[e2]
   rw[decide_eq_false e,Bool.false_or,←ih]
theorem put_ents {ks:List (OK×V)} {k:OK} {v:V}:put (ents ks) (nkO k) (Dn.H.vv v) (.bool true)=ents (putN ks k v):=by
 unfold put putN
 rw[at_ents]
 by_cases c:(ks.any fun p=>decide (p.1=k))=true
 ·rw[if_pos c,if_pos c]
  unfold ents
  rw[List.map_map]
  refine List.map_congr_left fun p _ => ?_
  show (if nkO p.1=nkO k then (nkO p.1,Dn.H.vv p.2,Value.bool true) else (nkO p.1,Dn.H.vv p.2,Value.bool true))=_
  split <;> rfl
 ·rw[if_neg c,if_neg c]
  unfold ents
  rw[List.map_append] <;> rfl
def DN (w:World) (D:Addr) (ks:List (OK×V)):HO:=.ext fun h=>Raw w h D (ents ks)∧(D == sysModules)=false
theorem dn_ok {P:Program} {w w':World} {H:Hp} {h:Heap} {D:Addr} {ks:List (OK×V)} (r:Raw w h D (ents ks)) (hs:(D == sysModules)=false):ObjOk P w' H h D (DN w D ks):=
 ⟨⟨r,hs⟩,(let ⟨o,_,_,e,_⟩:=r;⟨o,e⟩),fun _ _ r1 k=>⟨r1.1.at' k,r1.2⟩⟩
theorem dn_of {P:Program} {w w':World} {H:Hp} {h:Heap} {D:Addr} {ks:List (OK×V)} (q:HOk P w' H h) (e:H D=some (DN w D ks)):Raw w h D (ents ks)∧(D == sysModules)=false:=(q D _ e).1
section
variable {X:Cx}
theorem dn_set {pins:List (Addr×Obj)} {σ:L2.St} {H:Hp} {s:Shared} {E:Value→Shared→Prop} {D:Addr} {ks:List (OK×V)} {k:OK} {y:V} {u r:Value} {Q:Unit→Shared→Prop} (I:Inv X pins σ H s) (hu:X.A.units+8<cLine) (hD:H D=some (DN X.w D ks)) (hz:ks.length<sizeLine)
  (hks:∀p∈ks,NK X.K H p.1 p.2) (hk:NK X.K H k y) (ry:RelV y u) (rr:r=.bool true) (h:∀s',Inv X pins σ (L2.upd H D (DN X.w D (putN ks k y))) s'→Q () s'):wpAny (model X.prog X.w) X.A (dictSet D u r) Q E s:=by
 subst rr
 have eu:=hk.vv ry
 subst eu
 refine set hu (hk.nested I) (depO k) (dn_of I.hok hD).1 (fun x hx => ?_) (by unfold ents;rw[List.length_map];exact hz) fun h' r' sb => ?_
 ·obtain⟨p,hp,rfl⟩:=List.mem_map.mp hx
  exact⟨(hks p hp).nested I,depO _⟩
 ·rw[put_ents] at r'
  exact h _ (d_write I (by rw[hD];exact True.intro) sb (let ⟨o,_,_,e,_⟩:=r';⟨o,e⟩) (dn_ok r' (dn_of I.hok hD).2))
def tDn (w:World) (K:PySem.W.Frag) (wi:TI) (g:TG) (tk:TE) (vs:List Nat):TE:=fun σ H Q=>wi σ H fun J H1=>∀D,H1 D=none→∃W:Nat→Nat→Hp→Prop,(∃m,W 0 m (L2.upd H1 D (DN w D [])))∧∀i m H,W i m H →
 (J.stop i H∧Q (.ref D) H)∨(J.go i H∧∃Nx:Hp→Prop,(∀H',Nx H'→∃m',m'<m∧W (i+1) m' H')∧∀x H',J.yld i H x H'→g x (L2.wipe σ vs) H' fun σ2 H2=>L2.wipe σ2 vs=L2.wipe σ vs ∧
  tk σ2 H2 fun y H4=>∃ks k,H4 D=some (DN w D ks)∧ks.length<sizeLine∧(∀p∈ks,NK K H4 p.1 p.2)∧NK K H4 k y∧Nx (L2.upd H4 D (DN w D (putN ks k y))))
theorem dn_core {pins:List (Addr×Obj)} {s:Shared} {σ:L2.St} {H:Hp} {Q:VK} {kx tg iter:Expr} {scope:Scope} {own:List (Str×Nat)} {pos pos' vp:Pos} {vj:Nat} {wi:TI} {g:TG} {tk:TE} {use:Option (Value→Sem Unit)} {Qf:Value→Shared→Prop}
  (hc:X.calm=true) (hu:X.A.units+8<cLine) (nN:X.N.Nodup) (J0:Inv X pins σ H s) (pi:PI X tg iter wi) (ok:BlkOk X.N X.env.scope scope own)
  (pg:∀(s:Shared) (H:Hp) (C:Addr) (cl:List (Str×Addr)) (fp:List Addr),PG (X.blk s H scope (compEnvC scope cl C X.env) fp) tg g)
  (pk:∀(s:Shared) (H:Hp) (C:Addr) (cl:List (Str×Addr)) (fp:List Addr),PE (X.blk s H scope (compEnvC scope cl C X.env) fp) kx tk) (fs:∀x,foldedSetIterable iter X.env x=pure x)
  (h:tDn X.w X.K wi g tk (own.map (·.2)) σ H Q)
  (fin:∀D C s' m H',Inv X pins σ H' s'→Q (.ref D) H'→s'.heap.Ns C m→FpOk X pins H' C→compPost (model X.prog X.w) X.A X.xe use Qf (.ref D) C (.ok .next) s') :
  wpAny (model X.prog X.w) X.A (comprehension (.DictComp kx (.Constant (.bool true) vj vp) [⟨tg,iter,[],0⟩] scope pos) scope X.env pos' newDict false (eval iter X.env) use) Qf X.xe s:=by
 have cellOf:∀y∈scope.names,y.2=.free→∃c,X.env.cells.lookup y.1=some c:=fun y hy e=>(ok.free y hy e).elim (fun k=>J0.ok.has _ (.inl k)) fun k=>J0.ok.has _ (.inr k)
 refine wpAny_comprehension_free (use:=use) rfl fs (closure_ok cellOf) ok.kind (fun y hy e=>by rw[ok.uniq y hy,e]) (thn (pi.run pins s σ H _ J0 h) fun _ _ z1=>thn z1 fun _ sa z2 => ?_)
 obtain⟨it,fp,tn,J,Ha,rfl,Ja,T,ta,fa,q⟩:=z2
 refine wpAny_newObj_type (newEnv_comp ?_)
 obtain⟨D,hD⟩:∃D,sa.heap.objs.size=D:=⟨_,rfl⟩
 rw[hD]
 obtain⟨W,⟨m0,w0⟩,turn⟩:=q D (Ja.hok.fresh (Nat.le_of_eq hD))
 generalize esb:({sa with heap:=sa.heap.push {cls:=.type "dict",data:=.dict #[]}}:Shared)=sb
 have hb:sb.heap=sa.heap.push {cls:=.type "dict",data:=.dict #[]}:=by rw[←esb]
 have Jb:Inv X pins σ (L2.upd Ha D (DN X.w D [])) sb:=by
  rw[←esb]
  refine Ja.laid (t':=sa.toks) (fun b o e=>Heap.get?_push_of_some _ e) (Nat.le_of_eq hD) ?_
  rw[←hD]
  exact dn_ok (Raw.new (w:=X.w) sa.heap) (beq_eq_false_iff_ne.mpr (Ne.symm (Nat.ne_of_lt Ja.big)))
 have fb:∀b∈fp,FpOk X pins (L2.upd Ha D (DN X.w D [])) b∧b<sb.heap.objs.size:=fun b mb=>by
  obtain⟨o,e,_⟩:=T.obj _ _ ta b mb
  have lt:b<sa.heap.objs.size:=Heap.lt_size e
  refine⟨⟨?_,(fa b mb).2⟩,by rw[hb,Heap.size_push];exact Nat.lt_succ_of_lt lt⟩
  rw[upd_ne (by rw[←hD];exact Nat.ne_of_lt lt)]
  exact (fa b mb).1
 have tb:tn 0 sb.heap:=T.keep _ _ _ ta fun b _ o e=>by rw[hb];exact Heap.get?_push_of_some _ e
 have Jc:=block_start Jb ok nN fb
 have qg:=pg sb (L2.upd Ha D (DN X.w D [])) sb.heap.objs.size (cellsFrom (sb.heap.objs.size+1) scope.names (cloFrom X.env.cells scope.names [])) fp
 have qk:=pk sb (L2.upd Ha D (DN X.w D [])) sb.heap.objs.size (cellsFrom (sb.heap.objs.size+1) scope.names (cloFrom X.env.cells scope.names [])) fp
 show codeAny _ _ (.compStart (.DictComp kx (.Constant (.bool true) vj vp) [⟨tg,iter,[],0⟩] scope pos) 0 (.ref it) (.ref D) (compEnvC scope (cellsFrom (sb.heap.objs.size+1) scope.names (cloFrom X.env.cells scope.names [])) sb.heap.objs.size X.env)) (compPost (model X.prog X.w) X.A X.xe use Qf (.ref D) sb.heap.objs.size) {sb with heap:=pushCells (sb.heap.push {cls:=.type "dict",data:=.dict #[]}) scope.names}
 have nf:∀b∈fp,(L2.upd Ha D (DN X.w D [])) b=none:=fun b mb=>(fb b mb).1.1
 generalize hce:compEnvC scope (cellsFrom (sb.heap.objs.size+1) scope.names (cloFrom X.env.cells scope.names [])) sb.heap.objs.size X.env=ce at Jc qg qk ⊢
 have loc:ce.locals=sb.heap.objs.size:=by subst hce;rfl
 generalize hHb:L2.upd Ha D (DN X.w D [])=Hb at Jb Jc qg qk w0 nf fb
 generalize hsc:({sb with heap:=pushCells (sb.heap.push {cls:=.type "dict",data:=.dict #[]}) scope.names}:Shared)=sc at Jc ⊢
 have tc:tn 0 sc.heap:=T.keep _ _ _ tb fun b _ o e=>by rw[←hsc];exact pushCells_keeps _ _ _ _ (Heap.get?_push_of_some _ e)
 have own':∀{σ':L2.St} {H':Hp} {s':Shared},Inv (X.blk sb Hb scope ce fp) [] σ' H' s'→(∀b∈fp,H' b=none)→∀b∈fp,FpOk (X.blk sb Hb scope ce fp) [] H' b:=fun {σ' H' s'} Jx hn b mb=>
  ⟨hn b mb,(Jx.ok.exf b mb).1,Jx.ok.exfs b mb,.inl mb,fun x c e=>(Jx.ok.exf b mb).2 x c e,fun p hp=>absurd (show p∈([]:List (Addr×Obj))++[] from hp) (by simp)⟩
 have body:codeAny (model X.prog X.w) X.A (.compLoop (.DictComp kx (.Constant (.bool true) vj vp) [⟨tg,iter,[],0⟩] scope pos) 0 (.ref it) (.ref D) ce) (compPost (model X.prog X.w) X.A X.xe use Qf (.ref D) sb.heap.objs.size) sc:=by
  refine compLoop_anyD (fun n s'=>∃i H',Inv (X.blk sb Hb scope ce fp) [] (L2.wipe σ (own.map (·.2))) H' s'∧tn i s'.heap∧(∀b∈fp,H' b=none)∧W i n H') ?_ m0 ⟨0,Hb,Jc,tc,nf,w0⟩
  rintro n sd ⟨i,Hd,Jd,td,nd,wd⟩
  rcases turn i n Hd wd with ⟨stop,qq⟩|⟨go,Nx,hNx,step⟩
  ·refine thnF (T.done (X.blk sb Hb scope ce fp) rfl rfl rfl hc i [] sd _ Hd (fun _ _=>False) Jd (own' Jd nd) td stop) fun r se ⟨hr,Je⟩ => ?_
   subst hr
   have Jf:Inv X pins σ Hd se:=Jb.call' (ch:=fp) Je.os Je.base Je.hok Je.bare fun b mb=>⟨(fb b mb).1.2.2.2.1,(fb b mb).1.2.1,(fb b mb).1.2.2.2.2.1,(fb b mb).1.2.2.2.2.2⟩
   have z:Hd ce.locals=none:=Je.free
   obtain⟨m,hn,_⟩:=Je.loc
   replace hn:se.heap.Ns ce.locals m:=hn
   rw[loc] at hn z
   exact fin D sb.heap.objs.size se m Hd Jf qq hn (Jb.fpOk (Nat.le_refl _) z)
  ·refine thnF (T.item (X.blk sb Hb scope ce fp) rfl rfl rfl hc i [] sd _ Hd (fun _ _=>False) Jd (own' Jd nd) td go) fun r se ⟨u,hr,he⟩ => ?_
   subst hr
   refine thnF he fun _ sf ⟨x,Hf,Jf,rf,yf,tf,nf'⟩ => ?_
   refine thnF (qg.run _ sf _ Hf x u _ (Jf.pinned (own' Jf nf') (T.obj _ _ tf)) rf (step x Hf yf)) fun _ sg ⟨σg,Hg,Jg,wg,kg⟩ => ?_
   refine thnF ((pts_nil (X:=X.blk sb Hb scope ce fp)).run _ sg σg Hg (fun b H'=>b=true∧H'=Hg) Jg ⟨rfl,rfl⟩) fun b sh ⟨Hh,Jh,eb,eh⟩ => ?_
   subst eb
   rw[eh] at Jh
   rw[if_pos rfl]
   refine thnF (qk.run _ sh σg Hg _ Jh kg) fun z si ⟨y,Hi,Ji,ri,ks,k,a1,a2,a3,a4,nx⟩ => ?_
   refine thnF ((pe_bl (X:=X.blk sb Hb scope ce fp) (b:=true) (j:=vj) (pos:=vp)).run _ si σg Hi (fun v H'=>v=.bl true∧H'=Hi) Ji ⟨rfl,rfl⟩) fun z2 sj ⟨y2,Hj,Jj,rj,e2,e3⟩ => ?_
   rw[e3] at Jj
   rw[e2] at rj
   refine dn_set (X:=X.blk sb Hb scope ce fp) Jj hu a1 a2 a3 a4 ri rj fun sk Jk => ?_
   obtain⟨m',hm,w'⟩:=hNx _ nx
   have pin':∀b∈fp,∀o,sf.heap.get? b=some o→sk.heap.get? b=some o∧L2.upd Hi D (DN X.w D (putN ks k y)) b=none:=fun b mb o e=>
    let z:=Jk.pin (b,o) (List.mem_append_right _ (List.mem_append_right _ (mem_pinsAt mb e)))
    ⟨z.1,z.2.1⟩
   refine⟨m',hm,i+1,_,(Jk.unpinned (pins:=[])).weak (by rw[←wg,wipe_length]) (fun j v e => ?_),T.keep _ _ _ tf fun b mb o e=>(pin' b mb o e).1,fun b mb => ?_,w'⟩
   ·rw[←wg] at e;exact (wipe_some e).1
   ·obtain⟨o,e,_⟩:=T.obj _ _ tf b mb;exact (pin' b mb o e).2
 exact codeAny_compStart_dict body (T.self X.A 0 _ _ _ tc body)
theorem ps_setDn {i:Nat} {y:Str} {py:Pos} {kx tg iter:Expr} {scope:Scope} {own:List (Str×Nat)} {pos spos vp:Pos} {vj:Nat} {wi:TI} {g:TG} {tk:TE} (hc:X.calm=true) (hu:X.A.units+8<cLine) (nN:X.N.Nodup) (hy:X.N[i]?=some y) (yl:X.env.scope.names.lookup y=some .local)
  (sw:swapsWith (.DictComp kx (.Constant (.bool true) vj vp) [⟨tg,iter,[],0⟩] scope pos) (some (.Name y py)) spos.line X.env=pure true) (pi:PI X tg iter wi) (ok:BlkOk X.N X.env.scope scope own)
  (pg:∀(s:Shared) (H:Hp) (C:Addr) (cl:List (Str×Addr)) (fp:List Addr),PG (X.blk s H scope (compEnvC scope cl C X.env) fp) tg g)
  (pk:∀(s:Shared) (H:Hp) (C:Addr) (cl:List (Str×Addr)) (fp:List Addr),PE (X.blk s H scope (compEnvC scope cl C X.env) fp) kx tk) (fs:∀x,foldedSetIterable iter X.env x=pure x) :
  PS X (.Assign [.Name y py] (.DictComp kx (.Constant (.bool true) vj vp) [⟨tg,iter,[],0⟩] scope pos) spos) (tAsg (tDn X.w X.K wi g tk (own.map (·.2))) (gName i)):=by
 refine⟨fun pins s σ H D J0 h => ?_⟩
 rw[exec_Assign_Name_used _ _ _ _ sw]
 refine wpAny_bind (wpAny_standAt (wpAny_bind ?_))
 show wpAny _ X.A (do let _ ←comprehension (.DictComp kx (.Constant (.bool true) vj vp) [⟨tg,iter,[],0⟩] scope pos) scope X.env (firstIterPos [⟨tg,iter,[],0⟩] pos) newDict false (eval iter X.env) (some (assign (.Name y py) X.env))) _ _ s
 replace h:tDn X.w X.K wi g tk (own.map (·.2)) σ H (fun x H1=>gName i x σ H1 D.nx):=h
 refine wpAny_bind (thn (dn_core (Qf:=fun _ s'=>SP X pins D .next s') hc hu nN J0 pi ok pg pk fs h fun L C s' m H' Jx q hn f => ?_) fun _ s' hq=>wpAny_pure (wpAny_pure hq))
 show wpAny _ _ (assign (.Name y py) X.env (.ref L)) _ _ _
 refine wpAny_assign_Name (store_ok2 (v:=V.ref L) Jx nN hy (.inl yl) rfl (fun s2 Jy ⟨a,sb,ha⟩ => ?_) (.inr yl))
 obtain⟨g0,g1,g2,g3,g4,g5⟩:=f
 have ne:C≠a:=ha.elim (fun z=>by rw[z];exact g1) fun z=>fun e=>g4 y a z e.symm
 exact⟨m,hn.sameBut sb ne,fun h3 sb3=>⟨_,H',Jy.turned (t':=s2.toks) (fun b o hb e=>(sb3.2 b hb).trans e) g0 g1 g3 g4 g5,q⟩⟩
end
end Dn.H
namespace Dn.H
open PySem PySem.Spec L2 PyProof.Rows
def ItN (d:Addr) (o:Obj) (w:World) (ks:List (OK×V)):It:=
 ⟨fun i H=>H d=some (.frz o (DN w d ks))∧i<ks.length,fun i H x H'=>H'=H∧∃k,ks[i]?=some (k,x),fun i H=>H d=some (.frz o (DN w d ks))∧ks.length≤i⟩
section
variable {X:Cx} {pins:List (Addr×Obj)} {σ:L2.St} {H:Hp} {s:Shared} {d:Addr} {o:Obj}
theorem frzN {w:World} {ks:List (OK×V)} (I:Inv X pins σ H s) (h:H d=some (.frz o (DN w d ks))) :
  (d == sysModules)=false∧s.heap.get? d=some o∧o.ExactDict∧∃(es:Array DictEntry) (ep:Nat),o.data=.dict es ep∧es.size=ks.length∧∀(i:Nat) (k:OK) (v:V),ks[i]?=some (k,v)→∃en:DictEntry,es[i]?=some en∧en.key=vv v:=by
 obtain⟨hd,⟨⟨o',es,ep,ho,hx,hdt,he,_⟩,hs⟩,_⟩:=I.hok d _ h
 rw[hd] at ho
 cases ho
 refine⟨hs,hd,hx,es,ep,hdt,?_,fun i k v e => ?_⟩
 ·have:=congrArg List.length he
  rw[Array.length_toList] at this
  rw[this]
  unfold ents
  rw[List.length_map,List.length_map]
 ·have:es[i]?=((ents ks).map (ent w))[i]?:=by rw[←he,Array.getElem?_toList]
  rw[this,List.getElem?_map]
  unfold ents
  rw[List.getElem?_map,e]
  exact⟨_,rfl,rfl⟩
end
theorem turn_keysN {P:Program} {w w':World} {K:PySem.W.Frag} {tg:Expr} {d:Addr} {o:Obj} {es:Array DictEntry} {ep:Nat} {ks:List (OK×V)} (hr:∀p∈ks,RelV p.2 (vv p.2)) (it:Addr) (hod:o.data=.dict es ep):Turn P w' K tg (ItN d o w ks) [it] it (fun i h=>h.IsKeyIter it d i ks.length ep) where
 mem:=by simp
 obj:=fun i h st b mb=>by
  obtain rfl:b=it:=by simpa using mb
  obtain⟨oi,e,c,dd⟩:=st
  exact⟨oi,e,fun v z=>by rw[dd] at z;cases z⟩
 keep:=fun i h h' st k=>st.at fun oi e=>k it (by simp) oi e
 item:=by
  intro X hP hw hK hc i pins s σ H E J hf st ⟨hd,hi⟩
  subst hP hw hK
  obtain⟨g0,g1,g2,g3,g4,g5⟩:=hf it (by simp)
  obtain⟨hs,hgd,hx,es',ep',hdt,hsz,ent⟩:=frzN J hd
  obtain⟨rfl,rfl⟩:=dict_ep hod hdt
  obtain⟨⟨k,v⟩,hkv⟩:∃p,ks[i]?=some p:=⟨ks[i],List.getElem?_eq_getElem hi⟩
  obtain⟨en,hen,hkey⟩:=ent i k v hkv
  refine next_key_item st hgd hdt hsz hen fun h' st' sb => ?_
  have J1:Inv X pins σ H {s with heap:=h'}:=J.turned (t':=s.toks) (fun b ob hb e=>(sb.2 b hb).trans e) g0 g1 g3 g4 g5
  obtain⟨oi,e,c,dd⟩:=id st'
  exact⟨en.key,rfl,go_of (s:={s with heap:=h'}) e c dd (by decide) ⟨v,H,J1,by rw[hkey];exact hr _ (List.mem_of_getElem? hkv),⟨rfl,k,hkv⟩,st',fun b hb=>(hf b hb).1⟩⟩
 done:=by
  intro X hP hw hK hc i pins s σ H E J hf st ⟨hd,hi⟩
  subst hP hw hK
  obtain⟨g0,g1,g2,g3,g4,g5⟩:=hf it (by simp)
  obtain⟨hs,hgd,hx,es',ep',hdt,hsz,ent⟩:=frzN J hd
  obtain⟨rfl,rfl⟩:=dict_ep hod hdt
  exact next_key_end (J.ok.hd hc) st hgd hdt hsz hi fun h' eb=>⟨rfl,J.turned (t':=s.toks) (fun b ob hb e=>eb b ob hb e) g0 g1 g3 g4 g5⟩
 self:=fun A i s Q E st h=>by
  refine wpAny_pyIter_slot st.typeIs F.slot_dict_keyiterator_iter (wpAny_call_entry F.slot_dict_keyiterator_iter st.typeIs F.entry_dict_keyiterator_iter ?_ (F.args_dict_keyiterator_iter_1 _))
  show wpAny _ _ (ret (.ref it)) _ _ s
  exact wpAny_pure ⟨_,rfl, "dict_keyiterator",_,st.typeIs,F.slot_dict_keyiterator_next.lookup,h⟩
def iKeysN (w:World) (td:TE):TI:=fun σ H R=>td σ H fun x H1=>∃d o ks,x=.ref d∧H1 d=some (.frz o (DN w d ks))∧(∀p∈ks,RelV p.2 (vv p.2))∧R (ItN d o w ks) H1
theorem pi_keysN {X:Cx} {w:World} {tg e:Expr} {td:TE} (he:PE X e td):PI X tg e (iKeysN w td):=by
 refine⟨fun pins s σ H R J h => ?_⟩
 refine thn (he.run pins s σ H _ J h) fun u s1 ⟨x,H1,J1,rx,d,o,ks,ex,hd,hr,q⟩ => ?_
 subst ex
 obtain rfl:u=Value.ref d:=rx
 obtain⟨hs,hgd,hx,es,ep,hdt,hsz,ent⟩:=frzN J1 hd
 refine iter_keys hs hgd hx hdt (pi_one (tk:=s1.toks) J1 _ (turn_keysN hr _ hdt) ⟨_,Heap.get?_push_size _ rfl,rfl,?_⟩ q)
 rw[hsz] <;> rfl
def ltS (x y:Str):Bool:=decide (x.cps.toList<y.cps.toList)
def lexS:List Str→List Str→Bool
|[],[]=>false
|[],_::_=>true
|_::_,[]=>false
|a::r,b::t=>if a=b then lexS r t else ltS a b
section
variable {prog:Program} {w:World} {A:Around} {E:Value→Shared→Prop} {s:Shared} {Q:Bool→Shared→Prop}
theorem oneLt_strs (c:Bool) {p q:Str} {t u:Tok} (h:Q (ltS p q) s):wpAny (model prog w) A (oneLt' c (.str p t) (.str q u)) Q E s:=by
 cases c with
|true=>exact oneLt_str h
|false=>exact PySem.W.kat_one _ _ (PyProof.Rows.lt_str (Q:=PySem.W.BoolBack Q) h)
theorem lex_strs {b:Bool}:∀{xs ys:List Str} {its jts:List Value} {i:Nat},Vals (xs.map V.str) its→Vals (ys.map V.str) jts→Q (lexS xs ys) s→PySem.W.KatLex prog w A b (decide (its.length<jts.length)) Q (its.zip jts) i s
|[],[],its,jts,i,h1,h2,h=>by cases h1;cases h2;exact PySem.W.kat_nil h
|[],_::_,its,jts,i,h1,h2,h=>by
  cases h1
  cases h2 with
 |cons r1 r2=>exact PySem.W.kat_nil (by simpa [lexS] using h)
|_::_,[],its,jts,i,h1,h2,h=>by
  cases h2
  cases h1 with
 |cons r1 r2=>exact PySem.W.kat_nil (by simpa [lexS] using h)
|x::xs,y::ys,its,jts,i,h1,h2,h=>by
  cases h1 with
 |@cons _ u _ us r1 r2=>
   cases h2 with
  |@cons _ v _ vs q1 q2=>
    obtain⟨t,rfl⟩:∃t,u=Value.str x t:=r1
    obtain⟨t',rfl⟩:∃t',v=Value.str y t':=q1
    rw[lexS] at h
    have el:decide ((Value.str x t::us).length<(Value.str y t'::vs).length)=decide (us.length<vs.length):=by simp
    rw[el]
    refine PySem.W.kat_cons (SeqAt.EqAt.str_str x t y t' prog w _ _ ?_)
    by_cases e:x=y
    ·rw[if_pos e] at h
     rw[show (x == y)=true by rw[e];simp]
     exact PySem.W.kat_yes (lex_strs r2 q2 h)
    ·rw[if_neg e] at h
     rw[show (x == y)=false from beq_eq_false_iff_ne.mpr e]
     exact PySem.W.kat_no (oneLt_strs _ h)
end
end Dn.H
namespace Dn.H
open PySem PySem.Spec L2 PyProof.Rows
structure Sto' {α:Type} (lt:α→α→Bool):Prop where
 irr:∀a,lt a a=false
 tot:∀a b,a≠b→lt a b = !lt b a
 tr:∀a b c,lt a b=true→lt b c=true→lt a c=true
section
variable {α:Type} {lt:α→α→Bool}
theorem Sto'.swo (h:Sto' lt):SrtO.Swo lt:=by
 refine⟨fun x y e => ?_,fun x y z e1 e2 => ?_⟩
 ·by_cases q:x=y
  ·subst q;rw[h.irr] at e;cases e
  ·rw[h.tot y x (Ne.symm q),e];rfl
 ·by_cases q:x=y
  ·subst q;exact e2
  ·by_cases q2:y=z
   ·subst q2;exact e1
   ·have a1:lt x y=true:=by rw[h.tot x y q,e1];rfl
    have a2:lt y z=true:=by rw[h.tot y z q2,e2];rfl
    have a3:=h.tr _ _ _ a1 a2
    by_cases q3:z=x
    ·subst q3;exact h.irr _
    ·rw[h.tot z x q3,a3];rfl
theorem Sto'.lex [DecidableEq α] (h:Sto' lt):Sto' (lexG lt):=by
 refine⟨fun a => ?_,fun a => ?_,fun a => ?_⟩
 ·induction a with
 |nil=>rfl
 |cons x r ih=>rw[lexG,if_pos rfl];exact ih
 ·induction a with
 |nil=>intro b hb;cases b with
  |nil=>exact absurd rfl hb
  |cons y t=>rfl
 |cons x r ih=>
   intro b hb
   cases b with
  |nil=>rfl
  |cons y t=>
    rw[lexG,lexG]
    by_cases q:x=y
    ·subst q
     rw[if_pos rfl,if_pos rfl]
     exact ih t fun z=>hb (by rw[z])
    ·rw[if_neg q,if_neg (Ne.symm q)]
     exact h.tot x y q
 ·induction a with
 |nil=>
   intro b c h1 h2
   cases b with
  |nil=>cases h1
  |cons y t=>cases c with
   |nil=>cases h2
   |cons z u=>rfl
 |cons x r ih=>
   intro b c h1 h2
   cases b with
  |nil=>cases h1
  |cons y t=>
    cases c with
   |nil=>cases h2
   |cons z u=>
     rw[lexG] at h1 h2 ⊢
     by_cases q:x=y
     ·subst q
      rw[if_pos rfl] at h1
      by_cases q2:x=z
      ·subst q2
       rw[if_pos rfl] at h2 ⊢
       exact ih t u h1 h2
      ·rw[if_neg q2] at h2 ⊢
       exact h2
     ·rw[if_neg q] at h1
      by_cases q2:y=z
      ·subst q2
       rw[if_neg q]
       exact h1
      ·rw[if_neg q2] at h2
       have a3:=h.tr _ _ _ h1 h2
       by_cases q3:x=z
       ·subst q3
        rw[h.irr] at a3
        cases a3
       ·rw[if_neg q3]
        exact a3
theorem insG_perm (x:α):∀l:List α,(insG lt x l).Perm (x::l)
|[]=>List.Perm.refl _
|y::t=>by
  rw[insG]
  by_cases c:lt y x=true
  ·rw[if_pos c]
   exact ((insG_perm x t).cons y).trans (List.Perm.swap x y t)
  ·rw[if_neg c]
theorem srtG_perm:∀l:List α,(srtG lt l).Perm l
|[]=>List.Perm.refl _
|x::r=>by rw[srtG];exact (insG_perm x _).trans ((srtG_perm r).cons x)
theorem insG_srtd (O:SrtO.Swo lt) (x:α):∀{l:List α},SrtO.Srtd lt l→SrtO.Srtd lt (insG lt x l)
|[],_=>List.pairwise_singleton _ _
|y::t,h=>by
  rw[insG]
  obtain⟨h1,h2⟩:=List.pairwise_cons.mp h
  by_cases c:lt y x=true
  ·rw[if_pos c]
   refine List.pairwise_cons.mpr ⟨fun z hz => ?_,insG_srtd O x h2⟩
   rcases List.mem_cons.mp ((insG_perm x t).mem_iff.mp hz) with rfl|q
   ·exact O.asym _ _ c
   ·exact h1 z q
  ·rw[if_neg c]
   have c:lt y x=false:=by simpa using c
   refine List.pairwise_cons.mpr ⟨fun z hz => ?_,h⟩
   rcases List.mem_cons.mp hz with rfl|q
   ·exact c
   ·exact O.tr _ _ _ c (h1 z q)
theorem srtG_srtd (O:SrtO.Swo lt):∀l:List α,SrtO.Srtd lt (srtG lt l)
|[]=>List.Pairwise.nil
|x::r=>by rw[srtG];exact insG_srtd O x (srtG_srtd O r)
theorem Sto'.stb (h:Sto' lt) {l m:List α} (p:l.Perm m):SrtO.Stb lt l m:=by
 refine⟨p,fun x => ?_⟩
 have key:∀k:List α,k.filter (SrtO.eqv lt x)=List.replicate (k.filter (SrtO.eqv lt x)).length x:=fun k=>by
  rw[List.eq_replicate_iff]
  refine⟨rfl,fun y hy => ?_⟩
  obtain⟨e1,e2⟩:=SrtO.eqv_iff.mp (List.mem_filter.mp hy).2
  by_cases q:y=x
  ·exact q
  ·have:=h.tot y x q
   rw[e1,e2] at this
   cases this
 rw[key l,key m,(p.filter _).length_eq]
theorem Sto'.uniq (h:Sto' lt) {l m:List α} (hl:SrtO.Srtd lt l) (p:l.Perm m):l=srtG lt m:=
 SrtO.stb_uniq h.swo hl (srtG_srtd h.swo m) (h.stb (p.trans (srtG_perm m).symm))
end
theorem sto_nat:Sto' (fun a b:Nat=>decide (a<b)):=⟨fun a=>by simp,fun a b h=>by
 rcases Nat.lt_or_gt_of_ne h with q|q
 ·rw[decide_eq_true q,decide_eq_false (by omega:¬b<a)];rfl
 ·rw[decide_eq_true (show b<a from q),decide_eq_false (by omega:¬a<b)];rfl,fun a b c h1 h2=>by
 have h1:=of_decide_eq_true h1
 have h2:=of_decide_eq_true h2
 exact decide_eq_true (by omega)⟩
theorem sto_int:Sto' ltI:=⟨fun a=>by simp,fun a b h=>by
 show decide (a<b) = !decide (b<a)
 rcases Int.lt_or_gt_of_ne h with q|q
 ·rw[decide_eq_true q,decide_eq_false (by omega:¬b<a)];rfl
 ·rw[decide_eq_true (show b<a from q),decide_eq_false (by omega:¬a<b)];rfl,fun a b c h1 h2=>by
 have h1:=of_decide_eq_true h1
 have h2:=of_decide_eq_true h2
 exact decide_eq_true (by omega)⟩
theorem ltN_eq:∀x y:List Nat,ltN x y=decide (x<y)
|[],[]=>by simp[lexG]
|[],_::_=>by simp[lexG]
|_::_,[]=>by simp[lexG]
|a::r,b::t=>by
  show (if a=b then lexG _ r t else decide (a<b))=_
  have ih:lexG (fun a b:Nat=>decide (a<b)) r t=decide (r<t):=ltN_eq r t
  by_cases q:a=b
  ·subst q
   rw[if_pos rfl,ih]
   simp[List.cons_lt_cons_iff]
  ·rw[if_neg q]
   simp[List.cons_lt_cons_iff,q]
theorem sto_lexN:Sto' lexN:=sto_nat.lex.lex
abbrev tx' (x:List Nat):Str:=⟨x.toArray⟩
theorem lexN_eq:∀x y:List (List Nat),lexN x y=lexS (x.map tx') (y.map tx')
|[],[]=>rfl
|[],_::_=>rfl
|_::_,[]=>rfl
|a::r,b::t=>by
  show (if a=b then lexG _ r t else ltN a b)=(if tx' a=tx' b then lexS (r.map tx') (t.map tx') else ltS (tx' a) (tx' b))
  have ih:lexG ltN r t=lexS (r.map tx') (t.map tx'):=lexN_eq r t
  by_cases q:a=b
  ·subst q
   rw[if_pos rfl,if_pos rfl,ih]
  ·have q2:¬tx' a=tx' b:=fun z=>q (by simpa using congrArg (fun s:Str=>s.cps.toList) z)
   rw[if_neg q,if_neg q2,ltN_eq] <;> rfl
section
variable {X:Cx}
abbrev PT2:=V×List (List Nat)
def rSortedX (K:PySem.W.Frag):List V→Hp→VK→Prop:=fun vs H Q=>∃(a:Addr) (ps:List PT2),vs=[V.ref a]∧SqL K H a (ps.map (·.1))∧(∀p∈ps,∃t,p.1=V.ref t∧p.2≠[]∧SqT K H t ((p.2.map tx').map V.str)) ∧
 ∀(qs:List PT2) (p:Addr),qs.Perm ps→qs.map (·.2)=srtG lexN (ps.map (·.2))→H p=none→Q (.ref p) (L2.upd H p (.lst (qs.map (·.1))))
theorem tx_map_inj {a b:List (List Nat)} (h:(a.map tx').map V.str=(b.map tx').map V.str):a=b:=by
 rw[List.map_map,List.map_map] at h
 refine (List.map_inj_right fun x y e => ?_).mp h
 have e:V.str (tx' x)=V.str (tx' y):=e
 have e:=V.str.inj e
 simpa using congrArg (fun s:Str=>s.cps.toList) e
def keyOf (ps:List PT2) (u:Value):List (List Nat):=match ps.find? fun p=>decide (vv p.1=u) with
|some p=>p.2
|none=>[]
theorem firstsX {h:Heap} {k:Value→List (List Nat)}:∀{vs:List Value},(∀v∈vs,k v≠[]∧∃a o its n,v=Value.ref a∧h.get? a=some o∧o.cls=.type "tuple"∧o.data=.seq its n∧Vals (((k v).map tx').map V.str) its.toList) →
  ∃fs:List Value,PySem.W.KatTups h vs fs∧fs.length=vs.length∧∀f∈fs,∃x t,f=Value.str x t
|[],_=>⟨[],PySem.W.KatTups.nil,rfl,fun _ m=>by simp at m⟩
|v::vs,hp=>by
  obtain⟨fs,a1,a2,a3⟩:=firstsX (k:=k) (vs:=vs) fun u m=>hp u (List.mem_cons_of_mem _ m)
  obtain⟨ne,a,o,its,n,rfl,ho,hc,hd,hv⟩:=hp v List.mem_cons_self
  obtain⟨y,ys,ek⟩:∃y ys,k (Value.ref a)=y::ys:=by
   cases q:k (Value.ref a) with
  |nil=>exact absurd q ne
  |cons y ys=>exact⟨y,ys,rfl⟩
  rw[ek] at hv
  obtain⟨l⟩:=its
  cases hv with
 |@cons _ u _ us r1 r2=>
   obtain⟨t,rfl⟩:∃t,u=Value.str (tx' y) t:=r1
   refine⟨.str (tx' y) t::fs,PySem.W.KatTups.cons ho hc hd (by simp) a1,by rw[List.length_cons,List.length_cons,a2],fun f m => ?_⟩
   rcases List.mem_cons.mp m with rfl|m
   ·exact⟨_,_,rfl⟩
   ·exact a3 f m
theorem cr_sortedX:CallR X (.builtin "sorted") (rSortedX X.K):=by
 intro pins s σ H vs us Q J r h
 obtain⟨a,ps,rfl,hs,hx,q⟩:=h
 obtain⟨its,rv,hl,hz⟩:=J.list hs
 obtain⟨u,rfl,ru⟩:=vals1 r
 obtain rfl:u=Value.ref a:=ru
 have e0:∀p∈ps,∃t,p.1=V.ref t:=fun p m=>let ⟨t,e,_⟩:=hx p m;⟨t,e⟩
 obtain⟨e1,e2⟩:=refs_back rv fun x m=>by
  obtain⟨p,m2,rfl⟩:=List.mem_map.mp m
  exact e0 p m2
 have eits:ps.map (fun p=>vv p.1)=its:=by
  have z:(ps.map (·.1)).map vv=(its.map backV).map vv:=by rw[e1]
  rw[List.map_map,List.map_map] at z
  refine Eq.trans z ?_
  conv=>rhs;rw[←List.map_id its]
  refine List.map_congr_left fun u m => ?_
  obtain⟨b,rfl⟩:=e2 u m
  rfl
 have kk:∀p∈ps,keyOf ps (vv p.1)=p.2:=fun p m=>by
  unfold keyOf
  cases e:ps.find? fun p'=>decide (vv p'.1=vv p.1) with
 |none=>exact absurd (List.find?_eq_none.mp e p m) (by simp)
 |some p'=>
   have m':=List.mem_of_find?_eq_some e
   have e3:vv p'.1=vv p.1:=of_decide_eq_true (List.find?_some (p:=fun p':PT2=>decide (vv p'.1=vv p.1)) e)
   obtain⟨t,f1,_,f2⟩:=hx p m
   obtain⟨t',g1,_,g2⟩:=hx p' m'
   rw[f1,g1] at e3
   have e3:t'=t:=by cases e3;rfl
   subst e3
   exact tx_map_inj (J.tuple_inj g2 f2)
 have ktup:∀v∈its,keyOf ps v≠[]∧∃a o its' n,v=Value.ref a∧s.heap.get? a=some o∧o.cls=.type "tuple"∧o.data=.seq its' n∧Vals (((keyOf ps v).map tx').map V.str) its'.toList:=fun v m=>by
  rw[←eits] at m
  obtain⟨p,m2,rfl⟩:=List.mem_map.mp m
  obtain⟨t,f1,ne,f2⟩:=hx p m2
  obtain⟨l,rl,⟨o,ho,hc,n,hd⟩,_⟩:=J.tuple f2
  refine⟨by rw[kk p m2];exact ne,t,o,l.toArray,n,by rw[f1];rfl,ho,hc,hd,?_⟩
  rw[kk p m2]
  exact rl
 have O:SrtO.Swo fun u v:Value=>lexN (keyOf ps u) (keyOf ps v):=⟨fun x y=>sto_lexN.swo.asym _ _,fun x y z=>sto_lexN.swo.tr _ _ _⟩
 refine SrtO.sorted_ord O hl.isList (by rw[←rv.length];exact hz) (fun h2 h₁ b hb kb h' keep => ?_) fun out h1 h2 => ?_
 ·have old:∀c o,s.heap.get? c=some o→h'.get? c=some o:=fun c o e=>keep c o (kb c o e).1 (kb c o e).2
  have ktup':∀v∈its,keyOf ps v≠[]∧∃a o its' n,v=Value.ref a∧h'.get? a=some o∧o.cls=.type "tuple"∧o.data=.seq its' n∧Vals (((keyOf ps v).map tx').map V.str) its'.toList:=fun v m=>by
   obtain⟨ne,a,o,its',n,f1,f2,f3⟩:=ktup v m
   exact⟨ne,a,o,its',n,f1,old a o f2,f3⟩
  obtain⟨fs,f1,f2,f3⟩:=firstsX ktup'
  refine⟨tuples' true,fun Q E hq => ?_,fun p q hm hm' => ?_⟩
  ·refine PySem.W.kat_kind (T:=.type "str") f1 (by omega) (fun f m => ?_) (by rfl) ?_
   ·obtain⟨x,t,rfl⟩:=f3 f m
    exact PySem.W.Looks.now
   ·rw[show (Value.type "str" != Value.type "tuple")=true by first|decide +kernel|rfl|decide]
    exact hq
  ·obtain⟨ne,a1,o1,i1,n1,g1,g2,g3,g4,g5⟩:=ktup' _ hm
   obtain⟨ne',a2,o2,i2,n2,k1,k2,k3,k4,k5⟩:=ktup' _ hm'
   show wpAny (model X.prog X.w) _ (keyLt' (tuples' true) p.1 q.1) (fun r s'=>s'=_∧r=lexN (keyOf ps p.1) (keyOf ps q.1)) (fun _ _=>False) _
   rw[lexN_eq]
   rw[g1] at g5 ⊢
   rw[k1] at k5 ⊢
   refine PySem.W.kat_lt g2 g4 k2 k4 ?_
   rw[←Array.length_toList,←Array.length_toList]
   exact lex_strs g5 k5 ⟨rfl,rfl⟩
 ·obtain⟨qs,p1,p2⟩:=perm_lift (fun p:PT2=>vv p.1) h2.perm ps eits
  have h3:∀u∈out,∃a,u=Value.ref a:=fun u hu=>e2 u (h2.perm.mem_iff.mp hu)
  obtain⟨n,hn⟩:=sortedAll_at s.heap its out.toArray
  have eb:qs.map (·.1)=out.map backV:=by
   rw[←p2,List.map_map]
   refine List.map_congr_left fun p m => ?_
   obtain⟨t,e⟩:=e0 p (p1.mem_iff.mp m)
   show p.1=backV (vv p.1)
   rw[e] <;> rfl
  have es:qs.map (·.2)=srtG lexN (ps.map (·.2)):=by
   refine sto_lexN.uniq ?_ (p1.map _)
   refine List.pairwise_map.mpr ?_
   rw[←p2] at h1
   refine (List.pairwise_map.mp h1).imp_of_mem fun {x y} mx my hxy => ?_
   have hxy:lexN (keyOf ps (vv y.1)) (keyOf ps (vv x.1))=false:=hxy
   rw[kk x (p1.mem_iff.mp mx),kk y (p1.mem_iff.mp my)] at hxy
   exact hxy
  have hd:s.heap.objs.size≤s.heap.objs.size+1:=Nat.le_succ _
  refine⟨.ref (s.heap.objs.size+1),L2.upd H (s.heap.objs.size+1) (.lst (qs.map (·.1))),J.laid (t':=s.toks) (fun b o e=>sortedAll_old e) hd ⟨?_,out,n,by rw[eb];exact vals_back h3,hn⟩,rfl,q qs _ p1 es (J.hok.fresh hd)⟩
  have hz2:(ps.map (·.1)).length≤sizeLine:=hz
  rw[List.length_map] at hz2 ⊢
  rw[p1.length_eq]
  exact hz2
end
end Dn.H
namespace Dn
open PySem L2
theorem ixN_eq (n:Nat) (i:Int):Dn.ixN n i=L2.ixN n i:=rfl
theorem sIx_eq (n d:Nat) (o:Option Int):Dn.sIx n d o=HT.sIx n d o:=by cases o <;> rfl
section
variable {K:PySem.W.Frag} {m:List Addr} {H:Hp} {st:Sto}
theorem atS {ds:List D} {vs:List V} (r:VRs K m H ds vs) {i:Int} {d:D} (h:Dn.atI ds i=some d):∃v,L2.atI vs i=some v∧VR K m H d v:=by
 unfold Dn.atI at h
 unfold L2.atI
 rw[←r.length,←ixN_eq]
 cases e:Dn.ixN ds.length i with
|none=>rw[e] at h;cases h
|some j=>
  rw[e] at h
  exact r.get h
theorem cutS' {ds:List D} {vs:List V} (r:VRs K m H ds vs) (lo hi:Option Int):VRs K m H (cut ds lo hi) (cutV vs lo hi):=by
 unfold cut cutV
 rw[r.length,sIx_eq,sIx_eq]
 exact (r.drop _).take _
theorem ix_ok:BinF false K ixOp (rIx K):=by
 intro W σ m H st x y u v Q rl hx hy h
 cases y with
|int i=>
  cases hy
  have go:∀{xs:List D} {st1:Sto},listOf x st=.ok xs st1→Post (aV K false) K W σ m H (match Dn.atI xs i with
   |some d=>.ok d st
   |none=>.no) Q→rIx K u (.int i) H Q:=by
   intro xs st1 e h2
   obtain⟨a,vs,rfl,s,r,_⟩:=listS hx rl e
   cases q:Dn.atI xs i with
  |none=>rw[q] at h2;exact h2.elim
  |some d=>
    rw[q] at h2
    obtain⟨w,e1,e2⟩:=atS r q
    exact .inl ⟨a,vs,i,w,rfl,rfl,s,e1,h2.any rl e2⟩
  cases x with
 |str z=>
   cases hx
   obtain⟨hz,h⟩:=if_post h
   cases q:Dn.atI z i with
  |none=>rw[q] at h;exact h.elim
  |some c=>
    rw[q] at h
    refine .inr (.inr ⟨_,i,c,rfl,rfl,?_,?_,?_⟩)
    ·simpa [Str.length] using szOk_line hz
    ·unfold Dn.atI at q
     unfold L2.atI
     simpa [ixN_eq] using q
    ·exact h.any rl (.str [c])
 |tup xs=>
   obtain⟨a,vs,rfl,s,r⟩:=hx.tupS
   change Post _ _ _ _ _ _ (match Dn.atI xs i with
   |some d=>.ok d st
   |none=>.no) Q at h
   cases q:Dn.atI xs i with
  |none=>rw[q] at h;exact h.elim
  |some d=>
    rw[q] at h
    obtain⟨w,e1,e2⟩:=atS r q
    exact .inr (.inl ⟨a,vs,i,w,rfl,rfl,s,e1,h.any rl e2⟩)
 |lst xs=>exact go (st1:=st) rfl h
 |fz xs=>exact go (st1:=st) rfl h
 |ref n=>
   have h:Post (aV K false) K W σ m H (match listOf (.ref n) st with
   |.ok xs _=>(match Dn.atI xs i with
    |some d=>.ok d st
    |none=>.no)
   |_=>.no) Q:=h
   cases e:listOf (.ref n) st with
  |ok xs st1=>rw[e] at h;exact go e h
  |_=>rw[e] at h;exact h.elim
 |_=>simp[ixOp,listOf,Post] at h
|_=>cases x <;> simp[ixOp,listOf,Post] at h
def rSl (K:PySem.W.Frag):V→Option Int→Option Int→Hp→VK→Prop:=fun x lo hi H Q=>rSlS x lo hi H Q∨(DnU.rSlF K x lo hi H Q∨rSlL K x lo hi H Q)
theorem sl_all {X:Cx}:SlR X (rSl X.K):=sl_str.or (DnU.sl_tupF.or sl_list)
theorem sl_ok {W:WX} {σ:L2.St} {x:D} {u:V} {lo hi:Option Int} {Q:VK} (rl:Rl K m H st) (hx:VR K m H x u) (h:Post (aV K true) K W σ m H (slOp x lo hi st) Q):rSl K u lo hi H Q:=by
 have go:∀{xs:List D} {st1:Sto},listOf x st=.ok xs st1→Post (aV K true) K W σ m H (.ok (.lst (cut xs lo hi)) st) Q→rSl K u lo hi H Q:=by
  intro xs st1 e h2
  obtain⟨a,vs,rfl,s,r,_⟩:=listS hx rl e
  exact .inr (.inr ⟨a,vs,rfl,s,fun p hp=>h2.newL rl hp (cutS' r lo hi)⟩)
 cases x with
|str z=>
  cases hx
  obtain⟨hz,h⟩:=if_post h
  refine .inl ⟨_,rfl,by simpa [Str.length] using szOk_line hz,?_⟩
  have e:cutS (tx z) lo hi=tx (cut z lo hi):=by
   unfold cutS cut
   simp only[Str.length,List.size_toArray,sIx_eq]
  rw[e]
  exact h.val rl (.str _) (by simp)
|tup xs=>
  obtain⟨a,vs,rfl,s,r⟩:=hx.tupS
  refine .inr (.inl ⟨a,vs,rfl,s,fun hw => ?_,fun _ p us hp=>h.newT rl hp (cutS' r lo hi)⟩)
  have e:cut xs lo hi=xs:=by
   unfold cut
   rw[sIx_eq,sIx_eq,r.length,hw.1,hw.2,List.drop_zero,Nat.sub_zero,←r.length,List.take_length]
  have h:Post (aV K true) K W σ m H (.ok (.tup (cut xs lo hi)) st) Q:=h
  rw[e] at h
  exact h.val rl hx (by simp)
|lst xs=>exact go (st1:=st) rfl h
|fz xs=>exact go (st1:=st) rfl h
|ref n=>
  have h:Post (aV K true) K W σ m H (match listOf (.ref n) st with
  |.ok xs _=>.ok (.lst (cut xs lo hi)) st
  |_=>.no) Q:=h
  cases e:listOf (.ref n) st with
 |ok xs st1=>rw[e] at h;exact go e h
 |_=>rw[e] at h;exact h.elim
|_=>simp[slOp,listOf,Post] at h
end
def CalD (fr:Bool) (K:PySem.W.Frag) (g:List D→M D) (r:List V→Hp→VK→Prop):Prop:=∀(W:WX) (σ:L2.St) (m:List Addr) (H:Hp) (st:Sto) (ds:List D) (vs:List V) (Q:VK),
 Rl K m H st→VRs K m H ds vs→Post (aV K fr) K W σ m H (g ds st) Q→r vs H Q
def Bi.name:Bi→Str
|.len => "len"|.sum => "sum"|.all => "all"|.any => "any"|.min => "min"|.max => "max"|.str => "str"|.int => "int"|.list => "list"|.tuple => "tuple"|.sorted => "sorted"
def Bi.val:Bi→Value
|.len=>.builtin "len"|.sum=>.builtin "sum"|.all=>.builtin "all"|.any=>.builtin "any"|.min=>.builtin "min"|.max=>.builtin "max"|.str=>.type "str"|.int=>.type "int"|.list=>.type "list"|.tuple=>.type "tuple"|.sorted=>.builtin "sorted"
theorem Bi.boot (b:Bi):bootBuiltins b.name=some b.val:=by cases b <;> decide +kernel
theorem vrs1 {K:PySem.W.Frag} {m:List Addr} {H:Hp} {d:D} {vs:List V} (h:VRs K m H [d] vs):∃v,vs=[v]∧VR K m H d v:=by
 cases h with
|cons a b=>cases b;exact⟨_,rfl,a⟩
theorem vrs2 {K:PySem.W.Frag} {m:List Addr} {H:Hp} {d e:D} {vs:List V} (h:VRs K m H [d,e] vs):∃v w,vs=[v,w]∧VR K m H d v∧VR K m H e w:=by
 cases h with
|cons a b=>
  obtain⟨w,rfl,r⟩:=vrs1 b
  exact⟨_,w,rfl,a,r⟩
theorem showInt_tx (i:Int):Str.ofString (toString i)=tx (showInt i):=by
 rw[Str.ofString_eq_toList] <;> rfl
theorem intText_one {c:Nat} (h1:48≤c) (h2:c<58):PySem.intText? (tx [c])=some ((c:Int) - 48):=by
 have:∀k:Fin 10,PySem.intText? (tx [48+k.val])=some (((48+k.val:Nat):Int) - 48):=by decide +kernel
 have h:=this ⟨c - 48,by omega⟩
 simpa [show 48+(c - 48)=c by omega] using h
theorem cr_or {X:Cx} {c:Value} {r r':List V→Hp→VK→Prop} (h1:CallR X c r) (h2:CallR X c r'):CallR X c (fun vs H Q=>r vs H Q∨r' vs H Q):=by
 intro pins s σ H vs us Q J q e
 rcases e with e|e
 ·exact h1 pins s σ H vs us Q J q e
 ·exact h2 pins s σ H vs us Q J q e
theorem vrs_signs {K:PySem.W.Frag} {m:List Addr} {H:Hp}:∀x:List Nat,VRs K m H (x.map fun c=>D.str [c]) ((tx x).cps.toList.map fun c=>V.str ⟨#[c]⟩)
|[]=>.nil
|c::r=>.cons (.str [c]) (vrs_signs r)
theorem alls_strT:∀xs:List (List Nat),alls isStr (xs.map D.str)=some xs
|[]=>rfl
|x::xs=>by rw[List.map_cons,alls,alls_strT xs] <;> rfl
theorem alls_strE:∀{ds:List D} {xs:List (List Nat)},alls isStr ds=some xs→ds=xs.map .str
|[],xs,h=>by
  rw[alls] at h
  cases h
  rfl
|d::ds,xs,h=>by
  rw[alls] at h
  cases hd:isStr d with
 |none=>rw[hd] at h;cases h
 |some x=>
   cases hr:alls isStr ds with
  |none=>rw[hd,hr] at h;cases h
  |some ys=>
    rw[hd,hr] at h
    cases h
    have e:d=.str x:=by cases d <;> first|(cases hd;done)|(cases hd;rfl)
    rw[e,alls_strE hr,List.map_cons]
theorem alls_tupT:∀{xs:List D} {ks:List (List (List Nat))},alls tupT xs=some ks→xs=ks.map tupD∧∀k∈ks,k≠[]
|[],ks,h=>by
  rw[alls] at h
  cases h
  exact⟨rfl,fun _ h=>nomatch h⟩
|d::xs,ks,h=>by
  rw[alls] at h
  cases hd:tupT d with
 |none=>rw[hd] at h;cases h
 |some x=>
   cases hr:alls tupT xs with
  |none=>rw[hd,hr] at h;cases h
  |some ys=>
    rw[hd,hr] at h
    cases h
    obtain⟨h1,h2⟩:=alls_tupT hr
    have e:d=tupD x∧x≠[]:=by
     cases d with
    |tup ds=>
      rw[tupT] at hd
      cases ha:alls isStr ds with
     |none=>rw[ha] at hd;cases hd
     |some zs=>
       rw[ha] at hd
       cases zs with
      |nil=>cases hd
      |cons z zs=>
        cases hd
        exact⟨by rw[tupD,←alls_strE ha],List.cons_ne_nil _ _⟩
    |_=>cases hd
    refine⟨by rw[e.1,h1] <;> rfl,fun k hk => ?_⟩
    rcases List.mem_cons.mp hk with rfl|hk
    ·exact e.2
    ·exact h2 k hk
theorem vrs_zip {K:PySem.W.Frag} {m:List Addr} {H:Hp}:∀{ks:List (List (List Nat))} {us:List V},VRs K m H (ks.map tupD) us→∀p∈us.zip ks,p.2∈ks∧VR K m H (tupD p.2) p.1
|[],us,h,p,hp=>by simp at hp
|k::ks,us,h,p,hp=>by
  cases h with
 |@cons _ u _ us a b=>
   rw[List.zip_cons_cons] at hp
   rcases List.mem_cons.mp hp with rfl|hp
   ·exact⟨List.mem_cons_self ..,a⟩
   ·obtain⟨q1,q2⟩:=vrs_zip b p hp
    exact⟨List.mem_cons_of_mem _ q1,q2⟩
theorem vrs_mapT {K:PySem.W.Frag} {m:List Addr} {H:Hp} {α:Type} {f:α→D} {g:α→V}:∀{l:List α},(∀x∈l,VR K m H (f x) (g x))→VRs K m H (l.map f) (l.map g)
|[],_=>.nil
|x::r,h=>.cons (h x (List.mem_cons_self ..)) (vrs_mapT fun y hy=>h y (List.mem_cons_of_mem _ hy))
theorem bi_ok (X:Cx) (hc:X.calm=true) (b:Bi):∃r,CallR X b.val r∧CalD true X.K (biOp b) r:=by
 have lst:∀{W:WX} {σ:L2.St} {m:List Addr} {H:Hp} {st:Sto} {x:D} {k:List D→R D} {Q:VK},Post (aV X.K true) X.K W σ m H (match listOf x st with
  |.ok xs _=>k xs
  |_=>.no) Q→∃xs,listOf x st=.ok xs st∧Post (aV X.K true) X.K W σ m H (k xs) Q:=by
  intro W σ m H st x k Q h
  cases e:listOf x st with
 |ok xs st1=>
   rw[e] at h
   have:=listOf_st e
   subst this
   exact⟨xs,rfl,h⟩
 |_=>rw[e] at h;exact h.elim
 cases b with
|len=>
  refine⟨_,call_len,?_⟩
  intro W σ m H st ds vs Q rl hv h
  have go:∀x:D,ds=[x]→Post (aV X.K true) X.K W σ m H (match listOf x st with
  |.ok xs _=>.ok (.int xs.length) st
  |_=>.no) Q→∃x n,vs=[x]∧LenV X.K x H n∧Q (.int n) H:=fun x ex h2=>by
   clear h
   subst ex
   obtain⟨v,rfl,r⟩:=vrs1 hv
   obtain⟨xs,e,h⟩:=lst h2
   obtain⟨a,us,rfl,s,r2,_⟩:=listS r rl e
   exact⟨_,_,rfl,.inl ⟨us,s,rfl⟩,by rw[←r2.length];exact h.val rl (.int _) (by simp)⟩
  match ds,hv,h with
 |[.str x],hv,h=>
   obtain⟨v,rfl,r⟩:=vrs1 hv
   cases r
   obtain⟨hz,h⟩:=if_post h
   refine⟨_,x.length,rfl,⟨?_,?_⟩,h.val rl (.int _) (by simp)⟩
   ·simpa [Str.length] using szOk_line hz
   ·simp[Str.length]
 |[.tup x],hv,h=>
   obtain⟨v,rfl,r⟩:=vrs1 hv
   obtain⟨a,us,rfl,s,r2⟩:=r.tupS
   exact⟨_,_,rfl,.inr ⟨us,s,rfl⟩,by rw[←r2.length];exact h.val rl (.int _) (by simp)⟩
 |[.lst x],hv,h=>exact go _ rfl h
 |[.fz x],hv,h=>exact go _ rfl h
 |[.ref x],hv,h=>exact go _ rfl h
 |[.non],hv,h=>simp[biOp,listOf,Post] at h
 |[.bl _],hv,h=>simp[biOp,listOf,Post] at h
 |[.int _],hv,h=>simp[biOp,listOf,Post] at h
 |[],hv,h=>simp[biOp,Post] at h
 |_::_::_,hv,h=>simp[biOp,Post] at h
|sum=>
  refine⟨_,cr_sum hc,?_⟩
  intro W σ m H st ds vs Q rl hv h
  match ds,hv,h with
 |[x],hv,h=>
   obtain⟨v,rfl,r⟩:=vrs1 hv
   obtain⟨xs,e,h⟩:=lst h
   obtain⟨a,us,rfl,s,r2,_⟩:=listS r rl e
   cases q:alls isInt xs with
  |none=>rw[q] at h;exact h.elim
  |some ns=>
    rw[q] at h
    have:=r2.ints q
    subst this
    exact⟨a,ns,rfl,s,h.val rl (.int _) (by simp)⟩
 |[],hv,h=>simp[biOp,Post] at h
 |_::_::_,hv,h=>simp[biOp,Post] at h
|all=>
  refine⟨_,cr_all hc,?_⟩
  intro W σ m H st ds vs Q rl hv h
  match ds,hv,h with
 |[x],hv,h=>
   obtain⟨v,rfl,r⟩:=vrs1 hv
   obtain⟨xs,e,h⟩:=lst h
   obtain⟨a,us,rfl,s,r2,_⟩:=listS r rl e
   cases q:alls isBl xs with
  |none=>rw[q] at h;exact h.elim
  |some ns=>
    rw[q] at h
    have:=r2.bls q
    subst this
    exact⟨a,ns,rfl,s,h.val rl (.bl _) (by simp)⟩
 |[],hv,h=>simp[biOp,Post] at h
 |_::_::_,hv,h=>simp[biOp,Post] at h
|any=>
  refine⟨_,cr_any hc,?_⟩
  intro W σ m H st ds vs Q rl hv h
  match ds,hv,h with
 |[x],hv,h=>
   obtain⟨v,rfl,r⟩:=vrs1 hv
   obtain⟨xs,e,h⟩:=lst h
   obtain⟨a,us,rfl,s,r2,_⟩:=listS r rl e
   cases q:alls isBl xs with
  |none=>rw[q] at h;exact h.elim
  |some ns=>
    rw[q] at h
    have:=r2.bls q
    subst this
    exact⟨a,ns,rfl,s,h.val rl (.bl _) (by simp)⟩
 |[],hv,h=>simp[biOp,Post] at h
 |_::_::_,hv,h=>simp[biOp,Post] at h
|min=>
  refine⟨_,call_min2 hc,?_⟩
  intro W σ m H st ds vs Q rl hv h
  match ds,hv,h with
 |[.int i,.int j],hv,h=>
   obtain⟨v,w,rfl,r1,r2⟩:=vrs2 hv
   cases r1;cases r2
   exact⟨i,j,rfl,h.val rl (.int _) (by simp)⟩
 |[],hv,h=>simp[biOp,Post] at h
 |[_],hv,h=>simp[biOp,Post] at h
 |a::b::_::_,hv,h=>cases a <;> cases b <;> simp[biOp,Post] at h
 |[.int _,.non],hv,h|[.int _,.bl _],hv,h|[.int _,.str _],hv,h|[.int _,.tup _],hv,h|[.int _,.lst _],hv,h|[.int _,.fz _],hv,h|[.int _,.ref _],hv,h=>simp[biOp,Post] at h
 |[.non,_],hv,h|[.bl _,_],hv,h|[.str _,_],hv,h|[.tup _,_],hv,h|[.lst _,_],hv,h|[.fz _,_],hv,h|[.ref _,_],hv,h=>simp[biOp,Post] at h
|max=>
  refine⟨_,call_max2 hc,?_⟩
  intro W σ m H st ds vs Q rl hv h
  match ds,hv,h with
 |[.int i,.int j],hv,h=>
   obtain⟨v,w,rfl,r1,r2⟩:=vrs2 hv
   cases r1;cases r2
   exact⟨i,j,rfl,h.val rl (.int _) (by simp)⟩
 |[],hv,h=>simp[biOp,Post] at h
 |[_],hv,h=>simp[biOp,Post] at h
 |a::b::_::_,hv,h=>cases a <;> cases b <;> simp[biOp,Post] at h
 |[.int _,.non],hv,h|[.int _,.bl _],hv,h|[.int _,.str _],hv,h|[.int _,.tup _],hv,h|[.int _,.lst _],hv,h|[.int _,.fz _],hv,h|[.int _,.ref _],hv,h=>simp[biOp,Post] at h
 |[.non,_],hv,h|[.bl _,_],hv,h|[.str _,_],hv,h|[.tup _,_],hv,h|[.lst _,_],hv,h|[.fz _,_],hv,h|[.ref _,_],hv,h=>simp[biOp,Post] at h
|str=>
  refine⟨_,call_str_int.or SkE.call_str_str,?_⟩
  intro W σ m H st ds vs Q rl hv h
  match ds,hv,h with
 |[.str x],hv,h=>
   obtain⟨v,rfl,r⟩:=vrs1 hv
   cases r
   exact .inr ⟨_,rfl,h.val rl (.str _) (by simp)⟩
 |[.int i],hv,h=>
   obtain⟨v,rfl,r⟩:=vrs1 hv
   cases r
   obtain⟨hz,h⟩:=if_post h
   have hz:=of_decide_eq_true hz
   refine .inl ⟨i,rfl,?_,?_⟩
   ·by_cases h0:i.natAbs=0
    ·rw[h0];decide
    ·have:=(Nat.log2_lt h0).mpr hz
     omega
   ·rw[showInt_tx]
    exact h.val rl (.str _) (by simp)
 |[],hv,h=>simp[biOp,Post] at h
 |_::_::_,hv,h=>simp[biOp,Post] at h
 |[.non],hv,h|[.bl _],hv,h|[.tup _],hv,h|[.lst _],hv,h|[.fz _],hv,h|[.ref _],hv,h=>simp[biOp,Post] at h
|int=>
  refine⟨_,call_int1.or call_int_str,?_⟩
  intro W σ m H st ds vs Q rl hv h
  match ds,hv,h with
 |[.int i],hv,h=>
   obtain⟨v,rfl,r⟩:=vrs1 hv
   cases r
   exact .inl (.inl ⟨i,rfl,h.val rl (.int _) (by simp)⟩)
 |[.bl i],hv,h=>
   obtain⟨v,rfl,r⟩:=vrs1 hv
   cases r
   exact .inl (.inr ⟨i,rfl,h.val rl (.int _) (by simp)⟩)
 |[.str [c]],hv,h=>
   obtain⟨v,rfl,r⟩:=vrs1 hv
   cases r
   obtain⟨hz,h⟩:=if_post h
   rw[Bool.and_eq_true,decide_eq_true_eq,decide_eq_true_eq] at hz
   refine .inr ⟨_,_,rfl,intText_one hz.1 hz.2,?_,h.val rl (.int _) (by simp)⟩
   show (tx [c]).length≤640
   exact Nat.le_trans (show (tx [c]).length≤1 from Nat.le_refl _) (by decide)
 |[],hv,h=>simp[biOp,Post] at h
 |_::_::_,hv,h=>simp[biOp,Post] at h
 |[.str []],hv,h|[.str (_::_::_)],hv,h=>simp[biOp,Post] at h
 |[.non],hv,h|[.tup _],hv,h|[.lst _],hv,h|[.fz _],hv,h|[.ref _],hv,h=>simp[biOp,Post] at h
|list=>
  refine⟨_,cr_or (cr_or call_list_of (DnLs.cr_text hc)) (call_list_dK hc),?_⟩
  intro W σ m H st ds vs Q rl hv h
  have go:∀x:D,ds=[x]→Post (aV X.K true) X.K W σ m H (match listOf x st with
  |.ok xs _=>.ok (.lst xs) st
  |_=>.no) Q→((∃p ys,vs=[.ref p]∧(SqL X.K H p ys∨SqT X.K H p ys)∧∀l,H l=none→Q (.ref l) (L2.upd H l (.lst ys)))∨DnLs.rLs vs H Q)∨rListD vs H Q:=fun x ex h2=>by
   clear h
   subst ex
   obtain⟨v,rfl,r⟩:=vrs1 hv
   obtain⟨xs,e,h⟩:=lst h2
   obtain⟨a,us,rfl,s,r2,_⟩:=listS r rl e
   exact .inl (.inl ⟨_,_,rfl,.inl s,fun l hl=>h.newL rl hl r2⟩)
  match ds,hv,h with
 |[.tup x],hv,h=>
   obtain⟨v,rfl,r⟩:=vrs1 hv
   obtain⟨a,us,rfl,s,r2⟩:=r.tupS
   exact .inl (.inl ⟨_,_,rfl,.inr s,fun l hl=>h.newL rl hl r2⟩)
 |[.lst x],hv,h=>exact go _ rfl h
 |[.fz x],hv,h=>exact go _ rfl h
 |[.ref x],hv,h=>
   cases e:st[x]? with
  |none=>simp[biOp,e,Post] at h
  |some o=>
    cases o with
   |lst ys=>exact go _ rfl (by simp only[biOp,e] at h;simpa only [listOf,e] using h)
   |ins c fs=>simp[biOp,e,Post] at h
   |dic kvs=>
     simp only[biOp,e] at h
     obtain⟨v,rfl,r⟩:=vrs1 hv
     cases r with
    |ref hm=>
      obtain⟨ws,hw,hy⟩:=rl.ob x _ _ hm e
      have hw:H _=some (.dK ((kvs.map fun p=>kyR p.1).zip ws)):=hw
      have hy:VRs X.K m H (kvs.map (·.2)) ws:=hy
      have hl:(kvs.map fun p=>kyR p.1).length=ws.length:=by have:=hy.length;rw[List.length_map] at this ⊢;exact this
      refine .inr ⟨_,_,rfl,hw,fun l hl2=>h.newL rl hl2 ?_⟩
      rw[show (((kvs.map fun p=>kyR p.1).zip ws).map fun kv=>kV kv.1)=kvs.map fun p=>kV (kyR p.1) by
       rw[show (fun kv:Key×V=>kV kv.1)=kV∘Prod.fst from rfl,←List.map_map,List.map_fst_zip (by omega),List.map_map] <;> rfl]
      exact vrs_mapT fun p _=>by
       rcases p with ⟨k|k,d⟩
       ·exact .int k
       ·exact .str k
 |[.non],hv,h=>simp[biOp,listOf,Post] at h
 |[.bl _],hv,h=>simp[biOp,listOf,Post] at h
 |[.int _],hv,h=>simp[biOp,listOf,Post] at h
 |[.str x],hv,h=>
   obtain⟨v,rfl,r⟩:=vrs1 hv
   cases r
   obtain⟨hz,h⟩:=if_post (r:=R.ok (D.lst (x.map fun c=>D.str [c])) st) h
   refine .inl (.inr ⟨tx x,rfl,?_,fun l hl=>h.newL rl hl (vrs_signs x)⟩)
   exact Nat.le_of_lt (szOk_lt (by simpa using hz))
 |[],hv,h=>simp[biOp,Post] at h
 |_::_::_,hv,h=>simp[biOp,Post] at h
|tuple=>
  refine⟨_,DnU.call_tupF,?_⟩
  intro W σ m H st ds vs Q rl hv h
  have go:∀x:D,ds=[x]→Post (aV X.K true) X.K W σ m H (match listOf x st with
  |.ok xs _=>.ok (.tup xs) st
  |_=>.no) Q→∃p ys,vs=[.ref p]∧((SqL X.K H p ys∧∀l us,H l=none→Q (.ref l) (L2.upd H l (DnU.tf us ys)))∨(SqT X.K H p ys∧Q (.ref p) H)):=fun x ex h2=>by
   clear h
   subst ex
   obtain⟨v,rfl,r⟩:=vrs1 hv
   obtain⟨xs,e,h⟩:=lst h2
   obtain⟨a,us,rfl,s,r2,_⟩:=listS r rl e
   exact⟨_,_,rfl,.inl ⟨s,fun l us hl=>h.newT rl hl r2⟩⟩
  match ds,hv,h with
 |[.tup x],hv,h=>
   obtain⟨v,rfl,r⟩:=vrs1 hv
   obtain⟨a,us,rfl,s,r2⟩:=r.tupS
   exact⟨_,_,rfl,.inr ⟨s,h.val rl r (by simp)⟩⟩
 |[.lst x],hv,h=>exact go _ rfl h
 |[.fz x],hv,h=>exact go _ rfl h
 |[.ref x],hv,h=>exact go _ rfl h
 |[.non],hv,h=>simp[biOp,listOf,Post] at h
 |[.bl _],hv,h=>simp[biOp,listOf,Post] at h
 |[.int _],hv,h=>simp[biOp,listOf,Post] at h
 |[.str _],hv,h=>simp[biOp,listOf,Post] at h
 |[],hv,h=>simp[biOp,Post] at h
 |_::_::_,hv,h=>simp[biOp,Post] at h
|sorted=>
  refine⟨_,cr_or Dn.H.cr_sortedX cr_sorted,?_⟩
  intro W σ m H st ds vs Q rl hv h
  have go:∀x:D,ds=[x]→Post (aV X.K true) X.K W σ m H (match listOf x st with
  |.ok xs _=>(match alls tupT xs with
   |some ks=>.ok (.lst ((srtG lexN ks).map tupD)) st
   |none=>(match alls isInt xs with
    |some ns=>if decide (ns.length<64) then .ok (.lst ((srtG ltI ns).map .int)) st else .no
    |none=>.no))
  |_=>.no) Q→Dn.H.rSortedX X.K vs H Q∨rSorted X.K vs H Q:=fun x ex h2=>by
   clear h
   subst ex
   obtain⟨v,rfl,r⟩:=vrs1 hv
   obtain⟨xs,e,h⟩:=lst h2
   obtain⟨a,us,rfl,s,r2,_⟩:=listS r rl e
   cases q:alls tupT xs with
  |none=>
    rw[q] at h
    cases q2:alls isInt xs with
   |none=>rw[q2] at h;exact h.elim
   |some ns=>
     rw[q2] at h
     obtain⟨hz,h⟩:=if_post h
     have e2:=r2.ints q2
     subst e2
     refine .inr ⟨a,ns,rfl,s,of_decide_eq_true hz,fun ns' p h1 h2 hp => ?_⟩
     have e3:ns'=srtG ltI ns:=Dn.H.sto_int.uniq (h2.imp fun {x y} hxy=>decide_eq_false (by omega)) h1
     rw[e3]
     exact h.newL rl hp (vrs_mapT fun i _=>.int i)
  |some ks=>
    rw[q] at h
    obtain⟨hx,hne⟩:=alls_tupT q
    rw[hx] at r2
    have hl:us.length=ks.length:=by rw[←r2.length,List.length_map]
    have hf:(us.zip ks).map (·.1)=us:=List.map_fst_zip (by omega)
    have hs:(us.zip ks).map (·.2)=ks:=List.map_snd_zip (by omega)
    have hm:∀p∈us.zip ks,p.2∈ks∧VR X.K m H (tupD p.2) p.1:=fun p hp=>vrs_zip r2 p hp
    refine .inl ⟨a,us.zip ks,rfl,by rw[hf];exact s,fun p hp => ?_,fun qs p h1 h3 hp => ?_⟩
    ·obtain⟨q1,q2⟩:=hm p hp
     obtain⟨t,vs,e,sq,r⟩:=VR.tupS q2
     have e2:=r.strs (alls_strT p.2)
     subst e2
     exact⟨t,e,hne _ q1,sq⟩
    ·rw[hs] at h3
     have e3:(srtG lexN ks).map tupD=qs.map fun p=>tupD p.2:=by rw[←h3,List.map_map] <;> rfl
     have h:Post (aV X.K true) X.K W σ m H (R.ok (D.lst ((srtG lexN ks).map tupD)) st) Q:=h
     rw[e3] at h
     exact h.newL rl hp (vrs_mapT fun q hq=>(hm q (h1.mem_iff.mp hq)).2)
  match ds,hv,h with
 |[.lst x],hv,h=>exact go _ rfl h
 |[.fz x],hv,h=>exact go _ rfl h
 |[.ref x],hv,h=>exact go _ rfl h
 |[.tup _],hv,h=>simp[biOp,listOf,Post] at h
 |[.non],hv,h=>simp[biOp,listOf,Post] at h
 |[.bl _],hv,h=>simp[biOp,listOf,Post] at h
 |[.int _],hv,h=>simp[biOp,listOf,Post] at h
 |[.str _],hv,h=>simp[biOp,listOf,Post] at h
 |[],hv,h=>simp[biOp,Post] at h
 |_::_::_,hv,h=>simp[biOp,Post] at h
end Dn
namespace Dn
open PySem L2
def Rt.T:Rt→String
|.lst => "list"|.str => "str"|.dic => "dict"
def Me.nm:Me→String
|.append => "append"|.extend => "extend"|.pop => "pop"|.join => "join"|.count => "count"|.index => "index"
def Me.name (b:Me):Str:=Str.ofString b.nm
def Me.id (b:Me) (r:Rt):String:=r.T ++ "."++b.nm
theorem Rt.attrs (r:Rt):PlainAttrs r.T:=by
 cases r
 ·exact PySem.F.plainAttrs_list
 ·exact PySem.F.plainAttrs_str
 ·exact PySem.F.plainAttrs_dict
theorem Me.slot (b:Me) (r:Rt) (h:meHas b r=true):Slot r.T b.name (b.id r):=by
 cases b <;> cases r <;> first|exact absurd h (by decide)|skip
 ·exact PySem.F.slot_list_append
 ·exact PySem.F.slot_list_extend
 ·exact PySem.F.slot_str_join
 ·exact PySem.F.slot_str_count
 ·exact PySem.F.slot_list_pop
 ·exact PySem.F.slot_list_index
 ·exact PySem.F.slot_str_index
theorem Me.type (b:Me) (r:Rt) (h:meHas b r=true):typeOf (.builtin (b.id r))=pure (.type "method_descriptor"):=by
 cases b <;> cases r <;> first|exact absurd h (by decide)|skip
 ·exact PySem.F.type_list_append
 ·exact PySem.F.type_list_extend
 ·exact PySem.F.type_str_join
 ·exact PySem.F.type_str_count
 ·exact PySem.F.type_list_pop
 ·exact PySem.F.type_list_index
 ·exact PySem.F.type_str_index
def rtD:Rt→D→Bool
|.str,.str _=>true
|.lst,.lst _=>true
|.lst,.fz _=>true
|.lst,.ref _=>true
|.dic,.ref _=>true
|_,_=>false
theorem rtD_of {x:D} {st:Sto} {r:Rt} (t:rtOf x st=some r):rtD r x=true:=by
 cases x with
|ref n=>
  simp only[rtOf] at t
  cases q:st[n]? with
 |none=>rw[q] at t;cases t
 |some o=>rw[q] at t;cases o <;> cases t <;> rfl
|_=>cases t <;> rfl
def MeD (fr:Bool) (K:PySem.W.Frag) (b:Me) (q:Rt) (r:V→List V→Hp→VK→Prop):Prop:=∀(W:WX) (σ:L2.St) (m:List Addr) (H:Hp) (st:Sto) (x:D) (u:V) (ds:List D) (vs:List V) (Q:VK),
 Rl K m H st→VR K m H x u→VRs K m H ds vs→rtD q x=true→Post (aV K fr) K W σ m H (meOp b x ds st) Q→r u vs H Q
theorem rt_ok {K:PySem.W.Frag} {m:List Addr} {H:Hp} {st:Sto} {x:D} {u:V} {r:Rt} (rl:Rl K m H st) (h:VR K m H x u) (t:rtOf x st=some r):tyV K r.T u H:=by
 cases x with
|str z=>cases t;cases h;rfl
|lst xs=>
  cases t
  obtain⟨a,vs,rfl,s,_⟩:=listS h rl (st1:=st) rfl
  exact .inl ⟨rfl,vs,s⟩
|fz xs=>
  cases t
  obtain⟨a,vs,rfl,s,_⟩:=listS h rl (st1:=st) rfl
  exact .inl ⟨rfl,vs,s⟩
|ref n=>
  cases h with
 |ref e1=>
   simp only[rtOf] at t
   cases q:st[n]? with
  |none=>rw[q] at t;cases t
  |some o=>
    rw[q] at t
    cases o with
   |lst xs=>
     cases t
     obtain⟨vs,z,_⟩:=rl.get e1 q
     exact .inl ⟨rfl,vs,.inl (.inl z)⟩
   |dic kvs=>
     cases t
     obtain⟨vs,z,_⟩:=rl.ob n _ _ e1 q
     exact .inr (.inr (.inl ⟨rfl,.inl ⟨_,z⟩⟩))
   |ins c fs=>cases t
|_=>cases t
theorem cnt_count (c:Nat):∀l:List Nat,PyProof.Rows.cnt c l=((l.count c:Nat):Int)
|[]=>rfl
|n::r=>by
  rw[PyProof.Rows.cnt_cons,cnt_count c r,List.count_cons]
  by_cases h:n=c
  ·subst h;simp;omega
  ·simp[h]
theorem join_tx (s:List Nat) (ys:List (List Nat)):Txt.join (tx s) (ys.map tx)=tx (joinL s ys):=by
 have e:∀ys:List (List Nat),Str.join (tx s) (ys.map tx)=tx (joinL s ys):=by
  intro ys
  induction ys with
 |nil=>rfl
 |cons p r ih=>
   cases r with
  |nil=>rfl
  |cons q r=>
    show tx p++tx s++Str.join (tx s) ((q::r).map tx)=_
    rw[ih]
    show Str.append (Str.append _ _) _=_
    simp[Str.append,joinL]
 rw[TL.join_eq]
 exact e ys
def rIndexT (K:PySem.W.Frag):V→List V→Hp→VK→Prop:=fun x xs H Q=>∃(a:Addr) (y:V) (d:PyData) (ds:List PyData) (j:Nat) (z:PyData),x=V.ref a∧xs=[y]∧Dp K H (V.ref a) (.list ds)∧Dp K H y d ∧
 PyData.canLayAll0 ds=true∧d.canLay0=true∧d.depth≤61∧ds[j]?=some z∧PyData.eqv z d=true∧(∀(m:Nat) (z':PyData),m<j→ds[m]?=some z'→PyData.eqv z' d=false)∧Q (.int (j:Nat)) H
theorem mt_indexT {X:Cx} (hu:X.A.units+64<cLine):MtR X "list.index" (rIndexT X.K):=by
 intro pins s σ H x xs v us Q I rx rxs h
 obtain⟨a,y,d,ds,j,z,rfl,rfl,hl,hy,hxs,cd,dd61,hz,hzj,hno,q⟩:=h
 cases rx
 cases rxs with
|cons ry rt=>
  rename_i uy ut
  cases rt
  obtain⟨bs,r1⟩:=Dp.reads I d y uy hy ry
  have hroom:X.A.units+1+min (PyData.depthAll ds) d.depth<cLine:=by
   have:=Nat.min_le_right (PyData.depthAll ds) d.depth
   omega
  cases hl with
 |lst hs ha=>
   obtain⟨its,rv,⟨⟨cls,dd,data,sls⟩,n,ho,hc,hdn,hdt⟩,hlen⟩:=I.list hs
   simp only at hc hdt
   subst hc hdt
   obtain⟨as,h4⟩:=Dp.readsAll I ds _ its ha rv
   have hn:its.length=ds.length:=SeqAt.ReadsAll.length ds its as h4
   have hmap:its.map (SeqAt.readOf s.heap)=ds:=SeqAt.readsAll_map ds its as hxs h4
   have hvl:=rv.length
   have hsl:=sizeLine_eq
   obtain⟨hjd,_⟩:=List.getElem?_eq_some_iff.mp hz
   have hjl:j<its.length:=by omega
   have hj:j<its.toArray.size:=by simpa using hjl
   have at_:∀(m:Nat) (hm:m<its.toArray.size) (z':PyData),ds[m]?=some z'→SeqAt.readOf s.heap its.toArray[m]=z':=by
    intro m hm z' hz'
    have hml:m<its.length:=by simpa using hm
    rw[←hmap,List.getElem?_map,List.getElem?_eq_getElem hml] at hz'
    have e1:SeqAt.readOf s.heap its[m]=z':=Option.some.inj (show some (SeqAt.readOf s.heap its[m])=some z' from hz')
    simpa using e1
   refine call_meets PySem.F.slot_list_index ⟨_,ho,rfl⟩ PySem.F.entry_list_index (PySem.F.args_list_index_2 _ _)
    (SeqAt.list_indexAt a its.toArray n dd sls uy (fun u=>PyData.eqv (SeqAt.readOf s.heap u) d) j hj (by omega) ?_ ?_) ⟨ho,SeqAt.items_eqAt (vs:=its.toArray) (show PySem.ReadsAll s.heap its.toArray.toList ds as from h4) r1 hxs cd hroom,?_⟩
   ·show PyData.eqv (SeqAt.readOf s.heap its.toArray[j]) d=true
    rw[at_ j hj z hz]
    exact hzj
   ·intro m hm hmj
    have hmd:m<ds.length:=by omega
    have hz':ds[m]?=some ds[m]:=List.getElem?_eq_getElem hmd
    show PyData.eqv (SeqAt.readOf s.heap its.toArray[m]) d=false
    rw[at_ m hm _ hz']
    exact hno m _ hmj hz'
   ·exact⟨.int (j:Nat),H,I.tok _,⟨_,rfl⟩,q⟩
def rIndexE (K:PySem.W.Frag):V→List V→Hp→VK→Prop:=fun x xs H Q=>rIndex K x xs H Q∨rIndexT K x xs H Q
theorem mt_indexE {X:Cx} (hu:X.A.units+64<cLine):MtR X "list.index" (rIndexE X.K):=by
 intro pins s σ H x xs v us Q I rx rxs h
 rcases h with h|h
 ·exact mt_index pins s σ H x xs v us Q I rx rxs h
 ·exact mt_indexT hu pins s σ H x xs v us Q I rx rxs h
theorem toPs_at:∀(ds:List D) (i:Nat),(toPs ds)[i]?=ds[i]?.map toP
|[],i=>by rw[toPs];rfl
|x::r,0=>by rw[toPs];rfl
|x::r,i+1=>by rw[toPs,List.getElem?_cons_succ,List.getElem?_cons_succ,toPs_at r i]
theorem cmpOks_at {k:Nat}:∀{ds:List D} {i:Nat} {d:D},cmpOks k ds=true→ds[i]?=some d→cmpOk k d=true
|[],_,_,_,h=>nomatch h
|x::r,0,d,c,h=>by
  rw[cmpOks,Bool.and_eq_true] at c
  cases h
  exact c.1
|x::r,i+1,d,c,h=>by
  rw[cmpOks,Bool.and_eq_true] at c
  exact cmpOks_at c.2 h
theorem me_ok (X:Cx) (hc:X.calm=true) (hu:X.A.units+64<cLine) (b:Me) (q:Rt) (hh:meHas b q=true):∃r,MtR X (b.id q) r∧MeD false X.K b q r:=by
 cases b with
|append=>
  obtain rfl:q=.lst:=by cases q <;> first|rfl|exact nomatch hh
  refine⟨_,mt_append,?_⟩
  intro W σ m H st x u ds vs Q rl hx hv hty h
  match x,ds,hx,hv,h with
 |.ref n,[d],hx,hv,h=>
   obtain⟨v,rfl,r⟩:=vrs1 hv
   cases hx with
  |ref e1=>
    cases q:st[n]? with
   |none=>simp[meOp,q,Post] at h
   |some o=>
     cases o with
    |lst xs=>
      simp only[meOp,q] at h
      obtain⟨hz,h⟩:=if_post h
      obtain⟨us,z,y⟩:=rl.get e1 q
      refine⟨_,us,v,rfl,rfl,z,by rw[←y.length];exact szOk_lt hz,?_⟩
      exact h _ m _ (Fut.set e1) (rl.set e1 (y.append (.cons r .nil))) ⟨.non,fun e=>nomatch e⟩
    |_=>simp[meOp,q,Post] at h
 |.ref _,[],_,_,h|.ref _,_::_::_,_,_,h=>simp[meOp,Post] at h
 |.non,_,_,_,h|.bl _,_,_,_,h|.int _,_,_,_,h|.str _,_,_,_,h|.tup _,_,_,_,h|.lst _,_,_,_,h|.fz _,_,_,_,h=>simp[meOp,Post] at h
|extend=>
  obtain rfl:q=.lst:=by cases q <;> first|rfl|exact nomatch hh
  refine⟨_,mt_extend,?_⟩
  intro W σ m H st x u ds vs Q rl hx hv hty h
  match x,ds,hx,hv,h with
 |.ref n,[d],hx,hv,h=>
   obtain⟨v,rfl,r⟩:=vrs1 hv
   cases hx with
  |ref e1=>
    cases q:st[n]? with
   |none=>simp[meOp,q,Post] at h
   |some o=>
     cases o with
    |lst xs=>
      cases q2:catOf d st with
     |none=>simp[meOp,q,q2,Post] at h
     |some ys=>
       simp only[meOp,q,q2] at h
       obtain⟨hz,h⟩:=if_post h
       obtain⟨us,z,y⟩:=rl.get e1 q
       obtain⟨b,ws,rfl,z2,y2⟩:=catS r rl q2
       refine⟨_,b,us,ws,rfl,rfl,z,z2,by rw[←y.length,←y2.length];exact szOk_line hz,?_⟩
       exact h _ m _ (Fut.set e1) (rl.set e1 (y.append y2)) ⟨.non,fun e=>nomatch e⟩
    |_=>simp[meOp,q,Post] at h
 |.ref _,[],_,_,h|.ref _,_::_::_,_,_,h=>simp[meOp,Post] at h
 |.non,_,_,_,h|.bl _,_,_,_,h|.int _,_,_,_,h|.str _,_,_,_,h|.tup _,_,_,_,h|.lst _,_,_,_,h|.fz _,_,_,_,h=>simp[meOp,Post] at h
|join=>
  obtain rfl:q=.str:=by cases q <;> first|rfl|exact nomatch hh
  refine⟨_,mt_join,?_⟩
  intro W σ m H st x u ds vs Q rl hx hv hty h
  match x,ds,hx,hv,h with
 |.str s,[d],hx,hv,h=>
   obtain⟨v,rfl,r⟩:=vrs1 hv
   cases hx
   simp only[meOp] at h
   cases e:listOf d st with
  |ok xs st1=>
    rw[e] at h
    simp only at h
    have:=listOf_st e
    subst this
    cases q:alls isStr xs with
   |none=>rw[q] at h;exact h.elim
   |some ys=>
     rw[q] at h
     obtain⟨hz,h⟩:=if_post h
     obtain⟨a,us,rfl,s,r2,_⟩:=listS r rl e
     have:=r2.strs q
     subst this
     refine⟨_,a,ys.map tx,rfl,rfl,.inl s,?_,?_⟩
     ·have e1:((ys.map tx).map (·.length)).sum=(ys.map (·.length)).sum:=by
       rw[List.map_map]
       congr 1
      rw[e1,List.length_map]
      have hz:=szOk_le hz
      simp only[Str.length,List.size_toArray]
      omega
     ·rw[join_tx]
      exact h.any rl (.str _)
  |_=>rw[e] at h;exact h.elim
 |.str _,[],_,_,h|.str _,_::_::_,_,_,h=>simp[meOp,Post] at h
 |.non,_,_,_,h|.bl _,_,_,_,h|.int _,_,_,_,h|.ref _,_,_,_,h|.tup _,_,_,_,h|.lst _,_,_,_,h|.fz _,_,_,_,h=>simp[meOp,Post] at h
|count=>
  obtain rfl:q=.str:=by cases q <;> first|rfl|exact nomatch hh
  refine⟨_,mt_count,?_⟩
  intro W σ m H st x u ds vs Q rl hx hv hty h
  match x,ds,hx,hv,h with
 |.str s,[.str [c]],hx,hv,h=>
   obtain⟨v,rfl,r⟩:=vrs1 hv
   cases hx
   cases r
   refine⟨_,_,rfl,rfl,?_⟩
   have e:Txt.count (tx s) (tx [c])=((s.count c:Nat):Int):=by
    have:=PyProof.Rows.count_cnt (tx s) c
    rw[cnt_count] at this
    simpa using this
   rw[e]
   exact h.any rl (.int _)
 |.str _,[],_,_,h|.str _,_::_::_,_,_,h=>simp[meOp,Post] at h
 |.str _,[.str []],_,_,h|.str _,[.str (_::_::_)],_,_,h=>simp[meOp,Post] at h
 |.str _,[.non],_,_,h|.str _,[.bl _],_,_,h|.str _,[.int _],_,_,h|.str _,[.tup _],_,_,h|.str _,[.lst _],_,_,h|.str _,[.fz _],_,_,h|.str _,[.ref _],_,_,h=>simp[meOp,Post] at h
 |.non,_,_,_,h|.bl _,_,_,_,h|.int _,_,_,_,h|.ref _,_,_,_,h|.tup _,_,_,_,h|.lst _,_,_,_,h|.fz _,_,_,_,h=>simp[meOp,Post] at h
|pop=>
  obtain rfl:q=.lst:=by cases q <;> first|rfl|exact nomatch hh
  refine⟨_,MtR.or mt_pop mt_popAt,?_⟩
  intro W σ m H st x u ds vs Q rl hx hv hty h
  match x,ds,hx,hv,h with
 |.ref n,[],hx,hv,h=>
   cases hv
   cases hx with
  |ref e1=>
    cases q:st[n]? with
   |none=>simp[meOp,q,Post] at h
   |some o=>
     cases o with
    |lst xs=>
      simp only[meOp,q] at h
      obtain⟨us,z,y⟩:=rl.get e1 q
      cases q2:xs.getLast? with
     |none=>rw[q2] at h;exact h.elim
     |some d=>
       rw[q2] at h
       have e2:xs[xs.length - 1]?=some d:=by rw[←List.getLast?_eq_getElem?];exact q2
       obtain⟨v,e3,r⟩:=y.get e2
       refine .inl ⟨_,us,v,rfl,rfl,z,by rw[←y.length];exact e3,?_⟩
       exact h _ m _ (Fut.set e1) (rl.set e1 y.dropLast) ⟨r.mono (Fut.set e1),fun e=>nomatch e⟩
    |_=>simp[meOp,q,Post] at h
 |.ref n,[.int i],hx,hv,h=>
   obtain⟨v,rfl,r⟩:=vrs1 hv
   cases r
   cases hx with
  |ref e1=>
    cases q:st[n]? with
   |none=>simp[meOp,q,Post] at h
   |some o=>
     cases o with
    |lst xs=>
      simp only[meOp,q] at h
      obtain⟨us,z,y⟩:=rl.get e1 q
      obtain⟨hi,h⟩:=if_post h
      obtain⟨hi1,hi2⟩:=and3 hi
      have hi1:=of_decide_eq_true hi1
      have hi2:=of_decide_eq_true hi2
      cases q2:Dn.ixN xs.length i with
     |none=>rw[q2] at h;exact h.elim
     |some k=>
       rw[q2] at h
       simp only at h
       cases q3:xs[k]? with
      |none=>rw[q3] at h;exact h.elim
      |some d=>
        rw[q3] at h
        obtain⟨v,e3,r⟩:=y.get q3
        rw[ixN_eq] at q2
        obtain⟨k1,k2,k3,k4⟩:=L2.ixN_seq q2
        refine .inr ⟨_,us,i,k,v,rfl,rfl,z,by omega,by omega,by rw[←y.length];exact k1,e3,?_⟩
        exact h _ m _ (Fut.set e1) (rl.set e1 (y.eraseIdx k)) ⟨r.mono (Fut.set e1),fun e=>nomatch e⟩
    |_=>simp[meOp,q,Post] at h
 |.ref _,_::_::_,_,_,h=>simp[meOp,Post] at h
 |.ref _,[.non],_,_,h|.ref _,[.bl _],_,_,h|.ref _,[.str _],_,_,h|.ref _,[.tup _],_,_,h|.ref _,[.lst _],_,_,h|.ref _,[.fz _],_,_,h|.ref _,[.ref _],_,_,h=>simp[meOp,Post] at h
 |.non,_,_,_,h|.bl _,_,_,_,h|.int _,_,_,_,h|.str _,_,_,_,h|.tup _,_,_,_,h|.lst _,_,_,_,h|.fz _,_,_,_,h=>simp[meOp,Post] at h
|index=>
  have ix:∀{m:List Addr} {H:Hp} {st:Sto} {d:D} {v u:V} {xs:List D} {W:WX} {σ:L2.St} {Q:VK},Rl X.K m H st→VR X.K m H d v→(∃a vs,u=.ref a∧SqL X.K H a vs∧VRs X.K m H xs vs)→Post (aV X.K false) X.K W σ m H (match findD d xs with
   |some j=>.ok (.int j) st
   |none=>.no) Q→rIndexE X.K u [v] H Q:=by
   intro m H st d v u xs W σ Q rl hd ⟨a,vs,eu,sq,r⟩ h
   subst eu
   unfold findD at h
   by_cases hf:(flatD d&&xs.all flatD)=true
   ·rw[if_pos hf] at h
    obtain⟨f1,f2⟩:=and3 hf
    cases q2:xs.findIdx? (fun y=>eqv y d) with
   |none=>rw[q2] at h;exact h.elim
   |some j=>
     rw[q2] at h
     obtain⟨hj,hj1,hj2⟩:=List.findIdx?_eq_some_iff_getElem.mp q2
     have at_:∀{i:Nat} {z:V},vs[i]?=some z→∃d',xs[i]?=some d'∧VR X.K m H d' z:=fun {i z} e=>by
      have hi:i<xs.length:=by rw[r.length];exact (List.getElem?_eq_some_iff.mp e).1
      obtain⟨v',e',r'⟩:=r.get (List.getElem?_eq_getElem hi)
      rw[e] at e'
      cases e'
      exact⟨_,List.getElem?_eq_getElem hi,r'⟩
     have fl:∀{i:Nat} {d':D},xs[i]?=some d'→flatD d'=true:=fun e=>List.all_eq_true.mp f2 _ (List.mem_of_getElem? e)
     obtain⟨z,ez,rz⟩:=r.get (List.getElem?_eq_getElem hj)
     refine .inl ⟨a,vs,v,j,z,rfl,rfl,sq,flat_ok hd f1,List.all_eq_true.mpr fun z hz => ?_,ez,?_,fun i z' hi e => ?_,h.any rl (.int _)⟩
     ·obtain⟨i,hi⟩:=List.mem_iff_getElem?.mp hz
      obtain⟨d',e1,e2⟩:=at_ hi
      exact flat_ok e2 (fl e1)
     ·rw[eqV_ok rz hd (fl (List.getElem?_eq_getElem hj)) f1]
      exact hj1
     ·obtain⟨d',e1,e2⟩:=at_ e
      rw[eqV_ok e2 hd (fl e1) f1]
      have:=hj2 i hi
      rw[(List.getElem?_eq_some_iff.mp e1).2] at this
      simpa using this
   ·rw[if_neg hf] at h
    by_cases hf:(cmpOk 60 d&&cmpOk 60 (.lst xs))=true
    ·rw[if_pos hf] at h
     obtain⟨f1,f2⟩:=and3 hf
     cases q2:xs.findIdx? (fun y=>eqv y d) with
    |none=>rw[q2] at h;exact h.elim
    |some j=>
      rw[q2] at h
      obtain⟨hj,hj1,hj2⟩:=List.findIdx?_eq_some_iff_getElem.mp q2
      have f3:cmpOks 59 xs=true:=by rw[cmpOk] at f2;exact f2
      have hat:∀{i:Nat} {e:D},xs[i]?=some e→PyData.eqv (toP e) (toP d)=eqv e d:=fun he=>eqv_toP 59 60 _ _ (cmpOks_at f3 he) f1
      have hl:Dp X.K H (V.ref a) (.list (toPs xs)):=.lst sq (VRs.dp 59 xs f3 r)
      refine .inr ⟨a,v,toP d,toPs xs,j,toP xs[j],rfl,rfl,hl,VR.dp 60 _ f1 hd,(lays_toP _ _ f3).1,(lay_toP _ _ f1).1,by have:=(lay_toP _ _ f1).2;omega,by rw[toPs_at,List.getElem?_eq_getElem hj];rfl,?_,fun i z' hi e => ?_,h.any rl (.int _)⟩
      ·rw[hat (List.getElem?_eq_getElem hj)]
       exact hj1
      ·rw[toPs_at] at e
       cases e4:xs[i]? with
      |none=>rw[e4] at e;cases e
      |some y=>
        rw[e4] at e
        cases e
        rw[hat e4]
        have:=hj2 i hi
        rw[(List.getElem?_eq_some_iff.mp e4).2] at this
        simpa using this
    ·rw[if_neg hf] at h;exact h.elim
  cases q with
 |dic=>exact nomatch hh
 |lst=>
   refine⟨_,mt_indexE hu,?_⟩
   intro W σ m H st x u ds vs Q rl hx hv hty h
   have go:∀{d:D},ds=[d]→Post (aV X.K false) X.K W σ m H (match listOf x st with
    |.ok xs _=>(match findD d xs with
     |some j=>.ok (.int j) st
     |none=>.no)
    |_=>.no) Q→rIndexE X.K u vs H Q:=fun {d} ed h2=>by
    clear h
    subst ed
    obtain⟨v,rfl,r⟩:=vrs1 hv
    cases e:listOf x st with
   |ok xs st1=>
     rw[e] at h2
     obtain⟨a,us,eu,sq,r2,_⟩:=listS hx rl e
     exact ix rl r ⟨a,us,eu,sq,r2⟩ h2
   |_=>rw[e] at h2;exact h2.elim
   match x,ds,h with
  |.lst _,[d],h=>exact go rfl h
  |.fz _,[d],h=>exact go rfl h
  |.ref _,[d],h=>exact go rfl h
  |.str _,_,_=>exact absurd hty (by simp[rtD])
  |.tup _,ds,h=>cases ds <;> simp[meOp,Post] at h
  |.non,ds,h=>rcases ds with _|⟨_,_|⟨_,_⟩⟩ <;> simp[meOp,listOf,Post] at h
  |.bl _,ds,h=>rcases ds with _|⟨_,_|⟨_,_⟩⟩ <;> simp[meOp,listOf,Post] at h
  |.int _,ds,h=>rcases ds with _|⟨_,_|⟨_,_⟩⟩ <;> simp[meOp,listOf,Post] at h
  |.lst _,[],h|.lst _,_::_::_,h|.fz _,[],h|.fz _,_::_::_,h|.ref _,[],h|.ref _,_::_::_,h=>simp[meOp,Post] at h
 |str=>
   refine⟨fun x xs H Q=>∃(a b:Str) (k:Nat),x=.str a∧xs=[.str b]∧Txt.index0 a b=some k∧Q (.int (k:Nat)) H,fun pins s σ H x xs v us Q I rx rxs ⟨a,b,k,e1,e2,e3,q⟩ => ?_,?_⟩
   ·exact mt_indexX hc takes0 pins s σ H x xs v us Q I rx rxs ⟨a,b,e1,e2,fun k' ek=>by rw[e3] at ek;cases ek;exact q,fun z=>by rw[e3] at z;cases z⟩
   ·intro W σ m H st x u ds vs Q rl hx hv hty h
    match x,ds,hx,hv,h with
   |.str z,[.str [c]],hx,hv,h=>
     cases hx
     obtain⟨v,rfl,r⟩:=vrs1 hv
     cases r
     obtain⟨hz,hh2⟩:=if_post h
     clear h
     obtain⟨hz,h3⟩:=and3 hz
     obtain⟨h1,h2⟩:=and3 hz
     have h1:=of_decide_eq_true h1
     subst h1
     have key:∀k:Fin 8,Txt.index0 (tx [97,98,99,100,101,102,103,104]) (tx [97+k.val])=some k.val:=by decide +kernel
     have h2:=of_decide_eq_true h2
     have h3:=of_decide_eq_true h3
     have q:=key ⟨c - 97,by omega⟩
     simp only[show 97+(c - 97)=c by omega] at q
     exact⟨_,_,_,rfl,rfl,q,hh2.any rl (.int _)⟩
   |.str _,[],_,_,h|.str _,_::_::_,_,_,h=>simp[meOp,listOf,Post] at h
   |.str _,[.str []],_,_,h|.str _,[.str (_::_::_)],_,_,h=>simp[meOp,listOf,Post] at h
   |.str _,[.non],_,_,h|.str _,[.bl _],_,_,h|.str _,[.int _],_,_,h|.str _,[.tup _],_,_,h|.str _,[.lst _],_,_,h|.str _,[.fz _],_,_,h|.str _,[.ref _],_,_,h=>simp[meOp,listOf,Post] at h
   |.tup _,ds,_,_,h=>cases ds <;> simp[meOp,Post] at h
   |.non,ds,_,_,h=>rcases ds with _|⟨_,_|⟨_,_⟩⟩ <;> simp[meOp,listOf,Post] at h
   |.bl _,ds,_,_,h=>rcases ds with _|⟨_,_|⟨_,_⟩⟩ <;> simp[meOp,listOf,Post] at h
   |.int _,ds,_,_,h=>rcases ds with _|⟨_,_|⟨_,_⟩⟩ <;> simp[meOp,listOf,Post] at h
   |.lst _,_,hx,_,_|.fz _,_,hx,_,_|.ref _,_,hx,_,_=>exact absurd hty (by simp[rtD])
end Dn
namespace Dn
open PySem L2
def Ty.nm:Ty→String
|.int => "int"|.bool => "bool"|.str => "str"|.tuple => "tuple"|.list => "list"
def Ty.name (t:Ty):Str:=Str.ofString t.nm
theorem Ty.boot (t:Ty):bootBuiltins t.name=some (.type t.nm):=by cases t <;> decide +kernel
def tyN:D→String
|.non => "NoneType"|.bl _ => "bool"|.int _ => "int"|.str _ => "str"|.tup _ => "tuple"|.lst _ => "list"|.fz _ => "list"|.ref _ => "list"
theorem kit_all (t:Ty) (d:D):kitB (tyN d) t.nm=some (isiOp t d):=by
 cases t
 ·cases d
  ·exact (by decide +kernel:kitB "NoneType" "int"=some false)
  ·exact (by decide +kernel:kitB "bool" "int"=some true)
  ·exact (by decide +kernel:kitB "int" "int"=some true)
  ·exact (by decide +kernel:kitB "str" "int"=some false)
  ·exact (by decide +kernel:kitB "tuple" "int"=some false)
  all_goals exact (by decide +kernel:kitB "list" "int"=some false)
 ·cases d
  ·exact (by decide +kernel:kitB "NoneType" "bool"=some false)
  ·exact (by decide +kernel:kitB "bool" "bool"=some true)
  ·exact (by decide +kernel:kitB "int" "bool"=some false)
  ·exact (by decide +kernel:kitB "str" "bool"=some false)
  ·exact (by decide +kernel:kitB "tuple" "bool"=some false)
  all_goals exact (by decide +kernel:kitB "list" "bool"=some false)
 ·cases d
  ·exact (by decide +kernel:kitB "NoneType" "str"=some false)
  ·exact (by decide +kernel:kitB "bool" "str"=some false)
  ·exact (by decide +kernel:kitB "int" "str"=some false)
  ·exact (by decide +kernel:kitB "str" "str"=some true)
  ·exact (by decide +kernel:kitB "tuple" "str"=some false)
  all_goals exact (by decide +kernel:kitB "list" "str"=some false)
 ·cases d
  ·exact (by decide +kernel:kitB "NoneType" "tuple"=some false)
  ·exact (by decide +kernel:kitB "bool" "tuple"=some false)
  ·exact (by decide +kernel:kitB "int" "tuple"=some false)
  ·exact (by decide +kernel:kitB "str" "tuple"=some false)
  ·exact (by decide +kernel:kitB "tuple" "tuple"=some true)
  all_goals exact (by decide +kernel:kitB "list" "tuple"=some false)
 ·cases d
  ·exact (by decide +kernel:kitB "NoneType" "list"=some false)
  ·exact (by decide +kernel:kitB "bool" "list"=some false)
  ·exact (by decide +kernel:kitB "int" "list"=some false)
  ·exact (by decide +kernel:kitB "str" "list"=some false)
  ·exact (by decide +kernel:kitB "tuple" "list"=some false)
  all_goals exact (by decide +kernel:kitB "list" "list"=some true)
theorem tyS {K:PySem.W.Frag} {m:List Addr} {H:Hp} {st:Sto} {d:D} {v:V} (rl:Rl K m H st) (h:VR K m H d v) (hr:∀n,d=.ref n→∃xs,st[n]?=some (.lst xs)):TyX K H v (.type (tyN d)):=by
 cases h with
|non=>exact .base .non
|bl b=>exact .base (.bl b)
|int i=>exact .base (.int i)
|str x=>exact .base (.str _)
|tup e _ _ _=>exact .fTuple e
|tupK e _=>
  obtain⟨o,its,n,e1,e2,_⟩:=e
  exact .kTuple e1 e2
|lst e _ _=>exact .base (.lst e)
|fz e _ _=>exact .base (.frz e)
|fzK e _=>
  obtain⟨o,its,n,e1,e2,_⟩:=e
  exact .kList e1 e2
|@ref n a e1=>
  obtain⟨xs,q⟩:=hr n rfl
  obtain⟨vs,z,_⟩:=rl.get e1 q
  exact .base (.lst z)
theorem isiM_ok {t:Ty} {d x:D} {st st1:Sto} (h:isiM t d st=.ok x st1):st1=st∧((x=.bl (isiOp t d)∧∀n,d=.ref n→∃xs,st[n]?=some (.lst xs))∨(x=.bl false∧∃n kvs,d=.ref n∧st[n]?=some (.dic kvs))):=by
 unfold isiM at h
 cases d with
|ref n=>
  simp only at h
  cases q:st[n]? with
 |none=>rw[q] at h;cases h
 |some o=>
   rw[q] at h
   cases o with
  |lst xs=>cases h;exact⟨rfl,.inl ⟨rfl,fun k e=>by cases e;exact⟨_,q⟩⟩⟩
  |dic kvs=>cases h;exact⟨rfl,.inr ⟨rfl,n,kvs,rfl,q⟩⟩
  |ins c fs=>cases h
|_=>cases h;exact⟨rfl,.inl ⟨rfl,fun k e=>nomatch e⟩⟩
theorem kit_dict (t:Ty):kitB "dict" t.nm=some false:=by cases t <;> decide +kernel
theorem tyDic {K:PySem.W.Frag} {m:List Addr} {H:Hp} {st:Sto} {n:Nat} {kvs:List (Ky×D)} {v:V} (rl:Rl K m H st) (h:VR K m H (.ref n) v) (q:st[n]?=some (.dic kvs)):TyX K H v (.type "dict"):=by
 cases h with
|@ref _ a e1=>
  obtain⟨vs,z,_⟩:=rl.ob n a _ e1 q
  exact .base (.dK z)
theorem isiM_noex {t:Ty} {d:D} {st st1:Sto} {x:Xc}:isiM t d st≠.ex x st1:=by
 unfold isiM
 repeat' split
 all_goals (intro h;cases h)
section
variable {K:PySem.W.Frag} {m e:List Addr} {H H':Hp} {st st':Sto}
mutual
theorem VR.lim:∀{d:D} {v:V},VR K m H d v→D.lim m.length d=true
|.non,_,_=>rfl
|.bl _,_,_=>rfl
|.int _,_,_=>rfl
|.str _,_,_=>rfl
|.tup ds,_,h=>by
  cases h with
 |tup _ _ _ r=>rw[D.lim];exact VRs.lim r
 |tupK _ r=>rw[D.lim];exact VRs.lim r
|.lst ds,_,h=>by
  cases h with
 |lst _ _ r=>rw[D.lim];exact VRs.lim r
|.fz ds,_,h=>by
  cases h with
 |fz _ _ r=>rw[D.lim];exact VRs.lim r
 |fzK _ r=>rw[D.lim];exact VRs.lim r
|.ref n,_,h=>by
  cases h with
 |ref e1=>rw[D.lim];exact decide_eq_true (List.getElem?_eq_some_iff.mp e1).1
theorem VRs.lim:∀{d:List D} {v:List V},VRs K m H d v→D.lims m.length d=true
|[],_,_=>rfl
|_::_,_,h=>by
  cases h with
 |cons a b=>rw[D.lims,VR.lim a,VRs.lim b];rfl
end
theorem cut_at {n:Nat} {a:Addr} (h:(m++e)[n]?=some a) (hn:n<m.length):m[n]?=some a:=by rw[List.getElem?_append_left hn] at h;exact h
mutual
theorem VR.cutm {H0:Hp} (hk:∀b,b ∉ m++e→H0 b=H' b):∀{d:D} {v:V},VR K (m++e) H' d v→D.lim m.length d=true→VR K m H0 d v
|.non,_,h,_=>by cases h;exact .non
|.bl _,_,h,_=>by cases h;exact .bl _
|.int _,_,h,_=>by cases h;exact .int _
|.str _,_,h,_=>by cases h;exact .str _
|.tup ds,_,h,l=>by
  rw[D.lim] at l
  cases h with
 |tup e1 e2 n r=>exact .tup (by rw[hk _ n];exact e1) e2 (fun z=>n (List.mem_append_left _ z)) (VRs.cutm hk r l)
 |tupK e1 r=>exact .tupK e1 (VRs.cutm hk r l)
|.lst ds,_,h,l=>by
  rw[D.lim] at l
  cases h with
 |lst e1 n r=>exact .lst (by rw[hk _ n];exact e1) (fun z=>n (List.mem_append_left _ z)) (VRs.cutm hk r l)
|.fz ds,_,h,l=>by
  rw[D.lim] at l
  cases h with
 |fz e1 n r=>exact .fz (by rw[hk _ n];exact e1) (fun z=>n (List.mem_append_left _ z)) (VRs.cutm hk r l)
 |fzK e1 r=>exact .fzK e1 (VRs.cutm hk r l)
|.ref n,_,h,l=>by
  rw[D.lim] at l
  cases h with
 |ref e1=>exact .ref (cut_at e1 (of_decide_eq_true l))
theorem VRs.cutm {H0:Hp} (hk:∀b,b ∉ m++e→H0 b=H' b):∀{d:List D} {v:List V},VRs K (m++e) H' d v→D.lims m.length d=true→VRs K m H0 d v
|[],_,h,_=>by cases h;exact .nil
|_::_,_,h,l=>by
  rw[D.lims] at l
  obtain⟨l1,l2⟩:=and3 l
  cases h with
 |cons a b=>exact .cons (VR.cutm hk a l1) (VRs.cutm hk b l2)
end
theorem oldOk_at {n:Nat}:∀{s s':Sto},oldOk n s s'=true→∀(i:Nat) (o o':Ob),s[i]?=some o→s'[i]?=some o'→o=o'∨o'.lim n=true
|[],_,_,i,o,o',e,_=>by simp at e
|a::r,[],h,_,_,_,_,_=>by simp[oldOk] at h
|a::r,b::t,h,i,o,o',e1,e2=>by
  rw[oldOk] at h
  obtain⟨h1,h2⟩:=and3 h
  cases i with
 |zero=>
   simp at e1 e2
   subst e1 e2
   rcases Bool.or_eq_true_iff.mp h1 with z|z
   ·exact .inl (of_decide_eq_true z)
   ·exact .inr z
 |succ i=>exact oldOk_at h2 i o o' (by simpa using e1) (by simpa using e2)
theorem oldOk_len {n:Nat}:∀{s s':Sto},oldOk n s s'=true→s.length≤s'.length
|[],_,_=>Nat.zero_le _
|a::r,[],h=>by simp[oldOk] at h
|a::r,b::t,h=>by
  rw[oldOk] at h
  exact Nat.succ_le_succ (oldOk_len (and3 h).2)
theorem Rl.cutm {H0:Hp} (rl:Rl K m H st) (rl':Rl K (m++e) H' st') (ho:oldOk st.length st st'=true) (hk:∀b,b ∉ e→H0 b=H' b):Rl K m H0 (st'.take st.length):=by
 have hl:=oldOk_len ho
 refine⟨by rw[List.length_take,rl.len];omega,rl.nd,fun n a o e1 e2 => ?_⟩
 have hn:n<m.length:=(List.getElem?_eq_some_iff.mp e1).1
 have e1':(m++e)[n]?=some a:=by rw[List.getElem?_append_left hn];exact e1
 have e2':st'[n]?=some o:=by
  rw[List.getElem?_take_of_lt (by rw[←rl.len];exact hn)] at e2
  exact e2
 have hk2:∀b,b ∉ m++e→H0 b=H' b:=fun b hb=>hk b fun z=>hb (List.mem_append_right _ z)
 have ha:a ∉ e:=fun z=>(List.nodup_append.mp rl'.nd).2.2 a (List.mem_of_getElem? e1) a z rfl
 have hs:n<st.length:=by rw[←rl.len];exact hn
 obtain⟨vs,q,y⟩:=rl'.ob n a o e1' e2'
 have lim:o.lim m.length=true:=by
  rcases oldOk_at ho n st[n] o (List.getElem?_eq_getElem hs) e2' with z|z
  ·obtain⟨us,_,y0⟩:=rl.ob n a st[n] e1 (List.getElem?_eq_getElem hs)
   rw[←z]
   exact y0.lim
  ·rw[rl.len];exact z
 exact⟨vs,q.later (fun b u hb eb=>⟨(hk2 b hb).trans eb,fun z=>hb (List.mem_append_left _ z)⟩) (hk a ha),y.cutm hk2 lim⟩
theorem callV_post {W:WX} {σ:L2.St} {fresh:Bool} {g:M D} {Q:VK} (rl:Rl K m H st) (h:Post (aV K fresh) K W σ m H (callV fresh g st) Q) :
  Post (aV K false) K (fun c d _ H=>W c d σ H) [] m H (g st) Q:=by
 unfold callV at h
 cases q:g st with
|no=>rw[q] at h;exact h
|ex x st'=>
  rw[q] at h
  simp only at h
  by_cases hc:(oldOk st.length st st'&&x.lim st.length)=true
  ·rw[if_pos hc] at h
   obtain⟨ho,hx⟩:=and3 hc
   unfold Xc.lim at hx
   intro cls dd m' H' f rl' xr
   obtain⟨e,rfl⟩:=f.pre
   refine h cls dd m H' ⟨⟨[],by simp⟩,fun _ z=>.inl z,f.keep⟩ (rl.cutm rl' ho fun _ _=>rfl) ?_
   obtain⟨C,h1,h2,h3⟩:=xr
   refine⟨C,h1,h2,?_⟩
   cases hf:x.fld with
  |none=>rw[hf] at h3;exact h3
  |some p=>
    obtain⟨fl,d⟩:=p
    rw[hf] at h3 hx
    obtain⟨a,v,z1,z2,z3,z4⟩:=h3
    exact⟨a,v,z1,fun z=>z2 (List.mem_append_left _ z),z3,z4.cutm (fun _ _=>rfl) (by rw[rl.len];exact hx)⟩
  ·rw[if_neg hc] at h
   exact h
|ok d st'=>
  rw[q] at h
  simp only at h
  by_cases ho:oldOk st.length st st'=true
  case neg=>
   rw[if_neg ho] at h
   cases fresh with
  |true=>exact h.elim
  |false=>exact h
  rw[if_pos ho] at h
  cases hu:unb st.length st' fresh d with
 |none=>
   rw[hu] at h
   cases fresh with
  |true=>exact h.elim
  |false=>exact h
 |some d'=>
  rw[hu] at h
  simp only at h
  intro v m' H' f rl' hv
  have hv:=hv.1
  obtain⟨e,rfl⟩:=f.pre
  have f0:Fut m H m H':=⟨⟨[],by simp⟩,fun _ z=>.inl z,f.keep⟩
  have r0:Rl K m H' (st'.take st.length):=rl.cutm rl' ho fun _ _=>rfl
  have keepV:∀d',D.lim st.length d'=true→VR K (m++e) H' d' v→VR K m H' d' v:=fun d' l r=>r.cutm (fun _ _=>rfl) (by rw[rl.len];exact l)
  cases d with
 |ref r=>
   simp only[unb] at hu
   by_cases hr:r<st.length
   ·rw[if_pos hr] at hu
    cases fresh with
   |true=>cases hu
   |false=>cases hu;exact h v m H' f0 r0 ⟨keepV _ (by rw[D.lim];exact decide_eq_true hr) hv,fun e=>nomatch e⟩
   ·rw[if_neg hr] at hu
    cases q2:st'[r]? with
   |none=>rw[q2] at hu;cases hu
   |some o=>
     cases o with
    |lst xs=>
      rw[q2] at hu
      simp only at hu
      by_cases hl:D.lims st.length xs=true
      ·rw[if_pos hl] at hu
       cases hu
       cases hv with
      |@ref _ a e1=>
        obtain⟨vs,z,y⟩:=rl'.get e1 q2
        have hrm:m.length≤r:=by rw[rl.len];omega
        have hae:a∈e:=by
         rw[List.getElem?_append_right hrm] at e1
         exact List.mem_of_getElem? e1
        have ham:a ∉ m:=fun z=>(List.nodup_append.mp rl'.nd).2.2 a z a hae rfl
        have hHa:H a=none:=by
         rcases f.new a (List.mem_append_right _ hae) with z|z
         ·exact absurd z ham
         ·exact z
        have hle:D.lims m.length xs=true:=by rw[rl.len];exact hl
        have hv0:VR K m H' (.lst xs) (.ref a):=.lst z ham (y.cutm (fun _ _=>rfl) hle)
        refine h (.ref a) m H' f0 r0 ⟨hv0,fun _ ds ed => ?_⟩
        cases ed
        have eH:∀b,b≠a→(fun b=>if b=a then none else H' b:Hp) b=H' b:=fun b hb=>if_neg hb
        refine⟨a,vs,fun b=>if b=a then none else H' b,rfl,?_,if_pos rfl,⟨⟨[],by simp⟩,fun _ z=>.inl z,fun b u hb eb => ?_⟩,rl.cutm rl' ho ?_,y.cutm ?_ hle⟩
        ·funext b
         unfold L2.upd
         by_cases hb:b=a
         ·rw[if_pos hb,hb,z]
         ·rw[if_neg hb];exact (eH b hb).symm
        ·have:b≠a:=fun zz=>by rw[zz,hHa] at eb;cases eb
         exact (eH b this).trans (f.keep b u hb eb)
        ·exact fun b hb=>eH b fun zz=>hb (by rw[zz];exact hae)
        ·exact fun b hb=>eH b fun zz=>hb (by rw[zz];exact List.mem_append_right _ hae)
      ·rw[if_neg hl] at hu;cases hu
    |_=>rw[q2] at hu;cases hu
 |_=>
   simp only[unb] at hu
   split at hu
   ·rename_i hc
    obtain⟨hc1,hc2⟩:=and3 hc
    cases hu
    have hfr:fresh=false:=by simpa using hc1
    subst hfr
    exact h v m H' f0 r0 ⟨keepV _ hc2 hv,fun e=>nomatch e⟩
   ·cases hu
end
end Dn
namespace Dn
open PySem L2
theorem bindM_ok {α β:Type} {m:M α} {k:α→M β} {st st1:Sto} {a:α} (h:m st=.ok a st1):M.bind m k st=k a st1:=by unfold M.bind;rw[h]
theorem bindM_ex {α β:Type} {m:M α} {k:α→M β} {st st1:Sto} {x:Xc} (h:m st=.ex x st1):M.bind m k st=.ex x st1:=by unfold M.bind;rw[h]
theorem bindM_no {α β:Type} {m:M α} {k:α→M β} {st:Sto} (h:m st=.no):M.bind m k st=.no:=by unfold M.bind;rw[h]
def noStar:Expr→Bool
|.Starred _ _=>false
|_=>true
theorem starEach_cons {e:Expr} {es:List Expr} {env:PySem.Env} (h:noStar e=true):starEach (e::es) env=(false,eval e env)::starEach es env:=by
 cases e <;> first|rfl|exact nomatch h
theorem backTo_plain {pos:Pos} {env:PySem.Env}:∀{es:List Expr},es.all noStar=true→(backTo pos (starEach es env)).any (·.1)=false
|[],_=>rfl
|e::es,h=>by
  rw[List.all_cons] at h
  obtain⟨h1,h2⟩:=and3 h
  rw[starEach_cons h1]
  show (false||(backTo pos (starEach es env)).any (·.1))=false
  rw[backTo_plain h2] <;> rfl
theorem backTo_all {pos:Pos} {env:PySem.Env}:∀{es:List Expr},es.all noStar=true→(backTo pos (starEach es env)).all (fun x => !x.1)=true
|[],_=>rfl
|e::es,h=>by
  rw[List.all_cons] at h
  obtain⟨h1,h2⟩:=and3 h
  rw[starEach_cons h1]
  show (true&&(backTo pos (starEach es env)).all (fun x => !x.1))=true
  rw[backTo_all h2] <;> rfl
section
variable {X:Cx} {W:WX} {a b c e o:Expr} {es:List Expr} {f g k:Env→M D} {fa:Env→M (List D)} {pos:Pos} {fr:Bool}
theorem SE.any (h:SE X W e f fr):SE X W e f false:=by
 cases fr with
|true=>exact h.weak
|false=>exact h
theorem se_int {i j}:SE X W (.Constant (.int i) j pos) (fun _=>M.pure (.int i)) true:=pe_int.imp fun _ _ _ ⟨_,_,_,_,rl,p⟩=>p.val rl (.int i) (by simp)
theorem se_bl {i j}:SE X W (.Constant (.bool i) j pos) (fun _=>M.pure (.bl i)) true:=pe_bl.imp fun _ _ _ ⟨_,_,_,_,rl,p⟩=>p.val rl (.bl i) (by simp)
theorem se_non {j}:SE X W (.Constant .none j pos) (fun _=>M.pure .non) true:=pe_non.imp fun _ _ _ ⟨_,_,_,_,rl,p⟩=>p.val rl .non (by simp)
theorem se_str {x j}:SE X W (.Constant (.str x) j pos) (fun _=>M.pure (.str x.cps.toList)) true:=pe_str.imp fun _ _ _ ⟨_,_,_,_,rl,p⟩=>p.val rl (.str x.cps.toList) (by simp)
theorem se_var {i:Nat} {x:Str} (hN:X.N[i]?=some x) (hv:Vis X.env.scope x) (hd:(x == ("__debug__":Str))=false) (hcd:(x == ("__classdict__":Str))=false):SE X W (.Name x pos) (fun ρ=>orNo (ρ[i]?.join)) false:=
 (pe_var hN hv hd hcd).imp fun σ H Q ⟨ρ,m,st,er,rl,p⟩=>by
  have p:Post (aV X.K false) X.K W σ m H (orNo (ρ[i]?.join) st) Q:=p
  cases q:ρ[i]? with
 |none=>rw[q] at p;exact p.elim
 |some d=>
   cases d with
  |none=>rw[q] at p;exact p.elim
  |some d=>
    rw[q] at p
    obtain⟨v,e1,r⟩:=er.at_ i d q
    exact⟨v,e1,p.any rl r⟩
theorem se_glob {x:Str} {d:D} {u:Value} {v:V} (hg:Gl X x) (hm:X.mg x=some u) (r:RelV v u) (hv:∀m H,VR X.K m H d v) (hl:∀ds,d≠.lst ds) (hd:(x == ("__debug__":Str))=false):SE X W (.Name x pos) (fun _=>M.pure d) true:=
 (pe_glob hg hm r hd).imp fun σ H Q ⟨ρ,m,st,er,rl,p⟩=>p.val rl (hv m H) hl
theorem sa_nil:SA X W [] (fun _=>M.pure []):=pa_nil.imp fun σ H Q ⟨ρ,m,st,er,rl,p⟩=>p [] m H .refl rl .nil
theorem sa_cons (hs:noStar e=true) (he:SE X W e f false) (ha:SA X W es fa):SA X W (e::es) (fun ρ=>M.bind (f ρ) fun d=>M.bind (fa ρ) fun ds=>M.pure (d::ds)):=
 (pa_cons he ha (starEach_cons hs)).imp fun σ H Q h=>rd_bind laterL h fun ρ d v st1 m m1 H1 f1 r1 er av p=>
  ⟨ρ,m1,st1,er,r1,p.bind laterL fun ds vs st2 m2 H2 f2 r2 avs q=>q (v::vs) m2 H2 .refl r2 (.cons (av.1.mono f2) avs)⟩
theorem se_tup {j} (ha:SA X W es fa):SE X W (.Tuple es j pos) (fun ρ=>M.bind (fa ρ) fun ds=>whenM (szOk ds.length) (M.pure (.tup ds))) true:=
 (DnU.pe_tupF ha).imp fun σ H Q h=>rd_bind laterV h fun ρ ds vs st1 m m1 H1 f1 r1 er av p=>by
  obtain⟨hz,p⟩:=p.when
  exact⟨by rw[←VRs.length av];exact szOk_line hz,fun q us hq=>p.newT r1 hq av⟩
theorem se_lst (ha:SA X W es fa):SE X W (.List es pos) (fun ρ=>M.bind (fa ρ) fun ds=>whenM (szOk ds.length) (M.pure (.lst ds))) true:=
 (pe_lst ha).imp fun σ H Q h=>rd_bind laterV h fun ρ ds vs st1 m m1 H1 f1 r1 er av p=>by
  obtain⟨hz,p⟩:=p.when
  exact⟨by rw[←VRs.length av];exact szOk_line hz,fun q hq=>p.newL r1 hq av⟩
theorem rd2 {K:PySem.W.Frag} {σ:L2.St} {H:Hp} {Q:VK} {k:D→D→M D} (h:rd (aV K fr) K W (fun ρ=>M.bind (f ρ) fun x=>M.bind (g ρ) fun y=>k x y) σ H Q) {r:V→V→Hp→Prop}
  (hr:∀m H st x y u v,Rl K m H st→VR K m H x u→VR K m H y v→Post (aV K fr) K W σ m H (k x y st) Q→r u v H):rd (aV K false) K W f σ H fun u H1=>rd (aV K false) K W g σ H1 fun v H2=>r u v H2:=
 rd_bind laterV h fun ρ x u st1 m m1 H1 f1 r1 er vx p=>⟨ρ,m1,st1,er,r1,p.bind laterV fun y v st2 m2 H2 f2 r2 vy q=>hr m2 H2 st2 x y u v r2 (vx.1.mono f2) vy.1 q⟩
theorem se_bin {op:Operator} (ha:SE X W a f false) (hb:SE X W b g false):SE X W (.BinOp a op b pos) (fun ρ=>M.bind (f ρ) fun x=>M.bind (g ρ) fun y=>binOp op x y) true:=by
 obtain⟨r,ho,hd⟩:=bin_ok X op
 exact (pe_op ho ha hb).imp fun σ H Q h=>rd2 h fun m H st x y u v rl hx hy p=>hd W σ m H st x y u v Q rl hx hy p
theorem se_cmp {op:CmpOp} (hu:X.A.units+64<cLine) (hm:behindInMarks op b=false) (ha:SE X W a f false) (hb:SE X W b g false):SE X W (.Compare a [op] [b] pos) (fun ρ=>M.bind (f ρ) fun x=>M.bind (g ρ) fun y=>cmpOp op x y) true:=by
 obtain⟨r,ho,hd⟩:=cmp_ok X hu op
 exact (pe_cmpR ho ha hb hm).imp fun σ H Q h=>rd2 h fun m H st x y u v rl hx hy p=>hd W σ m H st x y u v Q rl hx hy p
theorem se_ix (hs:PlainIx b) (ha:SE X W a f false) (hb:SE X W b g false):SE X W (.Subscript a b pos) (fun ρ=>M.bind (f ρ) fun x=>M.bind (g ρ) fun y=>ixOp x y) false:=
 (pe_ix ix_seq ha hb hs).imp fun σ H Q h=>rd2 h fun m H st x y u v rl hx hy p=>ix_ok W σ m H st x y u v Q rl hx hy p
theorem se_neg (ha:SE X W a f false):SE X W (.UnaryOp .USub a pos) (fun ρ=>M.bind (f ρ) fun x=>M.bind (asInt? x) fun i=>M.pure (.int (-i))) true:=
 (pe_un un_neg ha).imp fun σ H Q h=>rd_bind laterV h fun ρ x u st1 m m1 H1 f1 r1 er vx p=>by
  cases x with
 |int i=>
   cases vx.1
   exact⟨i,rfl,p.val r1 (.int _) (by simp)⟩
 |_=>exact p.elim
theorem pure_tru {K:PySem.W.Frag} {σ:L2.St} {m:List Addr} {H:Hp} {st:Sto} {x:D} {u:V} {γ δ:Type} {B:Rel γ δ} {Q:δ→Hp→Prop} {k:Bool→M γ} (rl:Rl K m H st) (hx:VR K m H x u) (p:Post B K W σ m H (M.bind (truth x) k st) Q):∃t,TruV K u H t∧Post B K W σ m H (k t st) Q:=by
 unfold M.bind at p
 cases q:truth x st with
|ok t st1=>
  rw[q] at p
  obtain⟨h1,h2⟩:=truS hx rl q
  subst h2
  exact⟨t,h1,p⟩
|ex y st1=>exact absurd q truth_no
|no=>rw[q] at p;exact p.elim
theorem se_not (ha:SE X W a f false):SE X W (.UnaryOp .Not a pos) (fun ρ=>M.bind (f ρ) fun x=>M.bind (truth x) fun b=>M.pure (.bl (!b))) true:=
 (pe_notT ha).imp fun σ H Q h=>rd_bind laterV h fun ρ x u st1 m m1 H1 f1 r1 er vx p=>by
  obtain⟨t,h1,p⟩:=pure_tru r1 vx.1 p
  exact⟨t,h1,p.val r1 (.bl _) (by simp)⟩
theorem se_one {op:BoolOp} (ha:SE X W a f fr):SE X W (.BoolOp op [a] pos) f fr:=pe_one ha
theorem se_and {r:List Expr} (ha:SE X W a f false) (hb:SE X W (.BoolOp .And (b::r) pos) g false):SE X W (.BoolOp .And (a::b::r) pos) (fun ρ=>M.bind (f ρ) fun x=>M.bind (truth x) fun t=>if t then g ρ else M.pure x) false:=
 (pe_andT ha hb).imp fun σ H Q h=>rd_bind laterV h fun ρ x u st1 m m1 H1 f1 r1 er vx p=>by
  obtain⟨t,h1,p⟩:=pure_tru r1 vx.1 p
  refine⟨t,h1,?_⟩
  cases t with
 |true=>exact⟨ρ,m1,st1,er,r1,p⟩
 |false=>exact p.any r1 vx.1
theorem se_or {r:List Expr} (ha:SE X W a f false) (hb:SE X W (.BoolOp .Or (b::r) pos) g false):SE X W (.BoolOp .Or (a::b::r) pos) (fun ρ=>M.bind (f ρ) fun x=>M.bind (truth x) fun t=>if t then M.pure x else g ρ) false:=
 (pe_orT ha hb).imp fun σ H Q h=>rd_bind laterV h fun ρ x u st1 m m1 H1 f1 r1 er vx p=>by
  obtain⟨t,h1,p⟩:=pure_tru r1 vx.1 p
  refine⟨t,h1,?_⟩
  cases t with
 |true=>exact p.any r1 vx.1
 |false=>exact⟨ρ,m1,st1,er,r1,p⟩
theorem cmp_bl {op:CmpOp} {x y:D} {st st1:Sto} {d:D} (h:cmpOp op x y st=.ok d st1):∃t,d=.bl t∧st1=st:=by
 cases op <;> simp only[cmpOp] at h
 all_goals first
 |(split at h <;> first|(cases h;exact⟨_,rfl,rfl⟩)|cases h)
 |(cases x <;> cases y <;> first|(cases h;exact⟨_,rfl,rfl⟩)|cases h|skip)
 all_goals (split at h <;> first|(cases h;exact⟨_,rfl,rfl⟩)|cases h)
theorem cmp_noex {op:CmpOp} {x y:D} {st st1:Sto} {z:Xc}:cmpOp op x y st≠.ex z st1:=by
 intro h
 cases op <;> simp only[cmpOp] at h
 all_goals first
 |(split at h <;> cases h;done)
 |(cases x <;> cases y <;> first|cases h|skip)
 all_goals (split at h <;> cases h)
theorem se_cmp2 {op op':CmpOp} (hu:X.A.units+64<cLine) (hm:behindInMarks op' c=false) (ha:SE X W a f false) (hb:SE X W b g false) (hc:SE X W c k false) :
  SE X W (.Compare a [op,op'] [b,c] pos) (fun ρ=>M.bind (f ρ) fun x=>M.bind (g ρ) fun y=>M.bind (cmpOp op x y) fun t=>M.bind (orNo (isBl t)) fun t=>if t then M.bind (k ρ) fun z=>cmpOp op' y z else M.pure (.bl false)) true:=by
 obtain⟨r,ho,hd⟩:=cmp_ok X hu op
 obtain⟨r',ho',hd'⟩:=cmp_ok X hu op'
 refine (pe_chain ho ho' ha hb hc (show behindInMarks op' c=false from hm)).imp fun σ H Q h => ?_
 refine rd_bind laterV h fun ρ x u st1 m m1 H1 f1 r1 er vx p=>⟨ρ,m1,st1,er,r1,p.bind laterV fun y v st2 m2 H2 f2 r2 vy q => ?_⟩
 refine hd W σ m2 H2 st2 x y u v _ r2 (vx.1.mono f2) vy.1 ?_
 cases e:cmpOp op x y st2 with
|no=>rw[show M.bind (cmpOp op x y) _ st2=.no by unfold M.bind;rw[e]] at q;exact q
|ex z st3=>exact absurd e cmp_noex
|ok d st3=>
  obtain⟨t,rfl,rfl⟩:=cmp_bl e
  intro z m3 H3 f3 r3 az
  cases az.1
  refine⟨t,rfl,?_⟩
  have q:Post (aV X.K true) X.K W σ m2 H2 ((if t then M.bind (k ρ) fun z=>cmpOp op' y z else M.pure (.bl false)) st3) Q:=by
   have e2:M.bind (cmpOp op x y) (fun t=>M.bind (orNo (isBl t)) fun t=>if t then M.bind (k ρ) fun z=>cmpOp op' y z else M.pure (.bl false)) st3=(if t then M.bind (k ρ) fun z=>cmpOp op' y z else M.pure (.bl false)) st3:=by
    unfold M.bind
    rw[e] <;> rfl
   rw[←e2]
   exact q
  have q:=q.later laterV f3 r3
  cases t with
 |true=>exact⟨ρ,m3,st3,er.mono (f2.trans f3),r3,q.bind laterV fun z w st4 m4 H4 f4 r4 vz q2=>hd' W σ m4 H4 st4 y z v w Q r4 ((vy.1.mono f3).mono f4) vz.1 q2⟩
 |false=>exact q.val r3 (.bl _) (by simp)
theorem st_tru (he:∀whole,isTrue a X.env whole=(do let v ←whole;standAt a.pos;holding [v] (truthy v))) (ha:SE X W a f false):ST X W a (fun ρ=>M.bind (f ρ) truth):=
 (pt_truth ha he).imp fun σ H Q h=>rd_bind laterB h fun ρ x u st1 m m1 H1 f1 r1 er vx p=>by
  have p:Post aB X.K W σ m1 H1 (M.bind (truth x) M.pure st1) Q:=by
   have e:M.bind (truth x) M.pure st1=truth x st1:=by
    unfold M.bind
    cases truth x st1 <;> rfl
   rw[e];exact p
  obtain⟨t,h1,p⟩:=pure_tru r1 vx.1 p
  exact⟨t,h1,p t m1 H1 .refl r1 rfl⟩
theorem st_not {t:Env→M Bool} (ha:ST X W a t):ST X W (.UnaryOp .Not a pos) (fun ρ=>M.bind (t ρ) fun b=>M.pure (!b)):=
 (pt_not ha).imp fun σ H Q h=>rd_bind laterB h fun ρ x u st1 m m1 H1 f1 r1 er vx p=>by
  cases vx
  exact p (!x) m1 H1 .refl r1 rfl
theorem M.bind_assoc {α β γ:Type} (m:M α) (f:α→M β) (g:β→M γ):M.bind (M.bind m f) g=M.bind m fun a=>M.bind (f a) g:=by
 funext st
 unfold M.bind
 cases m st <;> rfl
theorem Post.tru {K:PySem.W.Frag} {σ:L2.St} {m:List Addr} {H:Hp} {st:Sto} {op:CmpOp} {x y:D} {Q:Bool→Hp→Prop} (p:Post aB K W σ m H (M.bind (cmpOp op x y) truth st) Q):Post (aV K true) K W σ m H (cmpOp op x y st) fun z H'=>∃t,z=.bl t∧Q t H':=by
 unfold M.bind at p
 cases e:cmpOp op x y st with
|no=>rw[e] at p;exact p
|ex z st3=>exact absurd e cmp_noex
|ok d st3=>
  rw[e] at p
  obtain⟨t,rfl,rfl⟩:=cmp_bl e
  intro z m3 H3 f3 r3 az
  cases az.1
  exact⟨t,rfl,p t m3 H3 f3 r3 rfl⟩
theorem st_cmp {op:CmpOp} (hu:X.A.units+64<cLine) (hm:behindInMarks op b=false) (ha:SE X W a f false) (hb:SE X W b g false):ST X W (.Compare a [op] [b] pos) (fun ρ=>M.bind (M.bind (f ρ) fun x=>M.bind (g ρ) fun y=>cmpOp op x y) truth):=by
 obtain⟨r,ho,hd⟩:=cmp_ok X hu op
 refine (pt_cmpR ho ha hb hm).imp fun σ H Q h => ?_
 simp only[M.bind_assoc] at h
 exact rd_bind laterB h fun ρ x u st1 m m1 H1 f1 r1 er vx p=>⟨ρ,m1,st1,er,r1,p.bind laterB fun y v st2 m2 H2 f2 r2 vy q=>hd W σ m2 H2 st2 x y u v _ r2 (vx.1.mono f2) vy.1 q.tru⟩
theorem st_cmp2 {op op':CmpOp} (hu:X.A.units+64<cLine) (hm:behindInMarks op' c=false) (ha:SE X W a f false) (hb:SE X W b g false) (hc:SE X W c k false) :
  ST X W (.Compare a [op,op'] [b,c] pos) (fun ρ=>M.bind (M.bind (f ρ) fun x=>M.bind (g ρ) fun y=>M.bind (cmpOp op x y) fun t=>M.bind (orNo (isBl t)) fun t=>if t then M.bind (k ρ) fun z=>cmpOp op' y z else M.pure (.bl false)) truth):=by
 obtain⟨r,ho,hd⟩:=cmp_ok X hu op
 obtain⟨r',ho',hd'⟩:=cmp_ok X hu op'
 refine (pt_chain ho ho' ha hb hc (show behindInMarks op' c=false from hm)).imp fun σ H Q h => ?_
 simp only[M.bind_assoc] at h
 refine rd_bind laterB h fun ρ x u st1 m m1 H1 f1 r1 er vx p=>⟨ρ,m1,st1,er,r1,p.bind laterB fun y v st2 m2 H2 f2 r2 vy q => ?_⟩
 refine hd W σ m2 H2 st2 x y u v _ r2 (vx.1.mono f2) vy.1 ?_
 cases e:cmpOp op x y st2 with
|no=>
  unfold M.bind at q
  rw[e] at q;exact q
|ex z st3=>exact absurd e cmp_noex
|ok d st3=>
  obtain⟨t,rfl,rfl⟩:=cmp_bl e
  intro z m3 H3 f3 r3 az
  cases az.1
  refine⟨t,rfl,?_⟩
  have q:Post aB X.K W σ m2 H2 (M.bind (if t then M.bind (k ρ) fun z=>cmpOp op' y z else M.pure (.bl false)) truth st3) Q:=by
   have e2:M.bind (cmpOp op x y) (fun t=>M.bind (orNo (isBl t)) fun t=>M.bind (if t then M.bind (k ρ) fun z=>cmpOp op' y z else M.pure (.bl false)) truth) st3=M.bind (if t then M.bind (k ρ) fun z=>cmpOp op' y z else M.pure (.bl false)) truth st3:=by
    rw[bindM_ok e] <;> rfl
   rw[←e2]
   exact q
  have q:=q.later laterB f3 r3
  cases t with
 |true=>
   have q:Post aB X.K W σ m3 H3 (M.bind (k ρ) (fun z=>M.bind (cmpOp op' y z) truth) st3) Q:=by
    rw[←M.bind_assoc]
    exact q
   exact⟨ρ,m3,st3,er.mono (f2.trans f3),r3,q.bind laterB fun z w st4 m4 H4 f4 r4 vz q2=>hd' W σ m4 H4 st4 y z v w _ r4 ((vy.1.mono f3).mono f4) vz.1 q2.tru⟩
 |false=>exact⟨false,rfl,q false m3 H3 .refl r3 rfl⟩
abbrev SW (X:Cx) (W:WX) (e:Expr) (f:Env→M Bool):Prop:=PW X e (rd aB X.K W f)
theorem _root_.L2.PW.imp {X:Cx} {e:Expr} {t t':TT} (h:PW X e t) (hi:∀σ H Q,t' σ H Q→t σ H Q):PW X e t':=⟨fun wh pins s σ H Q I q=>h.run wh pins s σ H Q I (hi _ _ _ q)⟩
variable {t t' t'':Env→M Bool}
theorem sw_and1 (ha:ST X W a t):SW X W (.BoolOp .And [a] pos) t:=pw_and1 ha
theorem sw_or1 (ha:ST X W a t):SW X W (.BoolOp .Or [a] pos) t:=pw_or1 ha
theorem sw_and {r:List Expr} (ha:ST X W a t) (hb:SW X W (.BoolOp .And (b::r) pos) t'):SW X W (.BoolOp .And (a::b::r) pos) (fun ρ=>M.bind (t ρ) fun c=>if c then t' ρ else M.pure false):=
 (pw_and ha hb).imp fun σ H Q h=>rd_bind laterB h fun ρ x u st1 m m1 H1 f1 r1 er vx p=>by
  cases vx
  cases x with
 |true=>exact iteT ⟨ρ,m1,st1,er,r1,p⟩
 |false=>exact iteF (p false m1 H1 .refl r1 rfl)
theorem sw_or {r:List Expr} (ha:ST X W a t) (hb:SW X W (.BoolOp .Or (b::r) pos) t'):SW X W (.BoolOp .Or (a::b::r) pos) (fun ρ=>M.bind (t ρ) fun c=>if c then M.pure true else t' ρ):=
 (pw_or ha hb).imp fun σ H Q h=>rd_bind laterB h fun ρ x u st1 m m1 H1 f1 r1 er vx p=>by
  cases vx
  cases x with
 |true=>exact iteT (p true m1 H1 .refl r1 rfl)
 |false=>exact iteF ⟨ρ,m1,st1,er,r1,p⟩
theorem st_ite (hc:ST X W c t) (ha:ST X W a t') (hb:ST X W b t''):ST X W (.IfExp c a b pos) (fun ρ=>M.bind (t ρ) fun q=>if q then t' ρ else t'' ρ):=by
 have h:PT X (.IfExp c a b pos) (fun σ H Q=>rd aB X.K W t σ H fun q H1=>if q=true then rd aB X.K W t' σ H1 Q else rd aB X.K W t'' σ H1 Q):=⟨fun pins s σ H Q I h=>by
  show wpAny _ _ (do if ←isTrue c X.env (eval c X.env) then isTrue a X.env (eval a X.env) else isTrue b X.env (eval b X.env)) _ _ _
  refine wpAny_bind (thn (hc.run pins s σ H _ I h) fun d s1 ⟨H1,I1,q1⟩ => ?_)
  cases d with
 |true=>exact ha.run pins s1 σ H1 Q I1 q1
 |false=>exact hb.run pins s1 σ H1 Q I1 q1⟩
 exact h.imp fun σ H Q h=>rd_bind laterB h fun ρ x u st1 m m1 H1 f1 r1 er vx p=>by
  cases vx
  cases x with
 |true=>exact iteT ⟨ρ,m1,st1,er,r1,p⟩
 |false=>exact iteF ⟨ρ,m1,st1,er,r1,p⟩
theorem se_ite (hc:ST X W c t) (ha:SE X W a f fr) (hb:SE X W b g fr):SE X W (.IfExp c a b pos) (fun ρ=>M.bind (t ρ) fun q=>if q then f ρ else g ρ) fr:=
 (pe_ifExp hc ha hb).imp fun σ H Q h=>rd_bind laterV h fun ρ x u st1 m m1 H1 f1 r1 er vx p=>by
  cases vx
  cases x with
 |true=>exact iteT ⟨ρ,m1,st1,er,r1,p⟩
 |false=>exact iteF ⟨ρ,m1,st1,er,r1,p⟩
theorem so_none:SO X W none (fun _=>M.pure none):=po_none.imp fun σ H Q ⟨ρ,m,st,er,rl,p⟩=>p none m H .refl rl rfl
theorem so_some (ha:SE X W a f false):SO X W (some a) (fun ρ=>M.bind (f ρ) fun d=>M.bind (asInt? d) fun i=>M.pure (some i)):=
 (po_some ha).imp fun σ H Q h=>rd_bind laterO h fun ρ x u st1 m m1 H1 f1 r1 er vx p=>by
  cases x with
 |int i=>
   cases vx.1
   exact⟨i,rfl,p (some i) m1 H1 .refl r1 rfl⟩
 |_=>exact p.elim
theorem se_sl {lo hi:Option Expr} {fl fh:Env→M (Option Int)} {p2:Pos} (ha:SE X W a f false) (hl:SO X W lo fl) (hh:SO X W hi fh) :
  SE X W (.Subscript a (.Slice lo hi none p2) pos) (fun ρ=>M.bind (f ρ) fun x=>M.bind (fl ρ) fun l=>M.bind (fh ρ) fun h=>slOp x l h) true:=
 (pe_slice sl_all ha hl hh).imp fun σ H Q h=>rd_bind laterV h fun ρ x u st1 m m1 H1 f1 r1 er vx p=>⟨ρ,m1,st1,er,r1,p.bind laterV fun l l' st2 m2 H2 f2 r2 el p=>⟨ρ,m2,st2,er.mono f2,r2,p.bind laterV fun h h' st3 m3 H3 f3 r3 eh p=>by
  cases el
  cases eh
  exact sl_ok r3 ((vx.1.mono f2).mono f3) p⟩⟩
theorem VRs.rev {K:PySem.W.Frag} {m:List Addr} {H:Hp}:∀{ds:List D} {vs:List V},VRs K m H ds vs→VRs K m H ds.reverse vs.reverse
|[],vs,h=>by cases h;exact .nil
|d::ds,vs,h=>by
  cases h with
 |cons a r=>
   rw[List.reverse_cons,List.reverse_cons]
   exact (VRs.rev r).append (.cons a .nil)
theorem se_rv {kk:Nat} {p1 p2 p3:Pos} (ha:SE X W a f false):SE X W (.Subscript a (.Slice none none (some (.UnaryOp .USub (.Constant (.int 1) kk p1) p2)) p3) pos) (fun ρ=>M.bind (f ρ) fun x=>rvOp x) true:=
 (DnU.pe_revA ha).imp fun σ H Q h=>rd_bind laterV h fun ρ x u st1 m m1 H1 f1 r1 er vx p=>by
  have go:∀{xs:List D} {s1:Sto},listOf x st1=.ok xs s1→Post (aV X.K true) X.K W σ m1 H1 (.ok (.lst xs.reverse) st1) Q→(∃a xs,u=.ref a∧SqL X.K H1 a xs∧∀p,H1 p=none→Q (.ref p) (L2.upd H1 p (.lst xs.reverse))) ∨
    (∃a xs,u=.ref a∧SqT X.K H1 a xs∧∀p us,H1 p=none→Q (.ref p) (L2.upd H1 p (DnU.tf us xs.reverse))):=fun {xs s1} e p=>by
   obtain⟨ad,vs,rfl,s,r,_⟩:=listS vx.1 r1 e
   exact .inl ⟨ad,vs,rfl,s,fun q hq=>p.newL r1 hq r.rev⟩
  unfold rvOp at p
  cases x with
 |tup xs=>
   obtain⟨ad,vs,rfl,s,r⟩:=vx.1.tupS
   exact .inr ⟨ad,vs,rfl,s,fun q us hq=>p.newT r1 hq r.rev⟩
 |_=>
   simp only at p
   split at p
   ·rename_i e
    exact go e p
   ·exact p.elim
theorem se_bi {bf:Bi} {p:Pos} (hc:X.calm=true) (hg:Gl X bf.name) (hm:X.mg bf.name=none) (hs:(e::es).all noStar=true) (ha:SA X W (e::es) fa):SE X W (.Call (.Name bf.name p) (e::es) [] pos) (fun ρ=>M.bind (fa ρ) fun ds=>biOp bf ds) true:=by
 obtain⟨r,hr,hd⟩:=bi_ok X hc bf
 have hs':=hs
 rw[List.all_cons] at hs'
 obtain⟨s1,s2⟩:=and3 hs'
 have n1:bf.name ≠ "__name__":=by cases bf <;> decide +kernel
 have n2:(bf.name == ("__debug__":Str))=false:=by cases bf <;> decide +kernel
 have hp:PE X (.Call (.Name bf.name p) (e::es) [] pos) (tCB r (rd (aL X.K) X.K W fa)):=by
  cases bf with
 |str=>exact pe_callTy hr hg hm (Bi.boot .str) ha n1 n2 (starEach_cons s1) (backTo_plain s2)
 |int=>exact pe_callTy hr hg hm (Bi.boot .int) ha n1 n2 (starEach_cons s1) (backTo_plain s2)
 |list=>exact pe_callTy hr hg hm (Bi.boot .list) ha n1 n2 (starEach_cons s1) (backTo_plain s2)
 |tuple=>exact pe_callTy hr hg hm (Bi.boot .tuple) ha n1 n2 (starEach_cons s1) (backTo_plain s2)
 |len=>exact pe_callB hr hg hm (Bi.boot .len) ha n1 n2 (starEach_cons s1) (backTo_plain s2)
 |sum=>exact pe_callB hr hg hm (Bi.boot .sum) ha n1 n2 (starEach_cons s1) (backTo_plain s2)
 |all=>exact pe_callB hr hg hm (Bi.boot .all) ha n1 n2 (starEach_cons s1) (backTo_plain s2)
 |any=>exact pe_callB hr hg hm (Bi.boot .any) ha n1 n2 (starEach_cons s1) (backTo_plain s2)
 |min=>exact pe_callB hr hg hm (Bi.boot .min) ha n1 n2 (starEach_cons s1) (backTo_plain s2)
 |max=>exact pe_callB hr hg hm (Bi.boot .max) ha n1 n2 (starEach_cons s1) (backTo_plain s2)
 |sorted=>exact pe_callB hr hg hm (Bi.boot .sorted) ha n1 n2 (starEach_cons s1) (backTo_plain s2)
 exact hp.imp fun σ H Q h=>rd_bind laterV h fun ρ ds vs st1 m m1 H1 f1 r1 er av q=>hd W σ m1 H1 st1 ds vs Q r1 av q
theorem rtM_ok {m:Me} {x:D} {st st1:Sto} {r:Rt} (h:rtM m x st=.ok r st1):rtOf x st=some r∧meHas m r=true∧st1=st:=by
 unfold rtM at h
 cases q:rtOf x st with
|none=>rw[q] at h;cases h
|some r'=>
  rw[q] at h
  simp only at h
  split at h
  ·cases h;exact⟨rfl,by assumption,rfl⟩
  ·cases h
theorem rtM_noex {m:Me} {x:D} {st st1:Sto} {z:Xc}:rtM m x st≠.ex z st1:=by
 unfold rtM
 repeat' split
 all_goals (intro h;cases h)
theorem _root_.L2.PE.ex {X:Cx} {e:Expr} {ι:Type} {t:ι→TE} (h:∀i,PE X e (t i)):PE X e (fun σ H Q=>∃i,t i σ H Q):=⟨fun pins s σ H Q I ⟨i,q⟩=>(h i).run pins s σ H Q I q⟩
abbrev RtH (bm:Me):={r:Rt // meHas bm r=true}
theorem Me.rt0 (bm:Me):∃r:Rt,meHas bm r=true:=by
 cases bm
 ·exact⟨.lst,rfl⟩
 ·exact⟨.lst,rfl⟩
 ·exact⟨.str,rfl⟩
 ·exact⟨.str,rfl⟩
 ·exact⟨.lst,rfl⟩
 ·exact⟨.lst,rfl⟩
theorem se_me {bm:Me} {apos:Pos} (hc:X.calm=true) (hu:X.A.units+64<cLine) (hb:attributeBase o bm.name X.env (eval o X.env)=eval o X.env) (hline:(apos.endLine == pos.line)=true) (hs:(e::es).all noStar=true) (hl:(e::es).length<29)
  (ho:SE X W o f false) (ha:SA X W (e::es) fa):SE X W (.Call (.Attribute o bm.name apos) (e::es) [] pos) (fun ρ=>M.bind (f ρ) fun x=>M.bind (rtM bm x) fun _=>M.bind (fa ρ) fun ds=>meOp bm x ds) false:=by
 have hs':=hs
 rw[List.all_cons] at hs'
 obtain⟨s1,s2⟩:=and3 hs'
 have hp:∀r:RtH bm,PE X (.Call (.Attribute o bm.name apos) (e::es) [] pos) (tBM X.K r.1.T (Classical.choose (me_ok X hc hu bm r.1 r.2)) (rd (aV X.K false) X.K W f) (rd (aL X.K) X.K W fa)):=fun r=>by
  refine pe_bm r.1.attrs (bm.slot r.1 r.2) (bm.type r.1 r.2) (Classical.choose_spec (me_ok X hc hu bm r.1 r.2)).1 ho ha hb ?_ hline (starEach_cons s1) (backTo_plain s2)
  rw[backTo_all hs]
  show (true&&true&&decide ((e::es).length+0+0<30))=true
  rw[decide_eq_true (by omega)] <;> rfl
 refine (PE.ex hp).imp fun σ H Q h => ?_
 obtain⟨ρ,m,st,er,rl,p⟩:=h
 have p:Post (aV X.K false) X.K W σ m H (M.bind (f ρ) (fun x=>M.bind (rtM bm x) fun _=>M.bind (fa ρ) fun ds=>meOp bm x ds) st) Q:=p
 cases e1:f ρ st with
|no=>rw[bindM_no e1] at p;exact p.elim
|ex z st1=>
  obtain⟨r0,h0⟩:=bm.rt0
  rw[bindM_ex e1] at p
  exact⟨⟨r0,h0⟩,ρ,m,st,er,rl,by rw[e1];exact p⟩
|ok x st1=>
  rw[bindM_ok e1] at p
  cases e2:rtM bm x st1 with
 |no=>rw[bindM_no e2] at p;exact p.elim
 |ex z st2=>exact absurd e2 rtM_noex
 |ok r st2=>
   obtain⟨h1,h2,rfl⟩:=rtM_ok e2
   rw[bindM_ok e2] at p
   refine⟨⟨r,h2⟩,ρ,m,st,er,rl,?_⟩
   rw[e1]
   intro v m1 H1 f1 r1 av
   exact⟨rt_ok r1 av.1 h1,ρ,m1,st2,er.mono f1,r1,(p.later laterV f1 r1).bind laterV fun ds vs st3 m2 H2 f2 r2 av2 q2=>
    (Classical.choose_spec (me_ok X hc hu bm r h2)).2 W σ m2 H2 st3 x v ds vs Q r2 (av.1.mono f2) av2 (rtD_of h1) q2⟩
theorem se_me0 {bm:Me} {apos:Pos} (hc:X.calm=true) (hu:X.A.units+64<cLine) (hb:attributeBase o bm.name X.env (eval o X.env)=eval o X.env) (hline:(apos.endLine == pos.line)=true)
  (ho:SE X W o f false):SE X W (.Call (.Attribute o bm.name apos) [] [] pos) (fun ρ=>M.bind (f ρ) fun x=>M.bind (rtM bm x) fun _=>M.bind (M.pure []) fun ds=>meOp bm x ds) false:=by
 have hp:∀r:RtH bm,PE X (.Call (.Attribute o bm.name apos) [] [] pos) (tBM0 X.K r.1.T (Classical.choose (me_ok X hc hu bm r.1 r.2)) (rd (aV X.K false) X.K W f)):=fun r=>
  pe_bm0 r.1.attrs (bm.slot r.1 r.2) (bm.type r.1 r.2) (Classical.choose_spec (me_ok X hc hu bm r.1 r.2)).1 ho hb hline
 refine (PE.ex hp).imp fun σ H Q h => ?_
 obtain⟨ρ,m,st,er,rl,p⟩:=h
 have p:Post (aV X.K false) X.K W σ m H (M.bind (f ρ) (fun x=>M.bind (rtM bm x) fun _=>M.bind (M.pure []) fun ds=>meOp bm x ds) st) Q:=p
 cases e1:f ρ st with
|no=>rw[bindM_no e1] at p;exact p.elim
|ex z st1=>
  obtain⟨r0,h0⟩:=bm.rt0
  rw[bindM_ex e1] at p
  exact⟨⟨r0,h0⟩,ρ,m,st,er,rl,by rw[e1];exact p⟩
|ok x st1=>
  rw[bindM_ok e1] at p
  cases e2:rtM bm x st1 with
 |no=>rw[bindM_no e2] at p;exact p.elim
 |ex z st2=>exact absurd e2 rtM_noex
 |ok r st2=>
   obtain⟨h1,h2,rfl⟩:=rtM_ok e2
   rw[bindM_ok e2] at p
   refine⟨⟨r,h2⟩,ρ,m,st,er,rl,?_⟩
   rw[e1]
   intro v m1 H1 f1 r1 av
   exact⟨rt_ok r1 av.1 h1,(Classical.choose_spec (me_ok X hc hu bm r h2)).2 W σ m1 H1 st2 x v [] [] Q r1 av.1 .nil (rtD_of h1) (p.later laterV f1 r1)⟩
theorem se_isi {ty:Ty} {p p2:Pos} (hg:Gl X "isinstance") (hm:X.mg "isinstance"=none) (hg2:Gl X ty.name) (hm2:X.mg ty.name=none) (hs:noStar a=true) (ha:SE X W a f false) :
  SE X W (.Call (.Name "isinstance" p) [a,.Name ty.name p2] [] pos) (fun ρ=>M.bind (f ρ) fun x=>isiM ty x) true:=by
 have n1:ty.name ≠ "__name__":=by cases ty <;> decide +kernel
 have n2:(ty.name == ("__debug__":Str))=false:=by cases ty <;> decide +kernel
 have hn:PE X (.Name ty.name p2) (tC (.ty ty.nm)):=pe_bltn hg2 hm2 ty.boot rfl n1 n2
 refine (pe_callB call_isi hg hm (by decide +kernel) (pa_cons ha (pa_cons hn pa_nil) (starEach_cons hs)) (by decide) (by decide) (starEach_cons hs)).imp fun σ H Q h => ?_
 exact rd_bind laterV h fun ρ x u st1 m m1 H1 f1 r1 er vx q=>by
  cases e1:isiM ty x st1 with
 |no=>rw[e1] at q;exact q.elim
 |ex z st2=>exact absurd e1 isiM_noex
 |ok d st2=>
   obtain⟨rfl,hr⟩:=isiM_ok e1
   rw[e1] at q
   rcases hr with ⟨rfl,hr⟩|⟨rfl,n,kvs,rfl,hr⟩
   ·exact⟨u,.ty ty.nm,.type (tyN x),.type ty.nm,isiOp ty x,rfl,.ty _,tyS r1 vx.1 hr,kit_ty (kit_all ty x),q.val r1 (.bl _) (by simp)⟩
   ·exact⟨u,.ty ty.nm,.type "dict",.type ty.nm,false,rfl,.ty _,tyDic r1 vx.1 hr,kit_ty (kit_dict ty),q.val r1 (.bl _) (by simp)⟩
def spF (K:PySem.W.Frag) (np:Nat) (g:List D→M D):Sp:=fun vs H Q E=>∃ds m st,ds.length=np∧Rl K m H st∧VRs K m H ds vs∧Post (aV K false) K (fun c d _ H=>E c d H) [] m H (g ds st) Q
structure FL (X:Cx) (k:Nat) (x:Str) (np:Nat) (g:List D→M D):Prop where
 ex:∃(fa:Addr) (fd:FuncData) (ps:List Str),ps.length=np∧X.mg x=some (.ref fa)∧PySem.W.keepIn X.K (.ref fa)=true∧Binds X.K fd ps []∧FnOk X.prog X.w X.K X.mg X.base (L2.CX X.prog X.w) k fa fd ps (spF X.K np g)
theorem se_call {x:Str} {p:Pos} {np kk:Nat} {gf:List D→M D} {fresh:Bool} (F:FL X kk x np gf) (hr:Room kk X.A) (tk:Takes X W) (hg:Gl X x) (hdb:(x == ("__debug__":Str))=false) (hs:(e::es).all noStar=true)
  (hn:(e::es).length=np) (hlen:∀ρ st ds st1,fa ρ st=.ok ds st1→ds.length=np) (ha:SA X W (e::es) fa):SE X W (.Call (.Name x p) (e::es) [] pos) (fun ρ=>M.bind (fa ρ) fun ds=>callV fresh (gf ds)) fresh:=by
 obtain⟨fad,fd,ps,hps,hm,hk,hb,F⟩:=F.ex
 have hs':=hs
 rw[List.all_cons] at hs'
 obtain⟨s1,s2⟩:=and3 hs'
 refine (pe_callS F hr hg hm hk hb (fun σ=>passAt tk σ) ha hdb (starEach_cons s1) (backTo_plain s2)).imp fun σ H Q h => ?_
 obtain⟨ρ,m,st,er,rl,q⟩:=h
 refine⟨ρ,m,st,er,rl,?_⟩
 have q:Post (aV X.K fresh) X.K W σ m H (M.bind (fa ρ) (fun ds=>callV fresh (gf ds)) st) Q:=q
 cases e1:fa ρ st with
|no=>rw[bindM_no e1] at q;exact q
|ex y st1=>rw[bindM_ex e1] at q;exact q
|ok ds st1=>
  rw[bindM_ok e1] at q
  intro vs m1 H1 f1 r1 av
  exact⟨ds,m1,st1,hlen ρ st ds st1 e1,r1,av,callV_post r1 (q.later laterV f1 r1)⟩
structure FLD (X:Cx) (k:Nat) (x:Str) (np:Nat) (g:List D→M D) (cs:List D):Prop where
 ex:∃(fa:Addr) (fd:FuncData) (ps:List Str) (ds:List Value) (dvs:List V),ps.length=np∧X.mg x=some (.ref fa)∧PySem.W.keepIn X.K (.ref fa)=true∧Binds X.K fd ps ds∧Vals dvs ds∧(∀m H,VRs X.K m H cs dvs)∧FnOk X.prog X.w X.K X.mg X.base (L2.CX X.prog X.w) k fa fd ps (spF X.K np g)
theorem se_callD {x:Str} {p:Pos} {np kk:Nat} {gf:List D→M D} {cs:List D} {fresh:Bool} (F:FLD X kk x np gf cs) (hr:Room kk X.A) (tk:Takes X W) (hg:Gl X x) (hdb:(x == ("__debug__":Str))=false) (hs:(e::es).all noStar=true)
  (hlen:∀ρ st ds st1,fa ρ st=.ok ds st1→ds.length+cs.length=np) (ha:SA X W (e::es) fa):SE X W (.Call (.Name x p) (e::es) [] pos) (fun ρ=>M.bind (fa ρ) fun ds=>callV fresh (gf (ds++cs))) fresh:=by
 obtain⟨fad,fd,ps,dd,dvs,hps,hm,hk,hb,hv,hvr,F⟩:=F.ex
 have hs':=hs
 rw[List.all_cons] at hs'
 obtain⟨s1,s2⟩:=and3 hs'
 refine (pe_callSD F hr hg hm hk hb hv (fun σ=>passAt tk σ) ha hdb (starEach_cons s1) (backTo_plain s2)).imp fun σ H Q h => ?_
 obtain⟨ρ,m,st,er,rl,q⟩:=h
 refine⟨ρ,m,st,er,rl,?_⟩
 have q:Post (aV X.K fresh) X.K W σ m H (M.bind (fa ρ) (fun ds=>callV fresh (gf (ds++cs))) st) Q:=q
 cases e1:fa ρ st with
|no=>rw[bindM_no e1] at q;exact q
|ex y st1=>rw[bindM_ex e1] at q;exact q
|ok ds st1=>
  rw[bindM_ok e1] at q
  intro vs m1 H1 f1 r1 av
  exact⟨ds++cs,m1,st1,by rw[List.length_append];exact hlen ρ st ds st1 e1,r1,VRs.append av (hvr m1 H1),callV_post r1 (q.later laterV f1 r1)⟩
theorem se_box (he:SE X W e f true):SE X W e (fun ρ=>M.bind (f ρ) fun d=>boxed d) false:=by
 refine PE.imp he fun σ H Q h => ?_
 obtain⟨ρ,m,st,er,rl,p⟩:=h
 refine⟨ρ,m,st,er,rl,?_⟩
 have p:Post (aV X.K false) X.K W σ m H (M.bind (f ρ) (fun d=>boxed d) st) Q:=p
 cases e1:f ρ st with
|no=>rw[bindM_no e1] at p;exact p
|ex y st1=>rw[bindM_ex e1] at p;exact p
|ok d st1=>
  rw[bindM_ok e1] at p
  intro v m1 H1 f1 r1 av
  cases d with
 |lst ds=>
   obtain⟨q,vs,H0,rfl,rfl,hn,f0,r0,v0⟩:=av.2 rfl ds rfl
   have fp:Fut m1 H0 (m1++[q]) (L2.upd H0 q (.lst vs)):=Fut.push hn fun a u ha ea=>by rw[upd_ne (ne_of_none ea hn)];exact ea
   have hq:q ∉ m1:=r0.fresh hn
   refine p (.ref q) (m1++[q]) _ (f0.trans fp) ?_ ⟨.ref ?_,fun z=>nomatch z⟩
   ·exact r0.push (o:=.lst ds) hn upd_same (v0.mono fp) fp fun a ha=>upd_ne fun z=>hq (z ▸ ha)
   ·rw[←r0.len,List.getElem?_append_right (Nat.le_refl _),Nat.sub_self] <;> rfl
 |_=>exact p.elim
end
end Dn
namespace Dn
open PySem L2
theorem _root_.L2.PI.imp {X:Cx} {tg e:Expr} {t t':TI} (h:PI X tg e t) (hi:∀σ H Q,t' σ H Q→t σ H Q):PI X tg e t':=⟨fun pins s σ H Q I q=>h.run pins s σ H Q I (hi _ _ _ q)⟩
theorem _root_.L2.PG.imp {X:Cx} {tg:Expr} {t t':TG} (h:PG X tg t) (hi:∀v σ H Q,t' v σ H Q→t v σ H Q):PG X tg t':=⟨fun pins s σ H v u Q I r q=>h.run pins s σ H v u Q I r (hi _ _ _ _ q)⟩
def JR (K:PySem.W.Frag) (m:List Addr) (H:Hp) (J:It) (xs:List D) (gd:Gd):Prop:=∀m2 H2 st2,Fut m H m2 H2→Rl K m2 H2 st2→grd st2 gd=true →
 (∀(i:Nat) d,xs[i]?=some d→J.go i H2∧∀x H3,J.yld i H2 x H3→Fut m2 H2 m2 H3∧Rl K m2 H3 st2∧VR K m2 H3 d x)∧(∀i,i=xs.length→J.stop i H2)
def aI (K:PySem.W.Frag):Rel (List D×Gd) It:=fun _ _ m' H' _ w J=>JR K m' H' J w.1 w.2
abbrev SI (X:Cx) (W:WX) (tg e:Expr) (f:Env→M (List D×Gd)):Prop:=PI X tg e (rd (aI X.K) X.K W f)
theorem laterI {K:PySem.W.Frag}:Later K (aI K):=⟨fun _ _ _ _ h=>h⟩
section
variable {K:PySem.W.Frag} {m:List Addr} {H:Hp} {st:Sto}
theorem guardS {d:D} {v:V} {xs:List D} (h:VR K m H d v) (rl:Rl K m H st) (e:listOf d st=.ok xs st):∃a,v=.ref a∧∀m2 H2 st2,Fut m H m2 H2→Rl K m2 H2 st2→grd st2 (gdOf d st)=true→∃vs,SqL K H2 a vs∧VRs K m2 H2 xs vs:=by
 have val:(∀m2 H2 st2,Fut m H m2 H2→Rl K m2 H2 st2→listOf d st2=.ok xs st2)→∃a,v=.ref a∧∀m2 H2 st2,Fut m H m2 H2→Rl K m2 H2 st2→grd st2 (gdOf d st)=true→∃vs,SqL K H2 a vs∧VRs K m2 H2 xs vs:=fun hv=>by
  obtain⟨a,vs,rfl,_⟩:=listS h rl e
  refine⟨a,rfl,fun m2 H2 st2 f r _ => ?_⟩
  obtain⟨a',us,ea,s,y,_⟩:=listS (h.mono f) r (hv m2 H2 st2 f r)
  cases ea
  exact⟨us,s,y⟩
 cases d with
|lst ds=>cases e;exact val fun _ _ _ _ _=>rfl
|fz ds=>cases e;exact val fun _ _ _ _ _=>rfl
|ref n=>
  cases h with
 |@ref _ a e1=>
   simp only[listOf] at e
   cases q:st[n]? with
  |none=>rw[q] at e;cases e
  |some o=>
    cases o with
   |lst ys=>
     rw[q] at e
     cases e
     refine⟨a,rfl,fun m2 H2 st2 f r g => ?_⟩
     simp only[gdOf,q,grd,Bool.and_true] at g
     obtain⟨vs,z,y⟩:=r.get (f.at_ e1) (of_decide_eq_true g)
     exact⟨vs,.inl (.inl z),y⟩
   |_=>rw[q] at e;cases e
|_=>simp[listOf] at e
theorem jr_list {a:Addr} {xs:List D} {gd:Gd} (h:∀m2 H2 st2,Fut m H m2 H2→Rl K m2 H2 st2→grd st2 gd=true→∃vs,SqL K H2 a vs∧VRs K m2 H2 xs vs):JR K m H (Itl K a) xs gd:=fun m2 H2 st2 f r g=>by
 obtain⟨vs,s,y⟩:=h m2 H2 st2 f r g
 refine⟨fun i d e => ?_,fun i hi=>⟨vs,s,by rw[←y.length];exact Nat.le_of_eq hi.symm⟩⟩
 obtain⟨v,e1,e2⟩:=y.get e
 refine⟨⟨vs,v,s,e1⟩,fun x H3 hy => ?_⟩
 obtain⟨rfl,hx⟩:=hy
 have:=hx vs s
 rw[e1] at this
 cases this
 exact⟨.refl,r,e2⟩
theorem jr_tup {ds:List D} {v:V} (h:VR K m H (.tup ds) v):∃a,v=.ref a∧(∃xs,SqT K H a xs)∧JR K m H (Itt K a) ds []:=by
 obtain⟨a,vs,rfl,s,y⟩:=h.tupS
 refine⟨a,rfl,⟨vs,s⟩,fun m2 H2 st2 f r _ => ?_⟩
 obtain⟨a',us,ea,s,y⟩:=(h.mono f).tupS
 cases ea
 refine⟨fun i d e => ?_,fun i hi=>⟨us,s,by rw[←y.length];exact Nat.le_of_eq hi.symm⟩⟩
 obtain⟨v,e1,e2⟩:=y.get e
 refine⟨⟨us,v,s,e1⟩,fun x H3 hy => ?_⟩
 obtain⟨rfl,hx⟩:=hy
 have:=hx us s
 rw[e1] at this
 cases this
 exact⟨.refl,r,e2⟩
theorem jr_str {z:List Nat}:JR K m H (Its (tx z)) (z.map fun c=>D.str [c]) []:=fun m2 H2 st2 f r _=>by
 refine⟨fun i d e => ?_,fun i hi => ?_⟩
 ·rw[List.getElem?_map] at e
  cases q:z[i]? with
 |none=>rw[q] at e;cases e
 |some c=>
   rw[q] at e
   cases e
   have hi:=(List.getElem?_eq_some_iff.mp q).1
   refine⟨by show i<(tx z).cps.size;simpa using hi,fun x H3 hy => ?_⟩
   obtain⟨rfl,c',hc,rfl⟩:=hy
   have:c=c':=by
    have e2:(tx z).cps[i]?=some c':=hc
    simp[q] at e2
    exact e2
   subst this
   exact⟨.refl,r,.str [c]⟩
 ·rw[List.length_map] at hi
  show (tx z).cps.size≤i
  simp[hi]
theorem jr_rng {a b:Int}:JR K m H (Itr a (b - a).toNat) (rangeL a b) []:=fun m2 H2 st2 f r _=>by
 unfold rangeL
 refine⟨fun i d e => ?_,fun i hi=>by rw[List.length_map,List.length_range] at hi;exact Nat.le_of_eq hi.symm⟩
 rw[List.getElem?_map] at e
 by_cases hi:i<(b - a).toNat
 ·rw[List.getElem?_range hi] at e
  cases e
  refine⟨hi,fun x H3 hy => ?_⟩
  obtain⟨rfl,rfl⟩:=hy
  exact⟨.refl,r,.int _⟩
 ·rw[List.getElem?_eq_none (by simpa using hi)] at e
  cases e
theorem jr_rngC {a c:Int} {n:Nat}:JR K m H (Itc a c n) (rangeC a c n) []:=fun m2 H2 st2 f r _=>by
 unfold rangeC
 refine⟨fun i d e => ?_,fun i hi=>by rw[List.length_map,List.length_range] at hi;exact Nat.le_of_eq hi.symm⟩
 rw[List.getElem?_map] at e
 by_cases hi:i<n
 ·rw[List.getElem?_range hi] at e
  cases e
  refine⟨hi,fun x H3 hy => ?_⟩
  obtain⟨rfl,rfl⟩:=hy
  exact⟨.refl,r,.int _⟩
 ·rw[List.getElem?_eq_none (by simpa using hi)] at e
  cases e
theorem VRs.mapStr {m2:List Addr} {H2:Hp}:∀z:List Nat,VRs K m2 H2 (z.map fun c=>D.str [c]) (z.map fun c=>V.str ⟨#[c]⟩)
|[]=>.nil
|c::z=>.cons (.str [c]) (VRs.mapStr z)
theorem seqG {d:D} {v:V} {xs:List D} (h:VR K m H d v) (rl:Rl K m H st) (e:seqOf d st=some xs):∃k:DnZ.Sk,v=k.val∧∀m2 H2 st2,Fut m H m2 H2→Rl K m2 H2 st2→grd st2 (gdOf d st)=true→∃vs,k.at K H2 vs∧VRs K m2 H2 xs vs:=by
 have lst:∀{xs:List D},(match listOf d st with
  |.ok xs _=>some xs
  |_=>none)=some xs→∃k:DnZ.Sk,v=k.val∧∀m2 H2 st2,Fut m H m2 H2→Rl K m2 H2 st2→grd st2 (gdOf d st)=true→∃vs,k.at K H2 vs∧VRs K m2 H2 xs vs:=fun {xs} e=>by
  cases e1:listOf d st with
 |ok ys st1=>
   rw[e1] at e
   cases e
   have:=listOf_st e1
   subst this
   obtain⟨a,rfl,g⟩:=guardS h rl e1
   exact⟨.lst a,rfl,g⟩
 |_=>rw[e1] at e;cases e
 cases d with
|tup ds=>
  cases e
  obtain⟨a,vs,rfl,_⟩:=h.tupS
  refine⟨.tup a,rfl,fun m2 H2 st2 f r _ => ?_⟩
  obtain⟨a',us,ea,s,y⟩:=(h.mono f).tupS
  cases ea
  exact⟨us,s,y⟩
|str z=>
  cases e
  cases h
  exact⟨.str (tx z),rfl,fun m2 H2 st2 f r _=>⟨_,rfl,VRs.mapStr z⟩⟩
|_=>exact lst e
theorem jr_enu {k:DnZ.Sk} {xs:List D} {gd:Gd} (h:∀m2 H2 st2,Fut m H m2 H2→Rl K m2 H2 st2→grd st2 gd=true→∃vs,k.at K H2 vs∧VRs K m2 H2 xs vs):JR K m H (DnZ.IteD K k) (enumL xs) gd:=fun m2 H2 st2 f r g=>by
 obtain⟨vs,s,y⟩:=h m2 H2 st2 f r g
 unfold enumL
 refine⟨fun i d e => ?_,fun i hi=>⟨vs,s,by rw[←y.length];simpa using hi⟩⟩
 rw[List.getElem?_map,List.getElem?_zipIdx] at e
 cases q:xs[i]? with
|none=>rw[q] at e;cases e
|some d0=>
  rw[q] at e
  cases e
  obtain⟨v,e1,e2⟩:=y.get q
  refine⟨⟨vs,v,s,e1⟩,fun x H3 hy => ?_⟩
  obtain⟨T,ts,x',rfl,hT,rfl,hx⟩:=hy
  have:=hx vs s
  rw[e1] at this
  cases this
  have fT:Fut m2 H2 m2 (L2.upd H2 T (DnU.tf ts [.int (i:Nat),v])):=Fut.upd hT
  refine⟨fT,r.new hT,?_⟩
  have:(D.int ((0+i:Nat):Int))=D.int (i:Nat):=by rw[Nat.zero_add]
  show VR K m2 _ (D.tup [.int ((0+i:Nat):Int),d0]) _
  rw[this]
  exact .tup upd_same rfl (r.fresh hT) (.cons (.int _) (.cons (e2.mono fT) .nil))
theorem jr_zip {k k':DnZ.Sk} {xs ys:List D} {gx gy:Gd} (h:∀m2 H2 st2,Fut m H m2 H2→Rl K m2 H2 st2→grd st2 gx=true→∃vs,k.at K H2 vs∧VRs K m2 H2 xs vs)
  (h':∀m2 H2 st2,Fut m H m2 H2→Rl K m2 H2 st2→grd st2 gy=true→∃vs,k'.at K H2 vs∧VRs K m2 H2 ys vs):JR K m H (DnZ.ItzD K k k') (zipL xs ys) (gx++gy):=fun m2 H2 st2 f r g=>by
 have ga:∀{g1 g2:Gd},grd st2 (g1++g2)=true→grd st2 g1=true∧grd st2 g2=true:=by
  intro g1 g2
  induction g1 with
 |nil=>exact fun h=>⟨rfl,h⟩
 |cons p r ih=>
   intro h
   obtain⟨n,zs⟩:=p
   simp only[List.cons_append,grd] at h ⊢
   obtain⟨h1,h2⟩:=and3 h
   obtain⟨h3,h4⟩:=ih h2
   exact⟨by rw[h1,h3];rfl,h4⟩
 obtain⟨vs,s,y⟩:=h m2 H2 st2 f r (ga g).1
 obtain⟨us,s',y'⟩:=h' m2 H2 st2 f r (ga g).2
 unfold zipL
 refine⟨fun i d e => ?_,fun i hi=>⟨vs,us,s,s',by rw[←y.length,←y'.length];rw[List.length_zipWith] at hi;exact hi⟩⟩
 rw[List.getElem?_zipWith] at e
 cases q:xs[i]? with
|none=>rw[q] at e;cases e
|some d0=>
  cases q':ys[i]? with
 |none=>rw[q,q'] at e;cases e
 |some d1=>
   rw[q,q'] at e
   cases e
   obtain⟨v,e1,e2⟩:=y.get q
   obtain⟨v',e1',e2'⟩:=y'.get q'
   refine⟨⟨vs,us,v,v',s,s',e1,e1'⟩,fun x H3 hy => ?_⟩
   obtain⟨T,ts,x1,x2,rfl,hT,rfl,hx,hx'⟩:=hy
   have z1:=hx vs s
   rw[e1] at z1
   cases z1
   have z2:=hx' us s'
   rw[e1'] at z2
   cases z2
   have fT:Fut m2 H2 m2 (L2.upd H2 T (DnU.tf ts [v,v'])):=Fut.upd hT
   exact⟨fT,r.new hT,.tup upd_same rfl (r.fresh hT) (.cons (e2.mono fT) (.cons (e2'.mono fT) .nil))⟩
theorem grd_self (d:D) (st:Sto):grd st (gdOf d st)=true:=by
 unfold gdOf
 cases d with
|ref n=>
  simp only
  cases q:st[n]? with
 |none=>rfl
 |some o=>cases o <;> simp[grd,q]
|_=>rfl
end
section
variable {X:Cx} {W:WX} {a b c e tg:Expr} {es:List Expr} {f g:Env→M D} {fa:Env→M (List D)} {pos:Pos}
theorem pi_any {te:TE} (he:PE X e te):PI X tg e (fun σ H R=>te σ H fun v H1=>(∃p,v=.ref p∧(∃xs,SqL X.K H1 p xs)∧R (Itl X.K p) H1)∨(∃p,v=.ref p∧(∃xs,SqT X.K H1 p xs)∧R (Itt X.K p) H1)∨∃x,v=.str x∧R (Its x) H1):=by
 refine⟨fun pins s σ H R I h=>thn (he.run pins s σ H _ I h) fun u s1 ⟨y,H1,J,ry,q⟩ => ?_⟩
 rcases q with ⟨p,rfl,⟨xs,hp⟩,q⟩|⟨p,rfl,⟨xs,hp⟩,q⟩|⟨x,rfl,q⟩
 ·cases ry
  obtain⟨its,_,pl,_⟩:=J.list hp
  exact wpAny_pyIter_list pl.isList (pi_one (tk:=s1.toks) J _ (turn_list p _) ⟨_,Heap.get?_push_size _ rfl,rfl,rfl⟩ q)
 ·cases ry
  obtain⟨its,_,pt,_⟩:=J.tuple hp
  exact wpAny_pyIter_tuple pt (pi_one (tk:=s1.toks) J _ (turn_tuple p _) ⟨_,Heap.get?_push_size _ rfl,rfl,rfl⟩ q)
 ·obtain⟨tk,rfl⟩:=ry
  cases hasc:x.cps.all (·<128) with
 |true=>exact wpAny_pyIter_ascii hasc (pi_one (tk:=s1.toks) J _ (turn_str _ x tk _ (.inl rfl)) ⟨_,Heap.get?_push_size _ rfl,rfl,rfl⟩ q)
 |false=>exact wpAny_pyIter_wide hasc (pi_one (tk:=s1.toks) J _ (turn_str _ x tk _ (.inr rfl)) ⟨_,Heap.get?_push_size _ rfl,rfl,rfl⟩ q)
theorem Post.fin {α β:Type} {A:Rel α β} {K:PySem.W.Frag} {σ:L2.St} {m:List Addr} {H:Hp} {x:α} {st:Sto} {Q:β→Hp→Prop} {y:β} (p:Post A K W σ m H (.ok x st) Q) (rl:Rl K m H st) (h:A m H m H st x y):Q y H:=p y m H .refl rl h
theorem walk_list {k:Ik} {d:D} {sel:List D→List D} {σ:L2.St} {m:List Addr} {H:Hp} {st:Sto} {Q:It→Hp→Prop} (p:Post (aI X.K) X.K W σ m H (match listOf d st with
  |.ok xs _=>.ok (sel xs,gdOf d st) st
  |_=>.no) Q):∃xs,listOf d st=.ok xs st∧Post (aI X.K) X.K W σ m H (.ok (sel xs,gdOf d st) st) Q:=by
 cases e1:listOf d st with
|ok xs st1=>
  rw[e1] at p
  have:=listOf_st e1
  subst this
  exact⟨xs,rfl,p⟩
|_=>rw[e1] at p;exact p.elim
theorem si_seq (he:SE X W e f false):SI X W tg e (fun ρ=>M.bind (M.bind (f ρ) fun d=>M.bind (M.pure []) fun ds=>M.pure (d::ds)) fun ds=>walk .seq ds):=by
 refine (pi_any he).imp fun σ H Q h => ?_
 simp only[M.bind_assoc] at h
 refine rd_bind laterI h fun ρ d v st1 m m1 H1 f1 r1 er av p => ?_
 have p:Post (aI X.K) X.K W σ m1 H1 (walk .seq [d] st1) Q:=p
 have hv:=av.1
 cases d with
|tup xs=>
  obtain⟨q,rfl,s,j⟩:=jr_tup hv
  exact .inr (.inl ⟨q,rfl,s,p.fin r1 j⟩)
|str z=>
  cases hv
  exact .inr (.inr ⟨_,rfl,p.fin r1 jr_str⟩)
|lst xs=>
  have e1:listOf (.lst xs) st1=.ok xs st1:=rfl
  have p:Post (aI X.K) X.K W σ m1 H1 (.ok (xs,gdOf (.lst xs) st1) st1) Q:=p
  obtain⟨q,rfl,hg⟩:=guardS hv r1 e1
  obtain⟨_,vs,ev,s,_⟩:=listS hv r1 e1
  cases ev
  exact .inl ⟨q,rfl,⟨vs,s⟩,p.fin r1 (jr_list hg)⟩
|fz xs=>
  have e1:listOf (.fz xs) st1=.ok xs st1:=rfl
  have p:Post (aI X.K) X.K W σ m1 H1 (.ok (xs,gdOf (.fz xs) st1) st1) Q:=p
  obtain⟨q,rfl,hg⟩:=guardS hv r1 e1
  obtain⟨_,vs,ev,s,_⟩:=listS hv r1 e1
  cases ev
  exact .inl ⟨q,rfl,⟨vs,s⟩,p.fin r1 (jr_list hg)⟩
|ref n=>
  obtain⟨xs,e1,p⟩:=walk_list (k:=.seq) (sel:=id) p
  obtain⟨q,rfl,hg⟩:=guardS hv r1 e1
  obtain⟨_,vs,ev,s,_⟩:=listS hv r1 e1
  cases ev
  exact .inl ⟨q,rfl,⟨vs,s⟩,p.fin r1 (jr_list hg)⟩
|_=>exact (p:False).elim
theorem okI_b {i:Int} (h:okI i=true) : -(2 ^ 62)≤i∧i<2 ^ 62:=by
 obtain⟨h1,h2⟩:=and3 h
 have:=of_decide_eq_true h1
 have:=of_decide_eq_true h2
 omega
theorem si_rng1 {p:Pos} (hg:Gl X "range") (hm:X.mg "range"=none) (hs:noStar a=true) (ha:SA X W [a] fa) (hl:∀ρ st ds st1,fa ρ st=.ok ds st1→ds.length=1) :
  SI X W tg (.Call (.Name "range" p) [a] [] pos) (fun ρ=>M.bind (fa ρ) fun ds=>walk .rng1 ds):=
 (pi_range1 hg hm ha (by rw[starEach_cons hs];rfl)).imp fun σ H Q h=>rd_bind laterI h fun ρ ds vs st1 m m1 H1 f1 r1 er av q=>by
  match ds,av,q with
 |[.int j],av,q=>
   obtain⟨v,rfl,r⟩:=vrs1 av
   cases r
   obtain⟨hz,q⟩:=if_post q
   obtain⟨h1,h2⟩:=okI_b hz
   refine⟨j,rfl,h1,h2,?_⟩
   have:=q.fin r1 (jr_rng (a:=0) (b:=j))
   rwa [Int.sub_zero] at this
 |[],av,q=>exact (q:False).elim
 |_::_::_,av,q=>simp[walk,Post] at q
 |[.non],av,q|[.bl _],av,q|[.str _],av,q|[.tup _],av,q|[.lst _],av,q|[.fz _],av,q|[.ref _],av,q=>simp[walk,Post] at q
theorem si_rng2 {p:Pos} (hg:Gl X "range") (hm:X.mg "range"=none) (hs:noStar a=true) (hs2:noStar b=true) (ha:SA X W [a,b] fa) :
  SI X W tg (.Call (.Name "range" p) [a,b] [] pos) (fun ρ=>M.bind (fa ρ) fun ds=>walk .rng2 ds):=
 (pi_range2 hg hm ha (by rw[starEach_cons hs,starEach_cons hs2];rfl) (by rw[starEach_cons hs2];rfl)).imp fun σ H Q h=>rd_bind laterI h fun ρ ds vs st1 m m1 H1 f1 r1 er av q=>by
  match ds,av,q with
 |[.int i,.int j],av,q=>
   obtain⟨v,w,rfl,r,r'⟩:=vrs2 av
   cases r;cases r'
   obtain⟨hz,q⟩:=if_post q
   obtain⟨z1,z2⟩:=and3 hz
   obtain⟨h1,h2⟩:=okI_b z1
   obtain⟨h3,h4⟩:=okI_b z2
   exact⟨i,j,rfl,⟨h1,h2,h3,h4⟩,q.fin r1 (jr_rng (a:=i) (b:=j))⟩
 |[],av,q=>exact (q:False).elim
 |[_],av,q=>simp[walk,Post] at q
 |x::y::_::_,av,q=>cases x <;> cases y <;> simp[walk,Post] at q
 |[.int _,.non],av,q|[.int _,.bl _],av,q|[.int _,.str _],av,q|[.int _,.tup _],av,q|[.int _,.lst _],av,q|[.int _,.fz _],av,q|[.int _,.ref _],av,q=>simp[walk,Post] at q
 |[.non,_],av,q|[.bl _,_],av,q|[.str _,_],av,q|[.tup _,_],av,q|[.lst _,_],av,q|[.fz _,_],av,q|[.ref _,_],av,q=>simp[walk,Post] at q
theorem si_enu {p tpos:Pos} {elts:List Expr} {kk:Nat} (hg:Gl X "enumerate") (hm:X.mg "enumerate"=none) (hs:noStar a=true) (ha:SA X W [a] fa) :
  SI X W (.Tuple elts kk tpos) (.Call (.Name "enumerate" p) [a] [] pos) (fun ρ=>M.bind (fa ρ) fun ds=>walk .enu ds):=
 (DnZ.pi_enumD hg hm ha (by rw[starEach_cons hs];rfl)).imp fun σ H Q h=>rd_bind laterI h fun ρ ds vs st1 m m1 H1 f1 r1 er av q=>by
  match ds,av,q with
 |[x],av,q=>
   obtain⟨v,rfl,r⟩:=vrs1 av
   cases e1:seqOf x st1 with
  |none=>simp only[walk,e1] at q;exact (q:False).elim
  |some xs=>
    have q:Post (aI X.K) X.K W σ m1 H1 (.ok (enumL xs,gdOf x st1) st1) Q:=by
     simp only[walk,e1] at q
     exact q
    obtain⟨k,rfl,hgd⟩:=seqG r r1 e1
    obtain⟨vs,s,_⟩:=hgd m1 H1 st1 .refl r1 (grd_self x st1)
    exact⟨k,vs,rfl,s,q.fin r1 (jr_enu hgd)⟩
 |[],av,q=>exact (q:False).elim
 |_::_::_,av,q=>simp[walk,Post] at q
theorem si_zip {p tpos:Pos} {elts:List Expr} {kk:Nat} (hg:Gl X "zip") (hm:X.mg "zip"=none) (hs:noStar a=true) (hs2:noStar b=true) (ha:SA X W [a,b] fa) :
  SI X W (.Tuple elts kk tpos) (.Call (.Name "zip" p) [a,b] [] pos) (fun ρ=>M.bind (fa ρ) fun ds=>walk .zip ds):=
 (DnZ.pi_zipD hg hm ha (starEach_cons hs) (backTo_plain (by rw[List.all_cons,hs2];rfl))).imp fun σ H Q h=>rd_bind laterI h fun ρ ds vs st1 m m1 H1 f1 r1 er av q=>by
  match ds,av,q with
 |[x,y],av,q=>
   obtain⟨v,w,rfl,r,r'⟩:=vrs2 av
   cases e1:seqOf x st1 with
  |none=>simp only[walk,e1] at q;exact (q:False).elim
  |some xs=>
    cases e2:seqOf y st1 with
   |none=>simp only[walk,e1,e2] at q;exact (q:False).elim
   |some ys=>
     have q:Post (aI X.K) X.K W σ m1 H1 (.ok (zipL xs ys,gdOf x st1++gdOf y st1) st1) Q:=by
      simp only[walk,e1,e2] at q
      exact q
     obtain⟨k,rfl,hgd⟩:=seqG r r1 e1
     obtain⟨k',rfl,hgd'⟩:=seqG r' r1 e2
     obtain⟨us,s,_⟩:=hgd m1 H1 st1 .refl r1 (grd_self x st1)
     obtain⟨us',s',_⟩:=hgd' m1 H1 st1 .refl r1 (grd_self y st1)
     exact⟨k,k',us,us',rfl,s,s',q.fin r1 (jr_zip hgd hgd')⟩
 |[],av,q=>exact (q:False).elim
 |[_],av,q=>simp[walk,Post] at q
 |_::_::_::_,av,q=>simp[walk,Post] at q
theorem rgC_up {i j c:Int} (h1:okI i=true) (h2:okI j=true) (h3:0<c) (h4:c<1000000):RgC i j c ((j - i+c - 1) / c).toNat:=by
 obtain⟨a1,a2⟩:=and3 h1
 obtain⟨b1,b2⟩:=and3 h2
 have a1:=of_decide_eq_true a1
 have a2:=of_decide_eq_true a2
 have b1:=of_decide_eq_true b1
 have b2:=of_decide_eq_true b2
 have hn:Builtin.Range.rangeSize i j c=(((j - i+c - 1) / c).toNat:Int):=by
  unfold Builtin.Range.rangeSize
  rw[if_pos (show c > 0 from h3)]
  have e1:j - i+c - 1=(j - i - 1)+1*c:=by omega
  rw[e1,Int.add_mul_ediv_right _ _ (by omega)]
  by_cases e:i<j
  ·have:0≤(j - i - 1) / c:=Int.ediv_nonneg (by omega) (by omega)
   rw[if_pos e]
   omega
  ·rw[if_neg e]
   have:(j - i - 1) / c<0:=Int.ediv_neg_of_neg_of_pos (by omega) h3
   omega
 have hle:((j - i+c - 1) / c).toNat≤2000000000:=by
  have:(j - i+c - 1) / c≤(2000000000*c) / c:=Int.ediv_le_ediv h3 (by
   have:2000000000*1≤2000000000*c:=Int.mul_le_mul_of_nonneg_left (by omega) (by omega)
   omega)
  rw[Int.mul_ediv_cancel _ (by omega)] at this
  omega
 refine⟨by omega,by omega,?_,hn⟩
 generalize hN:((j - i+c - 1) / c).toNat=N at hn hle
 unfold Builtin.Range.small
 rw[hn]
 have hm:(N:Int)*c≤2000000000*1000000:=Int.le_trans (Int.mul_le_mul_of_nonneg_right (by omega) (by omega)) (Int.mul_le_mul_of_nonneg_left (by omega) (by omega))
 have hm0:0≤(N:Int)*c:=Int.mul_nonneg (by omega) (by omega)
 simp only[Builtin.Range.rangeFitsLong,Bool.and_eq_true,Bool.or_eq_true,decide_eq_true_eq,beq_iff_eq,show c > 0 from h3,if_true]
 omega
theorem si_rng3 {p:Pos} (hg:Gl X "range") (hm:X.mg "range"=none) (hs:[a,b,c].all noStar=true) (ha:SA X W [a,b,c] fa) :
  SI X W tg (.Call (.Name "range" p) [a,b,c] [] pos) (fun ρ=>M.bind (fa ρ) fun ds=>walk .rng3 ds):=by
 have hs':=hs
 rw[List.all_cons] at hs'
 refine (pi_range3 hg hm ha (starEach_cons (and3 hs').1) (backTo_plain (and3 hs').2)).imp fun σ H Q h=>rd_bind laterI h fun ρ ds vs st1 m m1 H1 f1 r1 er av q => ?_
 have bad:∀ds:List D,(∀i j c,ds≠[.int i,.int j,.int c])→walk .rng3 ds st1=.no:=fun ds h=>by
  match ds,h with
 |[.int i,.int j,.int c],h=>exact absurd rfl (h i j c)
 |[],_|[_],_|[_,_],_|_::_::_::_::_,_=>simp[walk]
 |[.int _,.int _,.non],_|[.int _,.int _,.bl _],_|[.int _,.int _,.str _],_|[.int _,.int _,.tup _],_|[.int _,.int _,.lst _],_|[.int _,.int _,.fz _],_|[.int _,.int _,.ref _],_=>rfl
 |[.int _,.non,_],_|[.int _,.bl _,_],_|[.int _,.str _,_],_|[.int _,.tup _,_],_|[.int _,.lst _,_],_|[.int _,.fz _,_],_|[.int _,.ref _,_],_=>rfl
 |[.non,_,_],_|[.bl _,_,_],_|[.str _,_,_],_|[.tup _,_,_],_|[.lst _,_,_],_|[.fz _,_,_],_|[.ref _,_,_],_=>rfl
 by_cases hd:∃i j c,ds=[.int i,.int j,.int c]
 ·obtain⟨i,j,c,rfl⟩:=hd
  match vs,av with
 |[_,_,_],.cons a1 (.cons a2 (.cons a3 .nil))=>
   cases a1;cases a2;cases a3
   obtain⟨hz,q⟩:=if_post (show Post (aI X.K) X.K W σ m1 H1 (if (okI i&&okI j&&decide (0<c)&&decide (c<1000000))=true then .ok (rangeC i c ((j - i+c - 1) / c).toNat,[]) st1 else .no) Q from q)
   obtain⟨hz,z4⟩:=and3 hz
   obtain⟨hz,z3⟩:=and3 hz
   obtain⟨z1,z2⟩:=and3 hz
   have z3:=of_decide_eq_true z3
   have z4:=of_decide_eq_true z4
   obtain⟨y1,y2⟩:=okI_b z1
   obtain⟨y3,y4⟩:=okI_b z2
   refine⟨i,j,c,((j - i+c - 1) / c).toNat,rfl,rgC_up z1 z2 z3 z4,q.fin r1 jr_rngC⟩
 ·rw[bad ds (fun i j c e=>hd ⟨i,j,c,e⟩)] at q
  exact (q:False).elim
end
end Dn
namespace Dn
open PySem L2
def lastK:List (Key×V)→Key→Option V
|[],_=>none
|(k',v)::r,k=>match lastK r k with
 |some u=>some u
 |none=>if k'=k then some v else none
theorem valV_mergeK (k:Key):∀(kvs acc:List (Key×V)),valV (mergeK acc kvs) k=match lastK kvs k with
 |some u=>some u
 |none=>valV acc k
|[],acc=>rfl
|(k',v)::r,acc=>by
  show valV (mergeK (putK acc k' v) r) k=_
  rw[valV_mergeK k r (putK acc k' v),lastK]
  cases lastK r k with
 |some u=>rfl
 |none=>
   simp only
   rw[valV_put]
   by_cases e:k'=k
   ·subst e;simp
   ·rw[if_neg e,if_neg (fun z=>e z.symm)]
theorem valV_mergeK0 (k:Key) (kvs:List (Key×V)):valV (mergeK [] kvs) k=lastK kvs k:=by
 rw[valV_mergeK]
 cases lastK kvs k <;> rfl
theorem kyR_inj {a b:Ky} (h:kyR a=kyR b):a=b:=by
 cases a with
|inl i=>
  cases b with
 |inl j=>cases h;rfl
 |inr y=>cases h
|inr x=>
  cases b with
 |inl j=>cases h
 |inr y=>
   have:tx x=tx y:=Sum.inr.inj h
   rw[tx_inj.mp this]
section
variable {K:PySem.W.Frag} {m:List Addr} {H:Hp} {st:Sto}
theorem kyOf_ok {d:D} {v:V} {k:Ky} (h:VR K m H d v) (e:kyOf d=some k):v=kV (kyR k):=by
 cases d with
|int i=>cases e;cases h;rfl
|str x=>cases e;cases h;rfl
|_=>cases e
inductive KVR (K:PySem.W.Frag) (m:List Addr) (H:Hp):List (Ky×D)→List (Key×V)→Prop
|nil:KVR K m H [] []
|cons {k:Ky} {d:D} {v:V} {r:List (Ky×D)} {t:List (Key×V)}:VR K m H d v→KVR K m H r t→KVR K m H ((k,d)::r) ((kyR k,v)::t)
theorem KVR.last {k:Ky}:∀{r:List (Ky×D)} {t:List (Key×V)},KVR K m H r t→match lastV r k with
 |some d=>∃v,lastK t (kyR k)=some v∧VR K m H d v
 |none=>lastK t (kyR k)=none
|_,_,.nil=>rfl
|_,_,.cons (k:=k') (d:=d) (v:=v) (r:=r) (t:=t) h hr=>by
  have ih:=KVR.last (k:=k) hr
  simp only[lastV,lastK]
  cases q:lastV r k with
 |some d'=>
   rw[q] at ih
   obtain⟨v',e,r'⟩:=ih
   exact⟨v',by rw[e],r'⟩
 |none=>
   rw[q] at ih
   simp only at ih ⊢
   rw[ih]
   by_cases e:k'=k
   ·subst e;simp only[if_true];exact⟨v,rfl,h⟩
   ·rw[if_neg e,if_neg (fun z=>e (kyR_inj z))]
theorem KVR.mono {m':List Addr} {H':Hp} (f:Fut m H m' H'):∀{r:List (Ky×D)} {t:List (Key×V)},KVR K m H r t→KVR K m' H' r t
|_,_,.nil=>.nil
|_,_,.cons h hr=>.cons (h.mono f) (KVR.mono f hr)
theorem tupN {ds:List D} {v:V} (h:VR K m H (.tup ds) v):∃a vs,v=.ref a∧DnD.SqN K H a vs∧VRs K m H ds vs:=by
 cases h with
|tup e e' _ r=>exact⟨_,_,rfl,.inl ⟨_,e,e'⟩,r⟩
|tupK e r=>exact⟨_,_,rfl,.inr e,r⟩
theorem pairs_ok:∀{ds:List D} {vs:List V} {kvs:List (Ky×D)},VRs K m H ds vs→alls pairOf ds=some kvs→∃ps kvs',vs=ps.map V.ref∧Paired (fun p kv=>SqT K H p [kV kv.1,kv.2]) ps kvs'∧KVR K m H kvs kvs'
|[],_,_,h,e=>by cases h;cases e;exact⟨[],[],rfl,.nil,.nil⟩
|d::r,_,kvs,h,e=>by
  cases h with
 |cons a b=>
   rw[alls] at e
   cases hd:pairOf d with
  |none=>rw[hd] at e;cases e
  |some kv=>
    cases hr:alls pairOf r with
   |none=>rw[hd,hr] at e;cases e
   |some kvs1=>
     rw[hd,hr] at e
     cases e
     obtain⟨ps,t,e1,e2,e3⟩:=pairs_ok b hr
     match d,hd,a with
    |.tup [k,x],hd,a=>
      cases hk:kyOf k with
     |none=>simp[pairOf,hk] at hd
     |some k'=>
       simp only[pairOf,hk,Option.map_some,Option.some.injEq] at hd
       subst hd
       obtain⟨p,us,rfl,s,y⟩:=a.tupS
       cases y with
      |cons a1 y=>
        cases y with
       |cons a2 y=>
         cases y
         have:=kyOf_ok a1 hk
         subst this
         exact⟨p::ps,(kyR k',_)::t,by rw[e1];rfl,.cons s e2,.cons a2 e3⟩
    |.tup [],hd,_|.tup [_],hd,_|.tup (_::_::_::_),hd,_=>simp[pairOf] at hd
    |.non,hd,_|.bl _,hd,_|.int _,hd,_|.str _,hd,_|.lst _,hd,_|.fz _,hd,_|.ref _,hd,_=>simp[pairOf] at hd
end
section
variable {X:Cx} {W:WX} {a k e:Expr} {es:List Expr} {f g:Env→M D} {fa:Env→M (List D)} {pos:Pos}
theorem boot_dict:bootBuiltins "dict"=some (.type "dict"):=by decide +kernel
theorem se_dsub {p q:Pos} (hc:X.calm=true) (hu:X.A.units+1<cLine) (hg:Gl X "dict") (hm:X.mg "dict"=none) (hs:noStar a=true) (hsl:PlainIx k) (ha:SE X W a f false) (hk:SE X W k g false) :
  SE X W (.Subscript (.Call (.Name "dict" p) [a] [] q) k pos) (fun ρ=>M.bind (f ρ) fun x=>M.bind (orNo (pairsD x)) fun kvs=>M.bind (g ρ) fun y=>dgOp .sub kvs y []) false:=by
 refine (pe_dget hu (pe_callTy (DnD.call_dictN hc) hg hm boot_dict (pa_cons ha pa_nil (starEach_cons hs)) (by decide) (by decide) (starEach_cons hs)) hk hsl).imp fun σ H Q h => ?_
 refine rd_bind laterV h fun ρ x u st1 m m1 H1 f1 r1 er vx p => ?_
 cases hx:pairsD x with
|none=>rw[hx] at p;exact (p:False).elim
|some kvs=>
  rw[hx] at p
  have p:Post (aV X.K false) X.K W σ m1 H1 (M.bind (g ρ) (fun y=>dgOp .sub kvs y []) st1) Q:=p
  match x,hx,vx with
 |.tup ds,hx,vx=>
   obtain⟨ad,vs,rfl,sn,y⟩:=tupN vx.1
   obtain⟨ps,kvs',rfl,e2,e3⟩:=pairs_ok y hx
   refine⟨ad,ps,kvs',rfl,sn,e2,fun q hq => ?_⟩
   have fq:Fut m1 H1 m1 (L2.upd H1 q (.dK (mergeK [] kvs'))):=Fut.upd hq
   refine⟨ρ,m1,st1,er.mono fq,r1.new hq,(p.later laterV fq (r1.new hq)).bind laterV fun y v st2 m2 H2 f2 r2 av p2 => ?_⟩
   unfold dgOp at p2
   cases hy:kyOf y with
  |none=>rw[hy] at p2;exact (p2:False).elim
  |some k'=>
    rw[hy] at p2
    simp only at p2
    have hl:=(e3.mono (fq.trans f2)).last (k:=k')
    have ev:=kyOf_ok av.1 hy
    subst ev
    cases hl2:lastV kvs k' with
   |none=>rw[hl2] at p2;exact (p2:False).elim
   |some d=>
     rw[hl2] at hl p2
     obtain⟨w,e4,e5⟩:=hl
     refine⟨q,w,rfl,.inl ⟨_,_,.inl (f2.keep q _ (r1.fresh hq) upd_same),rfl,?_⟩,p2.any r2 e5⟩
     rw[valV_mergeK0,e4]
 |.non,hx,_|.bl _,hx,_|.int _,hx,_|.str _,hx,_|.lst _,hx,_|.fz _,hx,_|.ref _,hx,_=>cases hx
theorem dd_uniq (ks:List Ky):(DnS.uniq (ks.map kyR)).length=(ddK ks).length:=by
 have key:∀(ks acc:List Ky),(ks.map kyR).foldl (fun a k=>if DnS.hasK a k=true then a else a++[k]) (acc.map kyR)=(ks.foldl (fun a k=>if a.any (fun y=>decide (y=k))=true then a else a++[k]) acc).map kyR:=by
  intro ks
  induction ks with
 |nil=>intro acc;rfl
 |cons k r ih=>
   intro acc
   rw[List.map_cons,List.foldl_cons,List.foldl_cons]
   have e:DnS.hasK (acc.map kyR) (kyR k)=acc.any fun y=>decide (y=k):=by
    unfold DnS.hasK
    rw[List.any_map]
    congr 1
    funext y
    by_cases h:y=k
    ·subst h;simp
    ·have:¬kyR y=kyR k:=fun z=>h (kyR_inj z)
     simp[h,this]
   rw[e]
   by_cases c:(acc.any fun y=>decide (y=k))=true
   ·rw[if_pos c,if_pos c];exact ih acc
   ·rw[if_neg c,if_neg c]
    have:=ih (acc++[k])
    rw[List.map_append] at this
    exact this
 have:=key ks []
 unfold DnS.uniq ddK
 rw[List.map_nil] at this
 rw[this,List.length_map]
theorem keys_ok {K:PySem.W.Frag} {m:List Addr} {H:Hp}:∀{ds:List D} {vs:List V} {ks:List Ky},VRs K m H ds vs→alls kyOf ds=some ks→vs=(ks.map kyR).map kV
|[],_,_,h,e=>by cases h;cases e;rfl
|d::r,_,ks,h,e=>by
  cases h with
 |cons a b=>
   rw[alls] at e
   cases hd:kyOf d with
  |none=>rw[hd] at e;cases e
  |some k=>
    cases hr:alls kyOf r with
   |none=>rw[hd,hr] at e;cases e
   |some ks1=>
     rw[hd,hr] at e
     cases e
     rw[kyOf_ok a hd,keys_ok b hr] <;> rfl
theorem se_lset {p p2 q:Pos} (hc:X.calm=true) (hg:Gl X "len") (hm:X.mg "len"=none) (hg2:Gl X "set") (hm2:X.mg "set"=none) (hs:noStar a=true) (ha:SE X W a f false) :
  SE X W (.Call (.Name "len" p) [.Call (.Name "set" p2) [a] [] q] [] pos) (fun ρ=>M.bind (f ρ) fun x=>lsetOp x) true:=by
 refine (DnS.pe_lenSetK hg hm hg2 hm2 ha hc (starEach_cons hs)).imp fun σ H Q h=>rd_bind laterV h fun ρ x u st1 m m1 H1 f1 r1 er vx p => ?_
 unfold lsetOp at p
 cases e1:listOf x st1 with
|ok xs s1=>
  rw[e1] at p
  have:=listOf_st e1
  subst this
  simp only at p
  cases e2:alls kyOf xs with
 |none=>rw[e2] at p;exact (p:False).elim
 |some ks=>
   rw[e2] at p
   simp only at p
   obtain⟨hz,p⟩:=if_post p
   obtain⟨ad,vs,rfl,s,y,_⟩:=listS vx.1 r1 e1
   have ev:=keys_ok y e2
   subst ev
   refine⟨ad,ks.map kyR,rfl,s,by rw[List.length_map];exact of_decide_eq_true hz,?_⟩
   rw[dd_uniq]
   exact p.val r1 (.int _) (by simp)
|_=>rw[e1] at p;exact (p:False).elim
theorem rg_vals {K:PySem.W.Frag} {m:List Addr} {H:Hp} (i j:Int):VRs K m H (rangeL i j) (rgV i j):=by
 unfold rangeL rgV
 generalize (j - i).toNat=n
 have key:∀l:List Nat,VRs K m H (l.map fun (t:Nat)=>D.int (i+t)) (l.map fun (t:Nat)=>V.int (i+(t:Nat))):=fun l=>by
  induction l with
 |nil=>exact .nil
 |cons a r ih=>exact .cons (.int _) ih
 exact key _
theorem se_rng1L {p p2 q:Pos} (hc:X.calm=true) (hg:Gl X "list") (hm:X.mg "list"=none) (hg2:Gl X "range") (hm2:X.mg "range"=none) (hs:noStar a=true) (ha:SE X W a f false) :
  SE X W (.Call (.Name "list" p) [.Call (.Name "range" p2) [a] [] q] [] pos) (fun ρ=>M.bind (M.bind (f ρ) fun d=>M.bind (M.pure []) fun ds=>M.pure (d::ds)) fun ds=>rngOp ds) true:=by
 refine (pe_listRg hc hg hm (prg_1 hg2 hm2 ha (starEach_cons hs)) rfl).imp fun σ H Q h => ?_
 simp only[M.bind_assoc] at h
 refine rd_bind laterV h fun ρ x u st1 m m1 H1 f1 r1 er vx p => ?_
 have p:Post (aV X.K true) X.K W σ m1 H1 (rngOp [x] st1) Q:=p
 match x,vx,p with
|.int j,vx,p=>
  cases vx.1
  obtain⟨hz,p⟩:=if_post p
  obtain⟨h1,h2⟩:=and3 hz
  have h1:=of_decide_eq_true h1
  have h2:=of_decide_eq_true h2
  exact⟨j,rfl,RgOk.of_le (by omega) (by omega) (by omega) (by omega),fun l hl=>p.newL r1 hl (rg_vals 0 j)⟩
|.non,_,p|.bl _,_,p|.str _,_,p|.tup _,_,p|.lst _,_,p|.fz _,_,p|.ref _,_,p=>exact (p:False).elim
theorem dens_len' {cf:Cf}:∀(es:List E) {ρ:Env} {st st1:Sto} {ds:List D},dens cf es ρ st=.ok ds st1→ds.length=es.length
|[],ρ,st,st1,ds,h=>by
  simp only[dens,M.pure] at h
  cases h
  rfl
|e::es,ρ,st,st1,ds,h=>by
  rw[dens] at h
  cases q:den cf e ρ st with
 |no=>rw[bindM_no q] at h;cases h
 |ex x s=>rw[bindM_ex q] at h;cases h
 |ok d s=>
   rw[bindM_ok q] at h
   cases q2:dens cf es ρ s with
  |no=>rw[bindM_no q2] at h;cases h
  |ex x s=>rw[bindM_ex q2] at h;cases h
  |ok ds' s2=>
    rw[bindM_ok q2] at h
    cases h
    rw[List.length_cons,List.length_cons,dens_len' es q2]
def trsOf (K:PySem.W.Frag) (W:WX) (cf:Cf):List (List Nat)→List E→List (TE×TE)
|k::ks,e::es=>(tC (.str (tx k)),rd (aV K false) K W (den cf e))::trsOf K W cf ks es
|_,_=>[]
theorem pairs_rd {K:PySem.W.Frag} {cf:Cf} {σ:L2.St}:∀(ks:List (List Nat)) (es:List E),ks.length=es.length→∀{ρ:Env} {m:List Addr} {st:Sto} {H:Hp} {Q:List (V×V)→Hp→Prop},ER K m H ρ σ→Rl K m H st →
  Post (aL K) K W σ m H (dens cf es ρ st) (fun vs H'=>Q ((ks.map fun k=>V.str (tx k)).zip vs) H')→tPairs (trsOf K W cf ks es) σ H Q
|[],[],_,ρ,m,st,H,Q,er,rl,p=>by
  rw[dens] at p
  exact p [] m H .refl rl .nil
|k::ks,e::es,hl,ρ,m,st,H,Q,er,rl,p=>by
  rw[dens] at p
  refine⟨ρ,m,st,er,rl,p.bind laterL fun d v st1 m1 H1 f1 r1 av p1 => ?_⟩
  refine pairs_rd ks es (by simpa using hl) (er.mono f1) r1 (p1.bind laterL fun ds vs st2 m2 H2 f2 r2 av2 p2 => ?_)
  exact p2 (v::vs) m2 H2 .refl r2 (.cons (av.1.mono f2) av2)
|[],_::_,hl,_,_,_,_,_,_,_,_=>by simp at hl
|_::_,[],hl,_,_,_,_,_,_,_,_=>by simp at hl
section
variable {K:PySem.W.Frag} {m:List Addr} {H H':Hp} {st:Sto}
mutual
theorem VR.chg (hk:∀b u,b ∉ m→H b=some u→(∀kvs,u≠.dK kvs)→H' b=some u):∀{d:D} {v:V},VR K m H d v→VR K m H' d v
|.non,_,h=>by cases h;exact .non
|.bl _,_,h=>by cases h;exact .bl _
|.int _,_,h=>by cases h;exact .int _
|.str _,_,h=>by cases h;exact .str _
|.tup ds,_,h=>by
  cases h with
 |tup e e' n r=>exact .tup (hk _ _ n e (fun _ z=>by cases z)) e' n (VRs.chg hk r)
 |tupK e r=>exact .tupK e (VRs.chg hk r)
|.lst ds,_,h=>by
  cases h with
 |lst e n r=>exact .lst (hk _ _ n e (fun _ z=>by cases z)) n (VRs.chg hk r)
|.fz ds,_,h=>by
  cases h with
 |fz e n r=>exact .fz (hk _ _ n e (fun _ z=>by cases z)) n (VRs.chg hk r)
 |fzK e r=>exact .fzK e (VRs.chg hk r)
|.ref n,_,h=>by
  cases h with
 |ref e=>exact .ref e
theorem VRs.chg (hk:∀b u,b ∉ m→H b=some u→(∀kvs,u≠.dK kvs)→H' b=some u):∀{d:List D} {v:List V},VRs K m H d v→VRs K m H' d v
|[],_,h=>by cases h;exact .nil
|_::_,_,h=>by
  cases h with
 |cons a b=>exact .cons (VR.chg hk a) (VRs.chg hk b)
end
theorem Rl.chg (hk:∀b u,b ∉ m→H b=some u→(∀kvs,u≠.dK kvs)→H' b=some u) (hm:∀b∈m,H' b=H b) (r:Rl K m H st):Rl K m H' st:=⟨r.len,r.nd,fun n a o e1 e2=>by
 obtain⟨vs,q,y⟩:=r.ob n a o e1 e2
 have ha:=hm a (List.mem_of_getElem? e1)
 refine⟨vs,?_,y.chg hk⟩
 cases o with
|lst _=>exact ha.trans q
|dic _=>exact ha.trans q
|ins c fs=>
  obtain⟨C,dx,h1,h2,h3,h4⟩:=q
  exact⟨C,dx,h1,ha.trans h2,hk dx _ h4 h3 (fun _ z=>by cases z),h4⟩⟩
theorem ER.chg {ρ:Env} {σ:L2.St} (hk:∀b u,b ∉ m→H b=some u→(∀kvs,u≠.dK kvs)→H' b=some u) (e:ER K m H ρ σ):ER K m H' ρ σ:=⟨e.len,fun i d h=>by
 obtain⟨v,a,b⟩:=e.at_ i d h
 exact⟨v,a,b.chg hk⟩⟩
end
theorem disp_rd {K:PySem.W.Frag} {cf:Cf} {σ:L2.St} {ks:List (List Nat)} {es:List E} (hl:ks.length=es.length) (h15:ks.length≤15) {ρ:Env} {m:List Addr} {st:Sto} {H:Hp} {Q:VK} {kk:List D→M D} {R:VK} (er:ER K m H ρ σ) (rl:Rl K m H st)
  (p:Post (aV K false) K W σ m H (M.bind (dens cf es ρ) kk st) Q)
  (hk:∀(q:Addr) (ds:List D) (kvs:List (Key×V)) (st2:Sto) (m2:List Addr) (H2:Hp),q ∉ m2→H2 q=some (.dK (mergeK [] kvs))→KVR K m2 H2 ((ks.map Sum.inr).zip ds) kvs→ER K m2 H2 ρ σ→Rl K m2 H2 st2→Post (aV K false) K W σ m2 H2 (kk ds st2) Q→R (.ref q) H2) :
  tDisp (trsOf K W cf ks es) σ H R:=by
 intro q hq
 have fq:Fut m H m (L2.upd H q (.dK [])):=Fut.upd hq
 have hqm0:=rl.fresh hq
 refine pairs_rd ks es hl (er.mono fq) (rl.new hq) ?_
 cases e0:dens cf es ρ st with
|no=>rw[bindM_no e0] at p;exact p
|ex x st1=>rw[bindM_ex e0] at p;exact p.later laterV fq (rl.new hq)
|ok ds st2=>
 rw[bindM_ok e0] at p
 intro vs m2 H2 f2 r2 av
 have hq2:H2 q=some (.dK []):=f2.keep q _ hqm0 upd_same
 have hqm:q ∉ m2:=f2.out hqm0 upd_same
 have av:VRs K m2 H2 ds vs:=av
 have hlen:ds.length=ks.length:=by rw[dens_len' es e0,hl]
 have key:∀{H2:Hp} (ks:List (List Nat)) (ds:List D) (vs:List V),VRs K m2 H2 ds vs→ds.length=ks.length→∃kvs:List (Key×V),((ks.map fun k=>V.str (tx k)).zip vs)=kvs.map (fun kv=>(kV kv.1,kv.2))∧kvs.length=ks.length∧KVR K m2 H2 ((ks.map Sum.inr).zip ds) kvs:=by
  intro H2 ks
  induction ks with
 |nil=>
   intro ds vs r hl
   have:ds=[]:=List.eq_nil_of_length_eq_zero hl
   subst this
   cases r
   exact⟨[],rfl,rfl,.nil⟩
 |cons k ks ih=>
   intro ds vs r hl
   cases r with
  |nil=>simp at hl
  |cons a b=>
    obtain⟨kvs,e1,e2,e3⟩:=ih _ _ b (by simpa using hl)
    exact⟨(.inr (tx k),_)::kvs,by simp only[List.map_cons,List.zip_cons_cons,e1];rfl,by rw[List.length_cons,List.length_cons,e2],.cons (k:=.inr k) a e3⟩
 obtain⟨kvs0,e1,e2,_⟩:=key ks ds vs av hlen
 have hc:∀b u,b ∉ m2→H2 b=some u→(∀kvs,u≠.dK kvs)→L2.upd H2 q (.dK (mergeK [] kvs0)) b=some u:=fun b u _ e n=>by
  rw[upd_ne (fun z=>by subst z;rw[hq2] at e;cases e;exact n _ rfl)]
  exact e
 have hm:∀b∈m2,L2.upd H2 q (.dK (mergeK [] kvs0)) b=H2 b:=fun b hb=>upd_ne fun z=>hqm (z ▸ hb)
 obtain⟨kvs,e1',e2',e3'⟩:=key ks ds vs (av.chg hc) hlen
 have ek:kvs=kvs0:=by
  have inj:Function.Injective (fun kv:Key×V=>(kV kv.1,kv.2)):=fun a b z=>by
   obtain⟨k1,v1⟩:=a
   obtain⟨k2,v2⟩:=b
   simp only[Prod.mk.injEq] at z
   obtain⟨z1,z2⟩:=z
   subst z2
   cases k1 <;> cases k2 <;> simp[kV] at z1 <;> simp[z1]
  exact (List.map_inj_right (fun a b z=>inj z)).mp (e1'.symm.trans e1)
 subst ek
 refine⟨hq2,kvs,e1,by rw[e2];exact h15,?_⟩
 have f3:Fut m H m2 (L2.upd H2 q (.dK (mergeK [] kvs))):=⟨f2.pre,fun a ha=>by
   rcases f2.new a ha with z|z
   ·exact .inl z
   ·refine .inr ?_
    by_cases hb:a=q
    ·rw[hb];exact hq
    ·rw[upd_ne hb] at z;exact z,fun a u ha e=>by
   have hb:a≠q:=ne_of_none e hq
   rw[upd_ne hb]
   exact f2.keep a u ha (by rw[upd_ne hb];exact e)⟩
 exact hk q ds kvs st2 m2 _ hqm upd_same e3' ((er.mono (fq.trans f2)).chg hc) (r2.chg hc hm) (p.later laterV f3 (r2.chg hc hm))
structure PPr (X:Cx) (W:WX) (cf:Cf) (pos:Pos) (keys:List (Option Expr)) (values:List Expr) (ks:List (List Nat)) (es:List E):Prop where
 pp:PPs X pos keys values (trsOf X.K W cf ks es)
 some_:keys.all (·.isSome)=true
 len:keys.length=values.length
 ne:keys≠[]
 kl:ks.length=es.length
 el:keys.length=ks.length
theorem dg_find {K:PySem.W.Frag} {m2:List Addr} {H2:Hp} {q:Addr} {kvs:List (Key×V)} {k':Ky} (hq:H2 q=some (.dK (mergeK [] kvs))):DGet H2 q (kV (kyR k')) (lastK kvs (kyR k')):=.inl ⟨_,_,.inl hq,rfl,(valV_mergeK0 _ _).symm⟩
section
variable {cf:Cf} {keys:List (Option Expr)} {values:List Expr} {ks:List (List Nat)} {vs:List E} {dpos:Pos}
theorem dg_when {K:PySem.W.Frag} {σ:L2.St} {m:List Addr} {H:Hp} {st:Sto} {es:List E} {ρ:Env} {kk:List D→M D} {Q:VK} (p:Post (aV K false) K W σ m H (M.bind (dens cf vs ρ) (fun ds=>whenM (decide (ds.length=ks.length)&&decide (ks.length≤15)) (kk ds)) st) Q) :
  (ks.length≤15∨∃x st1,dens cf vs ρ st=.ex x st1)∧Post (aV K false) K W σ m H (M.bind (dens cf vs ρ) kk st) Q:=by
 cases e0:dens cf vs ρ st with
|no=>rw[bindM_no e0] at p;exact p.elim
|ex x st1=>rw[bindM_ex e0] at p ⊢;exact⟨.inr ⟨x,st1,rfl⟩,p⟩
|ok ds st1=>
  rw[bindM_ok e0] at p ⊢
  obtain⟨h,p⟩:=p.when
  exact⟨.inl (of_decide_eq_true (and3 h).2),p⟩
theorem se_dgS (h:PPr X W cf dpos keys values ks vs) (h15:ks.length≤15) (hu:X.A.units+1<cLine) (hsl:PlainIx k) (hk:SE X W k g false) :
  SE X W (.Subscript (.Dict keys values dpos) k pos) (fun ρ=>M.bind (dens cf vs ρ) fun ds=>whenM (decide (ds.length=ks.length)&&decide (ks.length≤15)) (M.bind (g ρ) fun y=>M.bind (M.pure []) fun zs=>dgOp .sub ((ks.map Sum.inr).zip ds) y zs)) false:=by
 refine (pe_dget hu (pe_disp h.pp h.some_ h.len h.ne (by rw[h.el];exact h15)) hk hsl).imp fun σ H Q ⟨ρ,m,st,er,rl,p⟩ => ?_
 refine disp_rd h.kl h15 er rl (dg_when (es:=vs) p).2 fun q ds kvs st2 m2 H2 hqm hq kr er2 r2 p2 => ?_
 refine⟨ρ,m2,st2,er2,r2,p2.bind laterV fun y v st3 m3 H3 f3 r3 av p3 => ?_⟩
 have p3:Post (aV X.K false) X.K W σ m3 H3 (dgOp .sub ((ks.map Sum.inr).zip ds) y [] st3) Q:=p3
 unfold dgOp at p3
 cases hy:kyOf y with
|none=>rw[hy] at p3;exact (p3:False).elim
|some k'=>
  rw[hy] at p3
  simp only at p3
  have hl:=(kr.mono f3).last (k:=k')
  have ev:=kyOf_ok av.1 hy
  subst ev
  cases hl2:lastV ((ks.map Sum.inr).zip ds) k' with
 |none=>rw[hl2] at p3;exact (p3:False).elim
 |some d=>
   rw[hl2] at hl p3
   obtain⟨w,e4,e5⟩:=hl
   have:=dg_find (K:=X.K) (m2:=m3) (k':=k') (f3.keep q _ hqm hq)
   rw[e4] at this
   exact⟨q,w,rfl,this,p3.any r3 e5⟩
theorem se_dg1 {apos:Pos} (h:PPr X W cf dpos keys values ks vs) (h15:ks.length≤15) (hu:X.A.units+1<cLine) (hm:M1 X (.Dict keys values dpos) "get" apos k pos) (hk:SE X W k g false) :
  SE X W (.Call (.Attribute (.Dict keys values dpos) "get" apos) [k] [] pos) (fun ρ=>M.bind (dens cf vs ρ) fun ds=>whenM (decide (ds.length=ks.length)&&decide (ks.length≤15)) (M.bind (g ρ) fun y=>M.bind (M.pure []) fun zs=>dgOp .get1 ((ks.map Sum.inr).zip ds) y zs)) false:=by
 refine (pe_dget1 hu (pe_disp h.pp h.some_ h.len h.ne (by rw[h.el];exact h15)) hk hm).imp fun σ H Q ⟨ρ,m,st,er,rl,p⟩ => ?_
 refine disp_rd h.kl h15 er rl (dg_when (es:=vs) p).2 fun q ds kvs st2 m2 H2 hqm hq kr er2 r2 p2 => ?_
 refine⟨q,rfl,.inl ⟨_,.inl hq⟩,ρ,m2,st2,er2,r2,p2.bind laterV fun y v st3 m3 H3 f3 r3 av p3 => ?_⟩
 have p3:Post (aV X.K false) X.K W σ m3 H3 (dgOp .get1 ((ks.map Sum.inr).zip ds) y [] st3) Q:=p3
 unfold dgOp at p3
 cases hy:kyOf y with
|none=>rw[hy] at p3;exact (p3:False).elim
|some k'=>
  rw[hy] at p3
  simp only at p3
  have hl:=(kr.mono f3).last (k:=k')
  have ev:=kyOf_ok av.1 hy
  subst ev
  have this:=dg_find (K:=X.K) (m2:=m3) (k':=k') (f3.keep q _ hqm hq)
  cases hl2:lastV ((ks.map Sum.inr).zip ds) k' with
 |none=>
   rw[hl2] at p3 hl
   rw[hl] at this
   exact⟨_,this,p3.any r3 .non⟩
 |some d=>
   rw[hl2] at hl p3
   obtain⟨w,e4,e5⟩:=hl
   rw[e4] at this
   exact⟨_,this,p3.any r3 e5⟩
theorem se_dg2 {apos:Pos} (h:PPr X W cf dpos keys values ks vs) (h15:ks.length≤15) (hu:X.A.units+1<cLine) (hm:M2 X (.Dict keys values dpos) "get" apos k e pos) (hk:SE X W k g false) (he:SE X W e f false) :
  SE X W (.Call (.Attribute (.Dict keys values dpos) "get" apos) [k,e] [] pos) (fun ρ=>M.bind (dens cf vs ρ) fun ds=>whenM (decide (ds.length=ks.length)&&decide (ks.length≤15)) (M.bind (g ρ) fun y=>M.bind (M.bind (f ρ) fun d=>M.bind (M.pure []) fun ds=>M.pure (d::ds)) fun zs=>dgOp .get2 ((ks.map Sum.inr).zip ds) y zs)) false:=by
 refine (pe_dget2 hu (pe_disp h.pp h.some_ h.len h.ne (by rw[h.el];exact h15)) hk he hm).imp fun σ H Q ⟨ρ,m,st,er,rl,p⟩ => ?_
 refine disp_rd h.kl h15 er rl (dg_when (es:=vs) p).2 fun q ds kvs st2 m2 H2 hqm hq kr er2 r2 p2 => ?_
 refine⟨q,rfl,.inl ⟨_,.inl hq⟩,ρ,m2,st2,er2,r2,p2.bind laterV fun y v st3 m3 H3 f3 r3 av p3 => ?_⟩
 simp only[M.bind_assoc] at p3
 refine⟨ρ,m3,st3,er2.mono f3,r3,p3.bind laterV fun z w st4 m4 H4 f4 r4 av4 p4 => ?_⟩
 have p4:Post (aV X.K false) X.K W σ m4 H4 (dgOp .get2 ((ks.map Sum.inr).zip ds) y [z] st4) Q:=p4
 unfold dgOp at p4
 cases hy:kyOf y with
|none=>rw[hy] at p4;exact (p4:False).elim
|some k'=>
  rw[hy] at p4
  simp only at p4
  have hl:=(kr.mono (f3.trans f4)).last (k:=k')
  have ev:=kyOf_ok av.1 hy
  subst ev
  have this:=dg_find (K:=X.K) (m2:=m4) (k':=k') ((f3.trans f4).keep q _ hqm hq)
  cases hl2:lastV ((ks.map Sum.inr).zip ds) k' with
 |none=>
   rw[hl2] at p4 hl
   rw[hl] at this
   exact⟨_,this,p4.any r4 av4.1⟩
 |some d=>
   rw[hl2] at hl p4
   obtain⟨w',e4,e5⟩:=hl
   rw[e4] at this
   exact⟨_,this,p4.any r4 e5⟩
end
end
end Dn
namespace Dn
open PySem L2
mutual
def G.tg (K:PySem.W.Frag):G→TG
|.nm i=>gName i
|.tp gs=>fun v σ H Q=>gTup K gs.length (G.tgs K gs) v σ H Q∨gLst K gs.length (G.tgs K gs) v σ H Q
def G.tgs (K:PySem.W.Frag):List G→TGs
|[]=>gNil
|g::r=>gCons (G.tg K g) (G.tgs K r)
end
mutual
def G.slots:G→List Nat
|.nm i=>[i]
|.tp gs=>G.slotss gs
def G.slotss:List G→List Nat
|[]=>[]
|g::r=>G.slots g++G.slotss r
end
def Agr (vs:List Nat) (σ σ':L2.St):Prop:=σ'.length=σ.length∧∀j,j ∉ vs→σ'[j]?=σ[j]?
theorem wipe_at {σ:L2.St}:∀{vs:List Nat} {i:Nat},i∈vs→i<σ.length→(L2.wipe σ vs)[i]?=some none
|v::vs,i,h,hi=>by
  unfold L2.wipe
  by_cases e:v=i
  ·subst e
   rw[List.getElem?_set_self (by rw[wipe_length];exact hi)]
  ·rw[List.getElem?_set_ne e]
   exact wipe_at ((List.mem_cons.mp h).resolve_left fun z=>e z.symm) hi
theorem Agr.wipe {vs ws:List Nat} {σ σ':L2.St} (h:Agr ws (L2.wipe σ vs) σ') (hs:∀i∈ws,i∈vs):L2.wipe σ' vs=L2.wipe σ vs:=by
 apply List.ext_getElem?
 intro i
 by_cases hi:i∈vs
 ·by_cases hl:i<σ.length
  ·rw[wipe_at hi hl,wipe_at hi (by rw[h.1,wipe_length];exact hl)]
  ·rw[List.getElem?_eq_none (by rw[wipe_length,h.1,wipe_length];omega),List.getElem?_eq_none (by rw[wipe_length];omega)]
 ·rw[wipe_out hi,h.2 i fun z=>hi (hs i z)]
section
variable {K:PySem.W.Frag} {m:List Addr} {H:Hp}
theorem ER.set {ρ:Env} {σ:L2.St} {d:D} {v:V} (e:ER K m H ρ σ) (i:Nat) (r:VR K m H d v):ER K m H (ρ.set i (some d)) (σ.set i (some v)):=⟨by rw[List.length_set,List.length_set];exact e.len,fun j d' h=>by
 by_cases hj:i=j
 ·subst hj
  have hl:i<ρ.length:=by
   have:=(List.getElem?_eq_some_iff.mp h).1
   rwa [List.length_set] at this
  rw[List.getElem?_set_self hl] at h
  cases h
  exact⟨v,List.getElem?_set_self (by rw[←e.len];exact hl),r⟩
 ·rw[List.getElem?_set_ne hj] at h
  obtain⟨w,h1,h2⟩:=e.at_ j d' h
  exact⟨w,by rw[List.getElem?_set_ne hj];exact h1,h2⟩⟩
theorem ER.wipe {ρ:Env} {σ:L2.St} (e:ER K m H ρ σ):∀vs:List Nat,ER K m H (Dn.wipe ρ vs) (L2.wipe σ vs)
|[]=>e
|v::vs=>by
  have ih:=ER.wipe e vs
  unfold Dn.wipe L2.wipe
  refine⟨by rw[List.length_set,List.length_set];exact ih.len,fun j d h => ?_⟩
  by_cases hj:v=j
  ·subst hj
   by_cases hl:v<(Dn.wipe ρ vs).length
   ·rw[List.getElem?_set_self hl] at h;cases h
   ·rw[List.getElem?_eq_none (by rw[List.length_set];omega)] at h;cases h
  ·rw[List.getElem?_set_ne hj] at h ⊢
   exact ih.at_ j d h
theorem sets_len:∀{gs:List G} {ds:List D} {ρ ρ':Env},G.sets gs ds ρ=some ρ'→gs.length=ds.length
|[],[],_,_,_=>rfl
|g::gs,d::ds,ρ,ρ',h=>by
  rw[G.sets] at h
  cases q:G.set g d ρ with
 |none=>rw[q] at h;cases h
 |some ρ1=>
   rw[q] at h
   rw[List.length_cons,List.length_cons,sets_len h]
|[],_::_,_,_,h=>by simp[G.sets] at h
|_::_,[],_,_,h=>by simp[G.sets] at h
mutual
theorem tg_ok:∀(t:G) {d:D} {ρ ρ':Env} {σ:L2.St} {v:V} {Q:L2.St→Hp→Prop},t.set d ρ=some ρ'→ER K m H ρ σ→VR K m H d v→(∀σ',ER K m H ρ' σ'→Agr t.slots σ σ'→Q σ' H)→t.tg K v σ H Q
|.nm i,d,ρ,ρ',σ,v,Q,h,e,r,q=>by
  rw[G.set] at h
  cases h
  rw[G.tg]
  exact q _ (e.set i r) ⟨List.length_set,fun j hj=>List.getElem?_set_ne fun z=>hj (by rw[z,G.slots];simp)⟩
|.tp gs,d,ρ,ρ',σ,v,Q,h,e,r,q=>by
  cases d with
 |tup ds=>
   rw[G.set] at h
   obtain⟨a,vs,rfl,s,y⟩:=r.tupS
   rw[G.tg]
   exact .inl ⟨a,vs,rfl,s,by rw[←y.length,sets_len h],tgs_ok gs h e y fun σ' e' ag=>q σ' e' (by rw[G.slots];exact ag)⟩
 |lst ds=>
   rw[G.set] at h
   rw[G.tg]
   cases r with
  |lst e1 n1 y=>exact .inr ⟨_,_,rfl,.inl (.inl e1),by rw[←y.length,sets_len h],tgs_ok gs h e y fun σ' e' ag=>q σ' e' (by rw[G.slots];exact ag)⟩
 |_=>simp[G.set] at h
theorem tgs_ok:∀(t:List G) {d:List D} {ρ ρ':Env} {σ:L2.St} {v:List V} {Q:L2.St→Hp→Prop},G.sets t d ρ=some ρ'→ER K m H ρ σ→VRs K m H d v→(∀σ',ER K m H ρ' σ'→Agr (G.slotss t) σ σ'→Q σ' H)→G.tgs K t v σ H Q
|[],d,ρ,ρ',σ,v,Q,h,e,r,q=>by
  cases d with
 |nil=>
   rw[G.sets] at h
   cases h
   cases r
   rw[G.tgs]
   exact⟨rfl,q σ e ⟨rfl,fun _ _=>rfl⟩⟩
 |cons _ _=>simp[G.sets] at h
|g::gs,d,ρ,ρ',σ,v,Q,h,e,r,q=>by
  cases d with
 |nil=>simp[G.sets] at h
 |cons d ds=>
   rw[G.sets] at h
   cases hq:G.set g d ρ with
  |none=>rw[hq] at h;cases h
  |some ρ1=>
    rw[hq] at h
    cases r with
   |@cons _ v _ vs r1 r2=>
     rw[G.tgs]
     refine⟨v,vs,rfl,tg_ok g hq e r1 fun σ1 e1 ag1=>tgs_ok gs h e1 r2 fun σ2 e2 ag2=>q σ2 e2 ⟨ag2.1.trans ag1.1,fun j hj => ?_⟩⟩
     rw[G.slotss] at hj
     rw[ag2.2 j fun z=>hj (List.mem_append_right _ z),ag1.2 j fun z=>hj (List.mem_append_left _ z)]
end
theorem push2 {st:Sto} {p:Addr} {xs:List D} {vs:List V} (r:Rl K m H st) (hn:H p=none) (hv:VRs K m H xs vs):Fut m H (m++[p]) (L2.upd H p (.lst vs))∧Rl K (m++[p]) (L2.upd H p (.lst vs)) (st++[.lst xs]):=by
 have fp:Fut m H (m++[p]) (L2.upd H p (.lst vs)):=Fut.push hn fun a u ha ea=>by rw[upd_ne (ne_of_none ea hn)];exact ea
 exact⟨fp,r.push (o:=.lst xs) hn upd_same (hv.mono fp) fp fun a ha=>upd_ne fun z=>r.fresh hn (z ▸ ha)⟩
end
def aU:Rel Unit Unit:=fun _ _ _ _ _ _ _=>True
theorem laterU {K:PySem.W.Frag}:Later K aU:=⟨fun _ _ _ _ h=>h⟩
abbrev W0:WX:=fun _ _ _ _=>False
theorem noEx_bind {α β:Type} (f:M α) (k:α→M β):noEx (M.bind f k)=M.bind (noEx f) fun a=>noEx (k a):=by
 funext st
 cases e:f st with
|ok a st1=>
  rw[bindM_ok (m:=noEx f) (a:=a) (st1:=st1) (by unfold noEx;rw[e])]
  show noEx (M.bind f k) st=noEx (k a) st1
  unfold noEx
  rw[bindM_ok e]
|ex x st1=>
  rw[bindM_no (m:=noEx f) (by unfold noEx;rw[e])]
  unfold noEx
  rw[bindM_ex e]
|no=>
  rw[bindM_no (m:=noEx f) (by unfold noEx;rw[e])]
  unfold noEx
  rw[bindM_no e]
theorem noEx_ite {α:Type} (b:Bool) (f g:M α):noEx (if b then f else g)=if b then noEx f else noEx g:=by cases b <;> rfl
theorem Post.bindN {α β γ δ:Type} {A:Rel α β} {B:Rel γ δ} {K:PySem.W.Frag} {W:WX} {σ σ':L2.St} {m:List Addr} {H:Hp} {st:Sto} (L:Later K B) {f:M α} {k:α→M γ} {Q:δ→Hp→Prop} {Q':β→Hp→Prop}
  (h:Post B K W σ m H (M.bind (noEx f) k st) Q) (hk:∀a b st1 m1 H1,Fut m H m1 H1→Rl K m1 H1 st1→A m H m1 H1 st1 a b→Post B K W σ m1 H1 (k a st1) Q→Q' b H1):Post A K W0 σ' m H (f st) Q':=by
 cases e:f st with
|ok a st2=>
  have e2:noEx f st=.ok a st2:=by unfold noEx;rw[e]
  rw[bindM_ok e2] at h
  exact fun b m2 H2 f2 r2 ab=>hk a b st2 m2 H2 f2 r2 ab (h.later L f2 r2)
|ex x st2=>
  have e2:noEx f st=.no:=by unfold noEx;rw[e]
  rw[bindM_no e2] at h
  exact h.elim
|no=>
  have e2:noEx f st=.no:=by unfold noEx;rw[e]
  rw[bindM_no e2] at h
  exact h.elim
theorem comp_loop {K:PySem.W.Frag} {W:WX} {σ:L2.St} {m0 m:List Addr} {H0 H:Hp} {st:Sto} {J:It} {gd:Gd} {turn:D→M Unit} {xs:List D} {fin:Hp→Prop} {step:V→Hp→(Hp→Prop)→Prop}
  (jr:JR K m0 H0 J xs gd) (f:Fut m0 H0 m H) (rl:Rl K m H st) (p:Post aU K W σ m H (compL gd turn xs st) fun _ H'=>fin H')
  (hs:∀(d:D) (r:List D) x m H st,Fut m0 H0 m H→Rl K m H st→VR K m H d x→Post aU K W σ m H (M.bind (noEx (turn d)) (fun _=>compL gd turn r) st) (fun _ H'=>fin H') →
   step x H fun H'=>∃m' st',Fut m0 H0 m' H'∧Rl K m' H' st'∧Post aU K W σ m' H' (compL gd turn r st') fun _ H'=>fin H') :
  ∃Wv:Nat→Nat→Hp→Prop,(∃k,Wv 0 k H)∧∀i k H,Wv i k H→(J.stop i H∧fin H)∨(J.go i H∧∃Nx:Hp→Prop,(∀H',Nx H'→∃k',k'<k∧Wv (i+1) k' H')∧∀x H',J.yld i H x H'→step x H' Nx):=by
 refine⟨fun i k H=>k=xs.length - i∧i≤xs.length∧∃m st,Fut m0 H0 m H∧Rl K m H st∧Post aU K W σ m H (compL gd turn (xs.drop i) st) fun _ H'=>fin H',⟨_,rfl,Nat.zero_le _,m,st,f,rl,p⟩,?_⟩
 rintro i k H ⟨rfl,hi,m,st,f,rl,p⟩
 by_cases hl:i<xs.length
 ·rw[List.drop_eq_getElem_cons hl,compL] at p
  obtain⟨g,p⟩:=if_post p
  obtain⟨hgo,hy⟩:=(jr m H st f rl g).1 i xs[i] (List.getElem?_eq_getElem hl)
  refine .inr ⟨hgo,_,fun H' hN=>⟨xs.length - (i+1),by omega,rfl,hl,hN⟩,fun x H' y => ?_⟩
  obtain⟨f2,r2,v2⟩:=hy x H' y
  exact hs xs[i] (xs.drop (i+1)) x m H' st (f.trans f2) r2 v2 (p.later laterU f2 r2)
 ·have e:i=xs.length:=by omega
  subst e
  rw[List.drop_length,compL] at p
  obtain⟨g,p⟩:=if_post p
  exact .inl ⟨(jr m H st f rl g).2 _ rfl,p.fin (y:=()) rl trivial⟩
section
variable {K:PySem.W.Frag} {W:WX} {σ:L2.St} {t t1:G} {fw:Env→M (List D×Gd)} {fw1:Env→M (List D×Gd)} {fc fc1:Env→M Bool} {fe:Env→M D} {vs vs1:List Nat}
def lcT (fc:Env→M Bool) (fe:Env→M D) (t:G) (vs:List Nat) (ρ:Env):Nat→D→M Unit:=fun n d=>M.bind (orNo (t.set d (Dn.wipe ρ vs))) fun ρ'=>M.bind (fc ρ') fun b=>if b then M.bind (fe ρ') fun y=>app1 n y else M.pure ()
def lcT2 (fc:Env→M Bool) (fw1:Env→M (List D×Gd)) (fc1:Env→M Bool) (fe:Env→M D) (t t1:G) (vs vs1:List Nat) (ρ:Env):Nat→D→M Unit:=fun n d=>M.bind (orNo (t.set d (Dn.wipe ρ vs))) fun ρ'=>M.bind (fc ρ') fun b=>if b then
 M.bind (fw1 ρ') fun w1=>compL w1.2 (lcT fc1 fe t1 vs1 ρ' n) w1.1 else M.pure ()
theorem app1_ok {m0 m:List Addr} {H0 H:Hp} {st:Sto} {n:Nat} {Dd:Addr} {y:D} {v:V} {k:M Unit} {Q:Hp→Prop} (hD:m[n]?=some Dd) (f:Fut m0 H0 m H) (rl:Rl K m H st) (hy:VR K m H y v)
  (p:Post aU K W σ m H (M.bind (noEx (app1 n y)) (fun _=>k) st) fun _ H'=>Q H') :
  ∃acc,H Dd=some (.lst acc)∧acc.length<sizeLine∧∃m' st',Fut m0 H0 m' (L2.upd H Dd (.lst (acc++[v])))∧Rl K m' (L2.upd H Dd (.lst (acc++[v]))) st'∧Post aU K W σ m' (L2.upd H Dd (.lst (acc++[v]))) (k st') fun _ H'=>Q H':=by
 cases q:st[n]? with
|none=>
  rw[bindM_no (by unfold noEx app1;rw[q])] at p
  exact p.elim
|some o=>
  cases o with
 |lst xs=>
   obtain⟨us,z,yy⟩:=rl.get hD q
   by_cases hz:szOk xs.length=true
   ·rw[bindM_ok (a:=()) (st1:=st.set n (.lst (xs++[y]))) (by unfold noEx app1;rw[q];simp only[if_pos hz])] at p
    have r2:=rl.set hD (yy.append (.cons hy .nil))
    exact⟨us,z,by rw[←yy.length];exact szOk_lt hz,m,_,f.trans (Fut.set hD),r2,p.later laterU (Fut.set hD) r2⟩
   ·rw[bindM_no (by unfold noEx app1;rw[q];simp only[if_neg hz])] at p
    exact p.elim
 |_=>
   rw[bindM_no (by unfold noEx app1;rw[q])] at p
   exact p.elim
theorem orNo_ok {α β γ:Type} {A:Rel β γ} {m:List Addr} {H:Hp} {st:Sto} {o:Option α} {k:α→M β} {Q:γ→Hp→Prop} (p:Post A K W σ m H (M.bind (orNo o) k st) Q):∃a,o=some a∧Post A K W σ m H (k a st) Q:=by
 cases o with
|none=>exact (p:False).elim
|some a=>exact⟨a,rfl,p⟩
theorem lc_rd {H:Hp} {Q:VK} (hsl:∀i∈t.slots,i∈vs)
  (h:rd (aV K true) K W (fun ρ=>M.bind (fw ρ) fun w=>compM w.2 (lcT fc fe t vs ρ) w.1) σ H Q) :
  tLc (rd (aI K) K W fw) (t.tg K) (rd aB K W0 fc) (rd (aV K false) K W0 fe) vs σ H Q:=by
 refine rd_bind laterV h fun ρ w J st1 m m1 H1 f1 r1 er jr p => ?_
 intro Dd hD
 obtain⟨fp,rp⟩:=push2 r1 hD (VRs.nil (K:=K) (m:=m1) (H:=H1))
 have p:=(callV_post r1 p).later laterV fp rp
 have hn:(m1++[Dd])[st1.length]?=some Dd:=by rw[←r1.len,List.getElem?_append_right (Nat.le_refl _),Nat.sub_self];rfl
 have p:Post aU K (fun c d _ H=>W c d σ H) [] (m1++[Dd]) (L2.upd H1 Dd (.lst [])) (compL w.2 (lcT fc fe t vs ρ st1.length) w.1 (st1++[.lst []])) (fun _ H'=>Q (.ref Dd) H'):=
  p.bind laterV fun _ _ st2 m2 H2 f2 r2 _ q=>q.any r2 (.ref (f2.at_ hn))
 refine comp_loop (step:=fun x H' Nx=>t.tg K x (L2.wipe σ vs) H' fun σ2 H2=>L2.wipe σ2 vs=L2.wipe σ vs∧rd aB K W0 fc σ2 H2 fun b H3=>
  if b=true then rd (aV K false) K W0 fe σ2 H3 fun y H4=>∃acc,H4 Dd=some (.lst acc)∧acc.length<sizeLine∧Nx (L2.upd H4 Dd (.lst (acc++[y]))) else Nx H3)
  (fun m2 H2 st2 f2=>jr m2 H2 st2 (fp.trans f2)) .refl rp p fun d r x m3 H3 st3 f3 r3 vx q => ?_
 have e0:∀(o:Option Env),noEx (orNo o)=orNo o:=fun o=>by cases o <;> rfl
 rw[show lcT fc fe t vs ρ st1.length d=M.bind (orNo (t.set d (Dn.wipe ρ vs))) (fun ρ'=>M.bind (fc ρ') fun b=>if b then M.bind (fe ρ') fun y=>app1 st1.length y else M.pure ()) from rfl] at q
 simp only[noEx_bind,noEx_ite,M.bind_assoc] at q
 rw[e0] at q
 obtain⟨ρ',eρ,q⟩:=orNo_ok q
 refine tg_ok t eρ ((er.mono (fp.trans f3)).wipe vs) vx fun σ2 e2 ag=>⟨ag.wipe hsl,ρ',m3,st3,e2,r3,?_⟩
 refine q.bindN laterU fun b b' st4 m4 H4 f4 r4 eb q => ?_
 cases eb
 cases b with
|false=>exact iteF ⟨m4,st4,f3.trans f4,r4,q⟩
|true=>
  refine iteT ⟨ρ',m4,st4,e2.mono f4,r4,?_⟩
  have q:Post aU K (fun c d _ H=>W c d σ H) [] m4 H4 (M.bind (noEx (fe ρ')) (fun y=>M.bind (noEx (app1 st1.length y)) fun _=>compL w.2 (lcT fc fe t vs ρ st1.length) r) st4) (fun _ H'=>Q (.ref Dd) H'):=by
   rw[←M.bind_assoc]
   exact q
  exact q.bindN laterU fun y v st5 m5 H5 f5 r5 vy q=>app1_ok ((f3.trans (f4.trans f5)).at_ hn) (f3.trans (f4.trans f5)) r5 vy.1 q
theorem lc2_rd {H:Hp} {Q:VK} (hsl:∀i∈t.slots,i∈vs) (hsl1:∀i∈t1.slots,i∈vs1)
  (h:rd (aV K true) K W (fun ρ=>M.bind (fw ρ) fun w=>compM w.2 (lcT2 fc fw1 fc1 fe t t1 vs vs1 ρ) w.1) σ H Q) :
  tLc2 (rd (aI K) K W fw) (t.tg K) (rd aB K W0 fc) (rd (aI K) K W0 fw1) (t1.tg K) (rd aB K W0 fc1) (rd (aV K false) K W0 fe) vs vs1 σ H Q:=by
 refine rd_bind laterV h fun ρ w J st1 m m1 H1 f1 r1 er jr p => ?_
 intro Dd hD
 obtain⟨fp,rp⟩:=push2 r1 hD (VRs.nil (K:=K) (m:=m1) (H:=H1))
 have p:=(callV_post r1 p).later laterV fp rp
 have hn:(m1++[Dd])[st1.length]?=some Dd:=by rw[←r1.len,List.getElem?_append_right (Nat.le_refl _),Nat.sub_self];rfl
 have p:Post aU K (fun c d _ H=>W c d σ H) [] (m1++[Dd]) (L2.upd H1 Dd (.lst [])) (compL w.2 (lcT2 fc fw1 fc1 fe t t1 vs vs1 ρ st1.length) w.1 (st1++[.lst []])) (fun _ H'=>Q (.ref Dd) H'):=
  p.bind laterV fun _ _ st2 m2 H2 f2 r2 _ q=>q.any r2 (.ref (f2.at_ hn))
 refine comp_loop (step:=fun x H' Nx=>t.tg K x (L2.wipe σ vs) H' fun σ2 H2=>L2.wipe σ2 vs=L2.wipe σ vs∧rd aB K W0 fc σ2 H2 fun b H3=>
  if b=true then rd (aI K) K W0 fw1 σ2 H3 fun J1 H4=>∃W1:Nat→Nat→Hp→Prop,(∃m,W1 0 m H4)∧∀j k H,W1 j k H →
   (J1.stop j H∧Nx H)∨(J1.go j H∧∃Nx1:Hp→Prop,(∀H',Nx1 H'→∃k',k'<k∧W1 (j+1) k' H')∧∀x H',J1.yld j H x H'→t1.tg K x (L2.wipe σ2 vs1) H' fun σ3 H5=>L2.wipe σ3 vs1=L2.wipe σ2 vs1∧rd aB K W0 fc1 σ3 H5 fun b H6=>
    if b=true then rd (aV K false) K W0 fe σ3 H6 fun y H7=>∃acc,H7 Dd=some (.lst acc)∧acc.length<sizeLine∧Nx1 (L2.upd H7 Dd (.lst (acc++[y]))) else Nx1 H6)
  else Nx H3)
  (fun m2 H2 st2 f2=>jr m2 H2 st2 (fp.trans f2)) .refl rp p fun d r x m3 H3 st3 f3 r3 vx q => ?_
 have e0:∀(o:Option Env),noEx (orNo o)=orNo o:=fun o=>by cases o <;> rfl
 rw[show lcT2 fc fw1 fc1 fe t t1 vs vs1 ρ st1.length d=M.bind (orNo (t.set d (Dn.wipe ρ vs))) (fun ρ'=>M.bind (fc ρ') fun b=>if b then M.bind (fw1 ρ') (fun w1=>compL w1.2 (lcT fc1 fe t1 vs1 ρ' st1.length) w1.1) else M.pure ()) from rfl] at q
 simp only[noEx_bind,noEx_ite,M.bind_assoc] at q
 rw[e0] at q
 obtain⟨ρ',eρ,q⟩:=orNo_ok q
 refine tg_ok t eρ ((er.mono (fp.trans f3)).wipe vs) vx fun σ2 e2 ag=>⟨ag.wipe hsl,ρ',m3,st3,e2,r3,?_⟩
 refine q.bindN laterU fun b b' st4 m4 H4 f4 r4 eb q => ?_
 cases eb
 cases b with
|false=>exact iteF ⟨m4,st4,f3.trans f4,r4,q⟩
|true=>
  refine iteT ⟨ρ',m4,st4,e2.mono f4,r4,?_⟩
  have q:Post aU K (fun c d _ H=>W c d σ H) [] m4 H4 (M.bind (noEx (fw1 ρ')) (fun w1=>M.bind (noEx (compL w1.2 (lcT fc1 fe t1 vs1 ρ' st1.length) w1.1)) fun _=>compL w.2 (lcT2 fc fw1 fc1 fe t t1 vs vs1 ρ st1.length) r) st4) (fun _ H'=>Q (.ref Dd) H'):=by
   rw[←M.bind_assoc]
   exact q
  refine q.bindN laterU fun w1 J1 st5 m5 H5 f5 r5 j1 q => ?_
  have F5:=f3.trans (f4.trans f5)
  have q:Post aU K W0 σ m5 H5 (compL w1.2 (lcT fc1 fe t1 vs1 ρ' st1.length) w1.1 st5) (fun _ H'=>∃m' st',Fut (m1++[Dd]) (L2.upd H1 Dd (.lst [])) m' H'∧Rl K m' H' st'∧Post aU K (fun c d _ H=>W c d σ H) [] m' H' (compL w.2 (lcT2 fc fw1 fc1 fe t t1 vs vs1 ρ st1.length) r st') fun _ H'=>Q (.ref Dd) H'):=
   q.bindN laterU fun _ _ st6 m6 H6 f6 r6 _ q=>⟨m6,st6,F5.trans f6,r6,q⟩
  refine comp_loop (step:=fun x H' Nx1=>t1.tg K x (L2.wipe σ2 vs1) H' fun σ3 H5=>L2.wipe σ3 vs1=L2.wipe σ2 vs1∧rd aB K W0 fc1 σ3 H5 fun b H6=>
    if b=true then rd (aV K false) K W0 fe σ3 H6 fun y H7=>∃acc,H7 Dd=some (.lst acc)∧acc.length<sizeLine∧Nx1 (L2.upd H7 Dd (.lst (acc++[y]))) else Nx1 H6)
   j1 .refl r5 q fun d1 rr x1 m6 H6 st6 f6 r6 vx1 q => ?_
  rw[show lcT fc1 fe t1 vs1 ρ' st1.length d1=M.bind (orNo (t1.set d1 (Dn.wipe ρ' vs1))) (fun ρ'=>M.bind (fc1 ρ') fun b=>if b then M.bind (fe ρ') fun y=>app1 st1.length y else M.pure ()) from rfl] at q
  simp only[noEx_bind,noEx_ite,M.bind_assoc] at q
  rw[e0] at q
  obtain⟨ρ2,eρ2,q⟩:=orNo_ok q
  refine tg_ok t1 eρ2 ((e2.mono (f4.trans (f5.trans f6))).wipe vs1) vx1 fun σ3 e3 ag3=>⟨ag3.wipe hsl1,ρ2,m6,st6,e3,r6,?_⟩
  refine q.bindN laterU fun b1 b1' st7 m7 H7 f7 r7 eb1 q => ?_
  cases eb1
  cases b1 with
 |false=>exact iteF ⟨m7,st7,f6.trans f7,r7,q⟩
 |true=>
   refine iteT ⟨ρ2,m7,st7,e3.mono f7,r7,?_⟩
   simp only[if_true,M.bind_assoc] at q
   exact q.bindN laterU fun y v st8 m8 H8 f8 r8 vy q=>app1_ok ((F5.trans (f6.trans (f7.trans f8))).at_ hn) (f6.trans (f7.trans f8)) r8 vy.1 q
end
end Dn
namespace Dn
open PySem L2
def PostS (K:PySem.W.Frag) (W:WX) (D:Ends) (m:List Addr) (H:Hp) (r:RS):Prop:=match r with
|.ok (.nx ρ) st=>∀σ m' H',Fut m H m' H'→ER K m' H' ρ σ→Rl K m' H' st→D.nx σ H'
|.ok (.bk ρ) st=>∀σ m' H',Fut m H m' H'→ER K m' H' ρ σ→Rl K m' H' st→D.bk σ H'
|.ok (.ct ρ) st=>∀σ m' H',Fut m H m' H'→ER K m' H' ρ σ→Rl K m' H' st→D.ct σ H'
|.ok (.rt d) st=>∀v m' H',Fut m H m' H'→Rl K m' H' st→VR K m' H' d v→D.rt v H'
|.ex x ρ st=>∀cls dd σ m' H',Fut m H m' H'→ER K m' H' ρ σ→Rl K m' H' st→XR K m' H' x cls dd→W cls dd σ H'
|.no=>False
def sD (K:PySem.W.Frag) (W:WX) (f:Env→Sto→RS):TS:=fun D σ H=>∃ρ m st,ER K m H ρ σ∧Rl K m H st∧PostS K W D m H (f ρ st)
abbrev SS (X:Cx) (W:WX) (s:Stmt) (f:Env→Sto→RS):Prop:=PS X s (sD X.K W f)
abbrev SSs (X:Cx) (W:WX) (s:List Stmt) (f:Env→Sto→RS):Prop:=PSs X s (sD X.K W f)
section
variable {K:PySem.W.Frag} {W:WX} {D:Ends} {m m1:List Addr} {H H1:Hp} {st:Sto} {ρ:Env} {σ:L2.St}
theorem PostS.later {r:RS} (h:PostS K W D m H r) (f:Fut m H m1 H1):PostS K W D m1 H1 r:=by
 match r,h with
|.ok (.nx _) _,h=>exact fun σ m' H' f'=>h σ m' H' (f.trans f')
|.ok (.bk _) _,h=>exact fun σ m' H' f'=>h σ m' H' (f.trans f')
|.ok (.ct _) _,h=>exact fun σ m' H' f'=>h σ m' H' (f.trans f')
|.ok (.rt _) _,h=>exact fun v m' H' f'=>h v m' H' (f.trans f')
|.ex _ _ _,h=>exact fun c d σ m' H' f'=>h c d σ m' H' (f.trans f')
|.no,h=>exact h
theorem PostS.and {α β:Type} {A:Rel α β} {r:R α} {k:α→Sto→RS} {Q:β→Hp→Prop} (h:PostS K W D m H (andS ρ r k)) (er:ER K m H ρ σ)
  (hk:∀a b st1 m1 H1,Fut m H m1 H1→Rl K m1 H1 st1→ER K m1 H1 ρ σ→A m H m1 H1 st1 a b→PostS K W D m1 H1 (k a st1)→Q b H1):Post A K W σ m H r Q:=by
 cases r with
|ok a st1=>exact fun b m1 H1 f1 r1 ab=>hk a b st1 m1 H1 f1 r1 (er.mono f1) ab (h.later f1)
|ex x st1=>exact fun c d m1 H1 f1 r1 xr=>h c d σ m1 H1 f1 (er.mono f1) r1 xr
|no=>exact h
theorem PostS.nx (h:PostS K W D m H (.ok (.nx ρ) st)) (er:ER K m H ρ σ) (rl:Rl K m H st):D.nx σ H:=h σ m H .refl er rl
theorem sD_and {α β:Type} {A:Rel α β} {f:Env→M α} {k:Env→α→Sto→RS} {Q:β→Hp→Prop} (h:sD K W (fun ρ st=>andS ρ (f ρ st) (k ρ)) D σ H)
  (hk:∀ρ a b st1 m1 H1,Rl K m1 H1 st1→ER K m1 H1 ρ σ→(∃m,A m H m1 H1 st1 a b)→PostS K W D m1 H1 (k ρ a st1)→Q b H1):rd A K W f σ H Q:=by
 obtain⟨ρ,m,st,er,rl,p⟩:=h
 exact⟨ρ,m,st,er,rl,p.and er fun a b st1 m1 H1 f1 r1 er1 ab q=>hk ρ a b st1 m1 H1 r1 er1 ⟨m,ab⟩ q⟩
theorem PostS.mono {D':Ends} {r:RS} (h:PostS K W D m H r) (h1:∀σ H,D.nx σ H→D'.nx σ H) (h2:∀v H,D.rt v H→D'.rt v H) (h3:∀σ H,D.bk σ H→D'.bk σ H) (h4:∀σ H,D.ct σ H→D'.ct σ H):PostS K W D' m H r:=by
 match r,h with
|.ok (.nx _) _,h=>exact fun σ m' H' f' e r=>h1 _ _ (h σ m' H' f' e r)
|.ok (.bk _) _,h=>exact fun σ m' H' f' e r=>h3 _ _ (h σ m' H' f' e r)
|.ok (.ct _) _,h=>exact fun σ m' H' f' e r=>h4 _ _ (h σ m' H' f' e r)
|.ok (.rt _) _,h=>exact fun v m' H' f' e r=>h2 _ _ (h v m' H' f' e r)
|.ex _ _ _,h=>exact h
|.no,h=>exact h
end
section
variable {X:Cx} {W:WX} {a b c e o tg:Expr} {es:List Expr} {f g k:Env→M D} {fa:Env→M (List D)} {t:Env→M Bool} {pos p1 p2:Pos} {x y:Str} {i j:Nat} {s:Stmt} {ss ss':List Stmt} {fs gs:Env→Sto→RS}
theorem sss_nil:SSs X W [] (fun ρ st=>.ok (.nx ρ) st):=pss_nil.imp fun D σ H ⟨ρ,m,st,er,rl,p⟩=>p.nx er rl
theorem sss_cons (h1:SS X W s fs) (h2:SSs X W ss gs):SSs X W (s::ss) (fun ρ st=>andC (fs ρ st) fun ρ st=>gs ρ st):=by
 refine (pss_cons h1 h2).imp fun D σ H ⟨ρ,m,st,er,rl,p⟩=>⟨ρ,m,st,er,rl,?_⟩
 have p:PostS X.K W D m H (andC (fs ρ st) fun ρ st=>gs ρ st):=p
 cases q:fs ρ st with
|no=>rw[q] at p;exact p
|ex x ρ' st'=>rw[q] at p;exact p
|ok c st'=>
  rw[q] at p
  cases c with
 |nx ρ'=>exact fun σ' m' H' f' er' rl'=>⟨ρ',m',st',er',rl',PostS.later p f'⟩
 |bk ρ'=>exact p
 |ct ρ'=>exact p
 |rt d=>exact p
theorem ss_pass:SS X W (.Pass pos) (fun ρ st=>.ok (.nx ρ) st):=ps_pass.imp fun D σ H ⟨ρ,m,st,er,rl,p⟩=>p.nx er rl
theorem ss_brk:SS X W (.Break pos) (fun ρ st=>.ok (.bk ρ) st):=ps_break.imp fun D σ H ⟨ρ,m,st,er,rl,p⟩=>p σ m H .refl er rl
theorem ss_cnt:SS X W (.Continue pos) (fun ρ st=>.ok (.ct ρ) st):=ps_continue.imp fun D σ H ⟨ρ,m,st,er,rl,p⟩=>p σ m H .refl er rl
theorem ss_no:SS X W s (fun _ _=>.no):=⟨fun pins sh σ H D I ⟨_,_,_,_,_,p⟩=>p.elim⟩
theorem sss_no:SSs X W ss (fun _ _=>.no):=⟨fun pins sh σ H D I ⟨_,_,_,_,_,p⟩=>p.elim⟩
theorem ss_ret (he:SE X W e f false):SS X W (.Return (some e) pos) (fun ρ st=>andS ρ (f ρ st) fun d st=>.ok (.rt d) st):=
 (ps_ret he).imp fun D σ H h=>sD_and h fun ρ d v st1 m1 H1 r1 er ⟨m,av⟩ p=>p v m1 H1 .refl r1 av.1
theorem ss_retN:SS X W (.Return none pos) (fun _ st=>.ok (.rt .non) st):=ps_retN.imp fun D σ H ⟨ρ,m,st,er,rl,p⟩=>p .non m H .refl rl .non
theorem ss_exp (hs:swapsWith e none pos.line X.env=pure false) (he:SE X W e f false):SS X W (.Expr e pos) (fun ρ st=>andS ρ (f ρ st) fun _ st=>.ok (.nx ρ) st):=
 (ps_expr he hs).imp fun D σ H h=>sD_and h fun ρ d v st1 m1 H1 r1 er ⟨m,av⟩ p=>p.nx er r1
theorem ss_if (hc:ST X W c t) (ha:SSs X W ss fs) (hb:SSs X W ss' gs):SS X W (.If c ss ss' pos) (fun ρ st=>andS ρ (t ρ st) fun q st=>if q then fs ρ st else gs ρ st):=
 (ps_if hc ha hb).imp fun D σ H h=>sD_and h fun ρ d v st1 m1 H1 r1 er ⟨m,av⟩ p=>by
  cases av
  cases d with
 |true=>exact iteT ⟨ρ,m1,st1,er,r1,p⟩
 |false=>exact iteF ⟨ρ,m1,st1,er,r1,p⟩
theorem ss_tg {tt:G} (hg:PG X tg (tt.tg X.K)) (he:SE X W e f false) (hs:swapsWithSole [tg] e pos.line X.env=pure false) (hw:swappedStores [tg] e X.env=pure none) (h1:(assignEach [tg] X.env).map (·.2)=[assign tg X.env]) :
  SS X W (.Assign [tg] e pos) (fun ρ st=>andS ρ (f ρ st) fun d st=>match tt.set d ρ with
  |some ρ'=>.ok (.nx ρ') st
  |none=>.no):=
 (ps_asg he hg hs hw h1).imp fun D σ H h=>sD_and h fun ρ d v st1 m1 H1 r1 er ⟨m,av⟩ p=>by
  cases q:tt.set d ρ with
 |none=>rw[q] at p;exact p.elim
 |some ρ'=>
   rw[q] at p
   exact tg_ok tt q er av.1 fun σ' e' _=>p.nx e' r1
theorem ss_set (hN:X.N.Nodup) (hi:X.N[i]?=some x) (hx:Loc X.env.scope x) (hf:X.fn x=true∨X.env.scope.names.lookup x=some .local) (hs:swapsWith e (some (.Name x p1)) pos.line X.env=pure false) (he:SE X W e f false) :
  SS X W (.Assign [.Name x p1] e pos) (fun ρ st=>andS ρ (f ρ st) fun d st=>match (G.nm i).set d ρ with
  |some ρ'=>.ok (.nx ρ') st
  |none=>.no):=
 (ps_set hN hi hx he hs hf).imp fun D σ H h=>sD_and h fun ρ d v st1 m1 H1 r1 er ⟨m,av⟩ p=>p.nx (er.set i av.1) r1
theorem ss_par {kt k2:Nat} {px py pt pt2:Pos} (hc:X.calm=true) (hN:X.N.Nodup) (hi:X.N[i]?=some x) (hj:X.N[j]?=some y) (hij:i≠j) (hx:X.env.scope.names.lookup x=some .local) (hy:X.env.scope.names.lookup y=some .local)
  (hs1:noStar a=true) (hs2:noStar b=true) (ha:SE X W a f false) (hb:SE X W b g false)
  (hw:swappedStores [.Tuple [.Name x px,.Name y py] kt pt] (.Tuple [a,b] k2 pt2) X.env=pure (some [x,y])) (hs:swapsWithSole [.Tuple [.Name x px,.Name y py] kt pt] (.Tuple [a,b] k2 pt2) pos.line X.env=pure false) :
  SS X W (.Assign [.Tuple [.Name x px,.Name y py] kt pt] (.Tuple [a,b] k2 pt2) pos) (fun ρ st=>andS ρ (f ρ st) fun u st=>andS ρ (g ρ st) fun v st=>.ok (.nx ((ρ.set i (some u)).set j (some v))) st):=by
 have hA:PA X [a,b] (tCons (rd (aV X.K false) X.K W f) (tCons (rd (aV X.K false) X.K W g) tNil)):=pa_cons ha (pa_cons hb pa_nil (starEach_cons hs2)) (starEach_cons hs1)
 refine (ps_par hc hN hi hj hij hx hy hA hw hs).imp fun D σ H h => ?_
 refine sD_and h fun ρ d v st1 m1 H1 r1 er ⟨m,av⟩ p=>⟨ρ,m1,st1,er,r1,p.and er fun d2 v2 st2 m2 H2 f2 r2 er2 av2 p2=>⟨v,v2,rfl,p2.nx ((er2.set i (av.1.mono f2)).set j av2.1) r2⟩⟩
theorem ss_par3 {l:Nat} {z:Str} {c:Expr} {k3:Env→M D} {kt k2:Nat} {px py pz pt pt2:Pos} (hc:X.calm=true) (hN:X.N.Nodup) (hi:X.N[i]?=some x) (hj:X.N[j]?=some y) (hl:X.N[l]?=some z) (hij:i≠j) (hil:i≠l) (hjl:j≠l) (hx:X.env.scope.names.lookup x=some .local) (hy:X.env.scope.names.lookup y=some .local) (hz:X.env.scope.names.lookup z=some .local)
  (hs1:noStar a=true) (hs2:noStar b=true) (hs3:noStar c=true) (ha:SE X W a f false) (hb:SE X W b g false) (hc3:SE X W c k3 false)
  (hw:swappedStores [.Tuple [.Name x px,.Name y py,.Name z pz] kt pt] (.Tuple [a,b,c] k2 pt2) X.env=pure (some [x,y,z])) (hs:swapsWithSole [.Tuple [.Name x px,.Name y py,.Name z pz] kt pt] (.Tuple [a,b,c] k2 pt2) pos.line X.env=pure false) :
  SS X W (.Assign [.Tuple [.Name x px,.Name y py,.Name z pz] kt pt] (.Tuple [a,b,c] k2 pt2) pos) (fun ρ st=>andS ρ (f ρ st) fun u st=>andS ρ (g ρ st) fun v st=>andS ρ (k3 ρ st) fun w st=>.ok (.nx (((ρ.set i (some u)).set j (some v)).set l (some w))) st):=by
 have hA:PA X [a,b,c] (tCons (rd (aV X.K false) X.K W f) (tCons (rd (aV X.K false) X.K W g) (tCons (rd (aV X.K false) X.K W k3) tNil))):=pa_cons ha (pa_cons hb (pa_cons hc3 pa_nil (starEach_cons hs3)) (starEach_cons hs2)) (starEach_cons hs1)
 refine (ps_par3 hc hN hi hj hl hij hil hjl hx hy hz hA hw hs).imp fun D σ H h => ?_
 refine sD_and h fun ρ d v st1 m1 H1 r1 er ⟨m,av⟩ p=>⟨ρ,m1,st1,er,r1,p.and er fun d2 v2 st2 m2 H2 f2 r2 er2 av2 p2=>⟨ρ,m2,st2,er2,r2,p2.and er2 fun d3 v3 st3 m3 H3 f3 r3 er3 av3 p3=>⟨v,v2,v3,rfl,p3.nx (((er3.set i ((av.1.mono f2).mono f3)).set j (av2.1.mono f3)).set l av3.1) r3⟩⟩⟩
theorem setIx_ok {K:PySem.W.Frag} {D0:Ends} {m:List Addr} {H:Hp} {st:Sto} {σ:L2.St} {ρ:Env} {od id_ vd:D} {u v w:V} (rl:Rl K m H st) (er:ER K m H ρ σ) (ho:VR K m H od u) (hi:VR K m H id_ v) (hv:VR K m H vd w)
  (p:PostS K W D0 m H (andS ρ (setIx od id_ vd st) fun _ st=>.ok (.nx ρ) st)):rSetL u v w H fun H3=>D0.nx σ H3:=by
 cases od with
|ref n=>
  cases id_ with
 |int kk=>
   cases hi
   cases ho with
  |@ref _ ad e1=>
    simp only[setIx] at p
    cases q:st[n]? with
   |none=>rw[q] at p;exact p.elim
   |some ob=>
     cases ob with
    |lst xs=>
      rw[q] at p
      simp only at p
      cases q2:Dn.ixN xs.length kk with
     |none=>rw[q2] at p;exact p.elim
     |some jj=>
       rw[q2] at p
       obtain⟨us,z,yy⟩:=rl.get e1 q
       refine⟨ad,us,kk,jj,rfl,rfl,z,by rw[←yy.length,←ixN_eq];exact q2,?_⟩
       exact p σ m _ (Fut.set e1) (er.mono (Fut.set e1)) (rl.set e1 (yy.set hv jj))
    |_=>rw[q] at p;exact p.elim
 |_=>exact p.elim
|_=>exact p.elim
theorem ss_put (ha:∀v,assign (.Subscript o b p1) X.env v=(do
   let ov ←holding [v] (eval o X.env)
   let iv ←holding [v,ov] (eval b X.env)
   standAt p1
   holding [v,ov,iv] (setItem ov iv v)
   release [v,ov,iv] [])) (hs:swapsWithSole [.Subscript o b p1] e pos.line X.env=pure false) (hw:swappedStores [.Subscript o b p1] e X.env=pure none)
  (he:SE X W e f false) (ho:SE X W o g false) (hb:SE X W b k false) :
  SS X W (.Assign [.Subscript o b p1] e pos) (fun ρ st=>andS ρ (f ρ st) fun v st=>andS ρ (g ρ st) fun o st=>andS ρ (k ρ st) fun i st=>andS ρ (setIx o i v st) fun _ st=>.ok (.nx ρ) st):=
 (ps_asg he (pg_sub ho hb set_list ha) hs hw rfl).imp fun D σ H h=>sD_and h fun ρ d v st1 m1 H1 r1 er ⟨m,av⟩ p=>⟨ρ,m1,st1,er,r1,p.and er fun d2 v2 st2 m2 H2 f2 r2 er2 av2 p2=>
  ⟨ρ,m2,st2,er2,r2,p2.and er2 fun d3 v3 st3 m3 H3 f3 r3 er3 av3 p3=>setIx_ok r3 er3 (av2.1.mono f3) av3.1 (av.1.mono (f2.trans f3)) p3⟩⟩
def rAug (op:Operator):TIp:=match op with
|.Add=>ipI fun i j=>i+j
|.Sub=>ipI fun i j=>i - j
|_=>fun _ _ _ _=>False
theorem ip_all {op:Operator}:PIp X op (rAug op):=by
 cases op with
|Add=>exact ip_add
|Sub=>exact ip_sub
|_=>exact fun _ _ _ _ _ _ _ _ _ _ _ _ h=>(h:False).elim
theorem ss_aug {op:Operator} (hN:X.N.Nodup) (hi:X.N[i]?=some x) (hx:Loc X.env.scope x) (hf:X.fn x=true∨X.env.scope.names.lookup x=some .local) (he:SE X W e f false) :
  SS X W (.AugAssign (.Name x p1) op e pos) (fun ρ st=>match ρ[i]?.join with
  |some x=>andS ρ (f ρ st) fun y st=>andS ρ (augOp op x y st) fun z st=>.ok (.nx (ρ.set i (some z))) st
  |none=>.no):=by
 refine (ps_aug hN hi hx he ip_all hf).imp fun D σ H ⟨ρ,m,st,er,rl,p⟩ => ?_
 cases q:ρ[i]? with
|none=>simp only[q,Option.join] at p;exact p.elim
|some od=>
  cases od with
 |none=>simp only[q,Option.join] at p;exact p.elim
 |some d=>
   simp only[q,Option.join] at p
   obtain⟨v,e1,r⟩:=er.at_ i d q
   refine⟨v,e1,ρ,m,st,er,rl,PostS.and p er fun d2 v2 st2 m2 H2 f2 r2 er2 av2 p2 => ?_⟩
   have r:=r.mono f2
   cases d with
  |int i1=>
    cases d2 with
   |int i2=>
     cases r
     cases av2.1
     cases op with
    |Add=>exact⟨i1,i2,rfl,rfl,p2.nx (er2.set i (.int _)) r2⟩
    |Sub=>exact⟨i1,i2,rfl,rfl,p2.nx (er2.set i (.int _)) r2⟩
    |_=>exact p2.elim
   |_=>cases op <;> exact p2.elim
  |_=>cases op <;> cases d2 <;> exact p2.elim
theorem ss_while (hp:PassesOwn (model X.prog X.w) X.A X.env X.xe) {fuel:Nat} (hc:ST X W c t) (hb:SSs X W ss fs):SS X W (.While c ss [] pos) (fun ρ st=>whileL t fs fuel ρ st):=by
 refine (ps_while hp hc hb).imp fun D σ H ⟨ρ,m,st,er,rl,p⟩ => ?_
 refine⟨fun n σ H=>∃ρ m st,ER X.K m H ρ σ∧Rl X.K m H st∧PostS X.K W D m H (whileL t fs n ρ st),⟨fuel,ρ,m,st,er,rl,p⟩,?_⟩
 rintro n σ H ⟨ρ,m,st,er,rl,p⟩
 cases n with
|zero=>exact p.elim
|succ n=>
  refine⟨ρ,m,st,er,rl,?_⟩
  rw[whileL] at p
  cases q:t ρ st with
 |no=>rw[q] at p;exact p
 |ex x st1=>rw[q] at p;exact fun c d m1 H1 f1 r1 xr=>p c d σ m1 H1 f1 (er.mono f1) r1 xr
 |ok tv st1=>
   rw[q] at p
   intro b m1 H1 f1 r1 eb
   cases eb
   have er1:=er.mono f1
   cases tv with
  |false=>exact iteF (PostS.nx (PostS.later p f1) er1 r1)
  |true=>
    refine iteT ⟨_,fun σ' H' hN=>⟨n,Nat.lt_succ_self n,hN⟩,ρ,m1,st1,er1,r1,?_⟩
    simp only at p
    cases q2:fs ρ st1 with
   |no=>rw[q2] at p;exact p
   |ex x ρ' st2=>rw[q2] at p;exact PostS.later (D:=D) p f1
   |ok cc st2=>
     rw[q2] at p
     cases cc with
    |nx ρ'=>exact fun σ' m' H' f' er' rl'=>⟨ρ',m',st2,er',rl',PostS.later p (f1.trans f')⟩
    |ct ρ'=>exact fun σ' m' H' f' er' rl'=>⟨ρ',m',st2,er',rl',PostS.later p (f1.trans f')⟩
    |bk ρ'=>exact fun σ' m' H' f' er' rl'=>p σ' m' H' (f1.trans f') er' rl'
    |rt d=>exact fun v m' H' f' rl' vr=>p v m' H' (f1.trans f') rl' vr
theorem ss_for {iter:Expr} {tt:G} {fw:Env→M (List D×Gd)} (hp:PassesOwn (model X.prog X.w) X.A X.env X.xe) (hc:X.calm=true) (hi:SI X W tg iter fw) (hg:PG X tg (tt.tg X.K)) (hb:SSs X W ss fs) (hs:∀x,foldedSetIterable iter X.env x=pure x) :
  SS X W (.For tg iter ss [] pos) (fun ρ st=>andS ρ (fw ρ st) fun w st=>forL w.2 (fun d ρ st=>match tt.set d ρ with
  |some ρ'=>fs ρ' st
  |none=>.no) w.1 ρ st):=by
 refine (ps_for hp hc hi hg hb hs).imp fun D σ H h=>sD_and h fun ρ w J st1 m1 H1 r1 er ⟨m,jr⟩ p => ?_
 have jr:JR X.K m1 H1 J w.1 w.2:=jr
 refine⟨fun i k σ H=>k=w.1.length - i∧i≤w.1.length∧∃ρ m st,Fut m1 H1 m H∧ER X.K m H ρ σ∧Rl X.K m H st∧PostS X.K W D m H (forL w.2 (fun d ρ st=>match tt.set d ρ with
  |some ρ'=>fs ρ' st
  |none=>.no) (w.1.drop i) ρ st),⟨_,rfl,Nat.zero_le _,ρ,m1,st1,.refl,er,r1,p⟩,?_⟩
 rintro i k σ H ⟨rfl,hi,ρ,m,st,f,er,rl,p⟩
 by_cases hl:i<w.1.length
 ·rw[List.drop_eq_getElem_cons hl,forL] at p
  by_cases g:grd st w.2=true
  ·rw[if_pos g] at p
   obtain⟨hgo,hy⟩:=(jr m H st f rl g).1 i w.1[i] (List.getElem?_eq_getElem hl)
   refine .inr ⟨hgo,_,fun σ' H' hN=>⟨w.1.length - (i+1),by omega,rfl,hl,hN⟩,fun x H' y => ?_⟩
   obtain⟨f2,r2,v2⟩:=hy x H' y
   cases q:tt.set w.1[i] ρ with
  |none=>simp only[q] at p;exact p.elim
  |some ρ'=>
    simp only[q] at p
    refine tg_ok tt q (er.mono f2) v2 fun σ' e' _=>⟨ρ',m,st,e',r2,?_⟩
    cases q2:fs ρ' st with
   |no=>rw[q2] at p;exact p
   |ex x ρ2 st2=>rw[q2] at p;exact PostS.later (D:=D) p f2
   |ok cc st2=>
     rw[q2] at p
     cases cc with
    |nx ρ2=>exact fun σ' m' H' f' er' rl'=>⟨ρ2,m',st2,f.trans (f2.trans f'),er',rl',PostS.later p (f2.trans f')⟩
    |ct ρ2=>exact fun σ' m' H' f' er' rl'=>⟨ρ2,m',st2,f.trans (f2.trans f'),er',rl',PostS.later p (f2.trans f')⟩
    |bk ρ2=>exact fun σ' m' H' f' er' rl'=>p σ' m' H' (f2.trans f') er' rl'
    |rt d=>exact fun v m' H' f' rl' vr=>p v m' H' (f2.trans f') rl' vr
  ·rw[if_neg g] at p;exact p.elim
 ·have e:i=w.1.length:=by omega
  subst e
  rw[List.drop_length,forL] at p
  by_cases g:grd st w.2=true
  ·rw[if_pos g] at p
   exact .inl ⟨(jr m H st f rl g).2 _ rfl,PostS.nx p er rl⟩
  ·rw[if_neg g] at p;exact p.elim
theorem se_lc {elt iter:Expr} {ifs:List Expr} {scope:Scope} {own:List (Str×Nat)} {tt:G} {fw:Env→M (List D×Gd)} {fc:Env→M Bool} {fe:Env→M D} (hc:X.calm=true) (hN:X.N.Nodup) (hi:SI X W tg iter fw) (ok:BlkOk X.N X.env.scope scope own)
  (hsl:∀i∈tt.slots,i∈own.map (·.2))
  (hg:∀(s:Shared) (H:Hp) (C:Addr) (cl:List (Str×Addr)) (fp:List Addr),PG (X.blk s H scope (compEnvC scope cl C X.env) fp) tg (tt.tg X.K))
  (ht:∀(s:Shared) (H:Hp) (C:Addr) (cl:List (Str×Addr)) (fp:List Addr),PTs (X.blk s H scope (compEnvC scope cl C X.env) fp) ifs (rd aB X.K W0 fc))
  (he:∀(s:Shared) (H:Hp) (C:Addr) (cl:List (Str×Addr)) (fp:List Addr),PE (X.blk s H scope (compEnvC scope cl C X.env) fp) elt (rd (aV X.K false) X.K W0 fe)) (hs:∀x,foldedSetIterable iter X.env x=pure x) :
  SE X W (.ListComp elt [⟨tg,iter,ifs,0⟩] scope pos) (fun ρ=>M.bind (fw ρ) fun w=>compM w.2 (lcT fc fe tt (own.map (·.2)) ρ) w.1) true:=
 (pe_lc hc hN hi ok hg ht he hs).imp fun σ H Q h=>lc_rd hsl h
theorem se_lc2 {elt iter tg1 iter1:Expr} {ifs ifs1:List Expr} {scope:Scope} {own:List (Str×Nat)} {vs1:List Nat} {tt tt1:G} {fw fw1:Env→M (List D×Gd)} {fc fc1:Env→M Bool} {fe:Env→M D} (hc:X.calm=true) (hN:X.N.Nodup) (hi:SI X W tg iter fw) (ok:BlkOk X.N X.env.scope scope own)
  (hv:∀i∈vs1,i∈own.map (·.2)) (hsl:∀i∈tt.slots,i∈own.map (·.2)) (hsl1:∀i∈tt1.slots,i∈vs1)
  (hg:∀(s:Shared) (H:Hp) (C:Addr) (cl:List (Str×Addr)) (fp:List Addr),PG (X.blk s H scope (compEnvC scope cl C X.env) fp) tg (tt.tg X.K))
  (ht:∀(s:Shared) (H:Hp) (C:Addr) (cl:List (Str×Addr)) (fp:List Addr),PTs (X.blk s H scope (compEnvC scope cl C X.env) fp) ifs (rd aB X.K W0 fc))
  (hi1:∀(s:Shared) (H:Hp) (C:Addr) (cl:List (Str×Addr)) (fp:List Addr),PI (X.blk s H scope (compEnvC scope cl C X.env) fp) tg1 iter1 (rd (aI X.K) X.K W0 fw1))
  (hg1:∀(s:Shared) (H:Hp) (C:Addr) (cl:List (Str×Addr)) (fp:List Addr),PG (X.blk s H scope (compEnvC scope cl C X.env) fp) tg1 (tt1.tg X.K))
  (ht1:∀(s:Shared) (H:Hp) (C:Addr) (cl:List (Str×Addr)) (fp:List Addr),PTs (X.blk s H scope (compEnvC scope cl C X.env) fp) ifs1 (rd aB X.K W0 fc1))
  (he:∀(s:Shared) (H:Hp) (C:Addr) (cl:List (Str×Addr)) (fp:List Addr),PE (X.blk s H scope (compEnvC scope cl C X.env) fp) elt (rd (aV X.K false) X.K W0 fe)) (hs:∀x,foldedSetIterable iter X.env x=pure x) (hs1:∀env x,foldedSetIterable iter1 env x=pure x) :
  SE X W (.ListComp elt [⟨tg,iter,ifs,0⟩,⟨tg1,iter1,ifs1,0⟩] scope pos) (fun ρ=>M.bind (fw ρ) fun w=>compM w.2 (lcT2 fc fw1 fc1 fe tt tt1 (own.map (·.2)) vs1 ρ) w.1) true:=
 (pe_lc2 hc hN hi ok hv hg ht hi1 hg1 ht1 he hs hs1).imp fun σ H Q h=>lc2_rd hsl hsl1 h
theorem ss_asgV {st:Stmt} {tE:TE} (hp:PS X st (tAsg tE (gName i))) (hi:∀σ H Q,rd (aV X.K true) X.K W f σ H Q→tE σ H Q):SS X W st (fun ρ st=>andS ρ (f ρ st) fun d st=>match (G.nm i).set d ρ with
  |some ρ'=>.ok (.nx ρ') st
  |none=>.no):=
 hp.imp fun D σ H h=>hi σ H _ (sD_and h fun ρ d v st1 m1 H1 r1 er ⟨m,av⟩ p=>p.nx (er.set i av.1) r1)
theorem ss_asgB {st:Stmt} {tE:TE} (hp:PS X st (tAsg tE (gName i))) (hi:∀σ H Q,rd (aV X.K true) X.K W f σ H Q→tE σ H Q):SS X W st (fun ρ st=>andS ρ ((M.bind (f ρ) fun d=>boxed d) st) fun d st=>match (G.nm i).set d ρ with
  |some ρ'=>.ok (.nx ρ') st
  |none=>.no):=by
 refine hp.imp fun D σ H h=>hi σ H _ ?_
 obtain⟨ρ,m,st,er,rl,p⟩:=h
 refine⟨ρ,m,st,er,rl,?_⟩
 have p:PostS X.K W D m H (andS ρ (M.bind (f ρ) (fun d=>boxed d) st) fun d st=>.ok (.nx (ρ.set i (some d))) st):=p
 cases e1:f ρ st with
|no=>rw[bindM_no e1] at p;exact p
|ex x st1=>rw[bindM_ex e1] at p;exact fun c d m1 H1 f1 r1 xr=>p c d σ m1 H1 f1 (er.mono f1) r1 xr
|ok d st1=>
  rw[bindM_ok e1] at p
  intro v m1 H1 f1 r1 av
  cases d with
 |lst ds=>
   obtain⟨q,vs,H0,rfl,rfl,hn,f0,r0,v0⟩:=av.2 rfl ds rfl
   obtain⟨fp,rp⟩:=push2 r0 hn v0
   refine p _ (m1++[q]) _ (f0.trans fp) ?_ rp
   refine (er.mono (f0.trans fp)).set i (.ref ?_)
   rw[←r0.len,List.getElem?_append_right (Nat.le_refl _),Nat.sub_self] <;> rfl
 |_=>exact p.elim
end
end Dn
namespace Dn
open PySem L2 PyProof.Rows
def off (D:Addr) (H:Hp):Hp:=fun a=>if a=D then none else H a
section
variable {K:PySem.W.Frag} {m m':List Addr} {H H':Hp} {st:Sto} {D:Addr}
theorem off_ne {a:Addr} (h:a≠D):off D H a=H a:=if_neg h
theorem off_at {a:Addr} {u:HO} (h:H a=some u) (hx:H D≠some u):off D H a=some u:=by
 rw[off_ne (fun z=>by subst z;exact hx h)]
 exact h
theorem off_upd {o:HO}:off D (L2.upd H D o)=off D H:=by
 funext a
 unfold off
 by_cases e:a=D
 ·rw[if_pos e,if_pos e]
 ·rw[if_neg e,if_neg e,upd_ne e]
theorem off_none (h:H D=none):off D H=H:=by
 funext a
 unfold off
 by_cases e:a=D
 ·rw[if_pos e,e,h]
 ·rw[if_neg e]
theorem off_fut (hD:D ∉ m):Fut m (off D H) m H:=⟨⟨[],by simp⟩,fun _ z=>.inl z,fun a u _ e=>by
 unfold off at e
 by_cases q:a=D
 ·rw[if_pos q] at e;cases e
 ·rw[if_neg q] at e;exact e⟩
theorem fut_off (f:Fut m H m' H'):Fut m (off D H) m' (off D H'):=⟨f.pre,fun a ha=>by
 rcases f.new a ha with z|z
 ·exact .inl z
 ·refine .inr ?_
  unfold off
  by_cases q:a=D
  ·rw[if_pos q]
  ·rw[if_neg q];exact z,fun a u ha e=>by
 unfold off at e ⊢
 by_cases q:a=D
 ·rw[if_pos q] at e;cases e
 ·rw[if_neg q] at e ⊢;exact f.keep a u ha e⟩
mutual
theorem VR.off {p:Heap→Prop} (hx:H D=some (.ext p)):∀{d:Dn.D} {v:V},VR K m H d v→VR K m (Dn.off D H) d v
|.non,_,h=>by cases h;exact .non
|.bl _,_,h=>by cases h;exact .bl _
|.int _,_,h=>by cases h;exact .int _
|.str _,_,h=>by cases h;exact .str _
|.tup ds,_,h=>by
  cases h with
 |tup e e' n r=>exact .tup (off_at e (by rw[hx];exact fun z=>nomatch z)) e' n (VRs.off hx r)
 |tupK e r=>exact .tupK e (VRs.off hx r)
|.lst ds,_,h=>by
  cases h with
 |lst e n r=>exact .lst (off_at e (by rw[hx];exact fun z=>nomatch z)) n (VRs.off hx r)
|.fz ds,_,h=>by
  cases h with
 |fz e n r=>exact .fz (off_at e (by rw[hx];exact fun z=>nomatch z)) n (VRs.off hx r)
 |fzK e r=>exact .fzK e (VRs.off hx r)
|.ref n,_,h=>by
  cases h with
 |ref e=>exact .ref e
theorem VRs.off {p:Heap→Prop} (hx:H D=some (.ext p)):∀{d:List Dn.D} {v:List V},VRs K m H d v→VRs K m (Dn.off D H) d v
|[],_,h=>by cases h;exact .nil
|_::_,_,h=>by
  cases h with
 |cons a b=>exact .cons (VR.off hx a) (VRs.off hx b)
end
theorem Rl.off {p:Heap→Prop} (hx:H D=some (.ext p)) (hD:D ∉ m) (r:Rl K m H st):Rl K m (Dn.off D H) st:=⟨r.len,r.nd,fun n a o e1 e2=>by
 have ha:a≠D:=fun z=>hD (z ▸ List.mem_of_getElem? e1)
 obtain⟨vs,q,y⟩:=r.ob n a o e1 e2
 refine⟨vs,?_,y.off hx⟩
 cases o with
|lst xs=>exact (off_ne ha).trans q
|dic kvs=>exact (off_ne ha).trans q
|ins c fs=>
  obtain⟨C,dx,h1,h2,h3,h4⟩:=q
  exact⟨C,dx,h1,(off_ne ha).trans h2,off_at h3 (by rw[hx];exact fun z=>nomatch z),h4⟩⟩
theorem ER.off {p:Heap→Prop} {ρ:Env} {σ:L2.St} (hx:H D=some (.ext p)) (e:ER K m H ρ σ):ER K m (Dn.off D H) ρ σ:=⟨e.len,fun i d h=>by
 obtain⟨v,a,b⟩:=e.at_ i d h
 exact⟨v,a,b.off hx⟩⟩
theorem Rl.chgD {p:Heap→Prop} {o:HO} (hx:H D=some (.ext p)) (hD:D ∉ m) (r:Rl K m H st):Fut m (Dn.off D H) m (L2.upd H D o)∧Rl K m (L2.upd H D o) st:=by
 have f:Fut m (Dn.off D H) m (L2.upd H D o):=by
  have:=off_fut (H:=L2.upd H D o) hD
  rwa [off_upd] at this
 exact⟨f,(r.off hx hD).grow f fun a ha=>by
  have ha:a≠D:=fun z=>hD (z ▸ ha)
  rw[upd_ne ha,off_ne ha]⟩
def kO:Uk→Dn.H.OK:=fun k=>k.map fun xs=>xs.map fun x=>(.inr (tx x):Key)
theorem kO_inj:∀{a b:Uk},kO a=kO b→a=b
|none,none,_=>rfl
|none,some _,h=>nomatch h
|some _,none,h=>nomatch h
|some a,some b,h=>by
  have h:a.map (fun x=>(.inr (tx x):Key))=b.map (fun x=>(.inr (tx x):Key)):=Option.some.inj h
  exact congrArg some ((List.map_inj_right fun x y e=>tx_inj.mp (Sum.inr.inj e)).mp h)
theorem alls_str_eq:∀{ds:List Dn.D} {xs:List (List Nat)},alls isStr ds=some xs→ds=xs.map .str
|[],_,h=>by cases h;rfl
|d::r,xs,h=>by
  rw[alls] at h
  cases hd:isStr d with
 |none=>rw[hd] at h;cases h
 |some i=>
   cases hr:alls isStr r with
  |none=>rw[hd,hr] at h;cases h
  |some rs=>
    rw[hd,hr] at h
    cases h
    rw[alls_str_eq hr,List.map_cons]
    cases d <;> first|(cases hd;rfl)|cases hd
theorem alls_strM:∀xs:List (List Nat),alls isStr (xs.map Dn.D.str)=some xs
|[]=>rfl
|x::r=>by rw[List.map_cons,alls,alls_strM r] <;> rfl
def Uk.Ne (k:Uk):Prop:=∀xs,k=some xs→xs≠[]
theorem usKey_ok {d:Dn.D} {k:Uk} (h:usKey d=some k):d=k.d∧k.Ne:=by
 unfold usKey at h
 split at h
 ·cases h;exact⟨rfl,fun xs e=>nomatch e⟩
 ·rename_i ds
  split at h
  ·rename_i x xs e
   cases h
   refine⟨?_,fun ys e=>by cases e;simp⟩
   show Dn.D.tup ds=Dn.D.tup ((x::xs).map .str)
   rw[alls_str_eq e]
  ·cases h
 ·cases h
theorem nk_of {k:Uk} {v:V} (h:VR K m H k.d v):Dn.H.NK K H (kO k) v:=by
 cases k with
|none=>cases h;rfl
|some xs=>
  obtain⟨a,vs,rfl,sq,r⟩:=VR.tupS h
  refine⟨a,rfl,?_⟩
  have e:=r.strs (alls_strM xs)
  subst e
  rw[show (xs.map fun x=>(.inr (tx x):Key)).map kV=(xs.map tx).map V.str by rw[List.map_map,List.map_map];rfl]
  exact sq
abbrev zN (ks:List Uk) (us:List V):List (Dn.H.OK×V):=(ks.map kO).zip us
theorem zN_nk:∀{ks:List Uk} {us:List V},VRs K m H (ks.map Uk.d) us→∀p∈zN ks us,Dn.H.NK K H p.1 p.2
|[],us,h,p,hp=>by simp[zN] at hp
|k::ks,us,h,p,hp=>by
  cases h with
 |cons a b=>
   rcases List.mem_cons.mp hp with rfl|q
   ·exact nk_of a
   ·exact zN_nk b p q
theorem zN_any {k:Uk}:∀{ks:List Uk} {us:List V},ks.length=us.length→((zN ks us).any fun p=>decide (p.1=kO k))=ks.any fun p=>decide (p=k)
|[],us,_=>rfl
|k'::r,[],h=>by simp at h
|k'::r,v::vs,h=>by
  show (decide (kO k'=kO k)||(zN r vs).any _)=(decide (k'=k)||r.any _)
  rw[zN_any (k:=k) (Nat.succ.inj h)]
  congr 1
  rw[decide_eq_decide]
  exact⟨kO_inj,fun z=>by rw[z]⟩
theorem zN_put {k:Uk} {v:V} {ks:List Uk} {us:List V} (h:VRs K m H (ks.map Uk.d) us) (hk:VR K m H k.d v):∃us',Dn.H.putN (zN ks us) (kO k) v=zN (putU ks k) us'∧VRs K m H ((putU ks k).map Uk.d) us':=by
 have hl:ks.length=us.length:=by rw[←h.length,List.length_map]
 unfold Dn.H.putN putU
 rw[zN_any hl]
 by_cases c:(ks.any fun p=>decide (p=k))=true
 ·rw[if_pos c,if_pos c];exact⟨us,rfl,h⟩
 ·rw[if_neg c,if_neg c]
  refine⟨us++[v],?_,by rw[List.map_append];exact h.append (.cons hk .nil)⟩
  unfold zN
  rw[List.map_append,List.zip_append (by rw[List.length_map,hl])] <;> rfl
end
def UsFin (K:PySem.W.Frag) (w:World) (D0:Ends) (v:V) (H:Hp):Prop:=∃D ks us m st,v=.ref D∧D ∉ m∧H D=some (Dn.H.DN w D (zN ks us))∧VRs K m H (ks.map Uk.d) us∧(∀k∈ks,Uk.Ne k)∧Rl K m H st∧us.length<sizeLine ∧
 ∀v m' H',Fut m (off D H) m' H'→Rl K m' H' st→VR K m' H' (.lst (usRes ks)) v→D0.rt v H'
abbrev usTurn (fe:Env→M Dn.D) (t:G) (vs:List Nat) (ρ:Env):Dn.D→M Dn.D:=fun d=>M.bind (orNo (t.set d (Dn.wipe ρ vs))) fun ρ'=>fe ρ'
theorem usx_rd {K:PySem.W.Frag} {w:World} {W:WX} {D0:Ends} {σ:L2.St} {H:Hp} {fw:Env→M (List Dn.D×Gd)} {fe:Env→M Dn.D} {t:G} {vs:List Nat} {Q:VK} (hQ:∀v H1,UsFin K w D0 v H1→Q v H1) (hsl:∀i∈t.slots,i∈vs)
  (h:sD K W (fun ρ st=>andS ρ (fw ρ st) fun wl st=>andS ρ (keyL wl.2 (usTurn fe t vs ρ) wl.1 [] st) fun ks st=>.ok (.rt (.lst (usRes ks))) st) D0 σ H) :
  Dn.H.tDn w K (rd (aI K) K W fw) (t.tg K) (rd (aV K false) K W0 fe) vs σ H Q:=by
 refine sD_and h fun ρ wl J st1 m1 H1 r1 er ⟨m0,jr⟩ p => ?_
 replace jr:JR K m1 H1 J wl.1 wl.2:=jr
 intro D hD
 have hDm1:=r1.fresh hD
 refine⟨fun i k Hx=>k=wl.1.length - i∧i≤wl.1.length∧∃m st ks us,Fut m1 H1 m Hx∧D ∉ m∧Hx D=some (Dn.H.DN w D (zN ks us))∧VRs K m Hx (ks.map Uk.d) us∧(∀k∈ks,Uk.Ne k)∧us.length≤1000001∧Rl K m Hx st ∧
   PostS K W D0 m (off D Hx) (andS ρ (keyL wl.2 (usTurn fe t vs ρ) (wl.1.drop i) ks st) fun ks st=>.ok (.rt (.lst (usRes ks))) st),
  ⟨_,rfl,Nat.zero_le _,m1,st1,[],[],Fut.upd hD,hDm1,upd_same,.nil,by simp,by simp,r1.new hD,by rw[off_upd,off_none hD];exact p⟩,?_⟩
 rintro i k Hx ⟨rfl,hi,m,st,ks,us,f,hDm,hx,hv,hne,hz,rl,p⟩
 by_cases hl:i<wl.1.length
 ·rw[List.drop_eq_getElem_cons hl,keyL] at p
  by_cases g:grd st wl.2=true
  ·simp only[if_pos g] at p
   obtain⟨hgo,hy⟩:=(jr m Hx st f rl g).1 i wl.1[i] (List.getElem?_eq_getElem hl)
   refine .inr ⟨hgo,_,fun H' hN=>⟨wl.1.length - (i+1),by omega,rfl,hl,hN⟩,fun x H' y => ?_⟩
   obtain⟨f2,r2,v2⟩:=hy x H' y
   cases e1:t.set wl.1[i] (Dn.wipe ρ vs) with
  |none=>
    rw[show usTurn fe t vs ρ wl.1[i] st=.no by unfold usTurn M.bind;rw[e1] <;> rfl] at p
    exact p.elim
  |some ρ'=>
    rw[show usTurn fe t vs ρ wl.1[i] st=fe ρ' st by unfold usTurn M.bind;rw[e1] <;> rfl] at p
    refine tg_ok t e1 ((er.mono (f.trans f2)).wipe vs) v2 fun σ2 e2 ag=>⟨ag.wipe hsl,ρ',m,st,e2,r2,?_⟩
    cases e3:fe ρ' st with
   |no=>rw[e3] at p;exact p.elim
   |ex x s=>rw[e3] at p;exact p.elim
   |ok y st2=>
     rw[e3] at p
     simp only at p
     cases e4:usKey y with
    |none=>rw[e4] at p;exact p.elim
    |some kk=>
      rw[e4] at p
      simp only at p
      by_cases sz:szOk ks.length=true
      ·rw[if_pos sz] at p
       obtain⟨ek,nk⟩:=usKey_ok e4
       subst ek
       intro v m2 H2 f3 r3 av
       have av:VR K m2 H2 kk.d v:=av.1
       have F:=f2.trans f3
       have hD2:D ∉ m2:=F.out hDm hx
       have h2:H2 D=some (Dn.H.DN w D (zN ks us)):=F.keep D _ hDm hx
       have hv2:=hv.mono F
       have hl2:ks.length=us.length:=by rw[←hv.length,List.length_map]
       have hzk:=szOk_le sz
       refine⟨zN ks us,kO kk,h2,?_,zN_nk hv2,nk_of av,?_⟩
       ·rw[List.length_zip,List.length_map,hl2,Nat.min_self,←hl2]
        exact szOk_lt sz
       ·obtain⟨us',eP,hP⟩:=zN_put hv2 av
        rw[eP]
        obtain⟨f4,r4⟩:=r3.chgD (o:=Dn.H.DN w D (zN (putU ks kk) us')) h2 hD2
        refine⟨m2,st2,putU ks kk,us',?_,hD2,upd_same,(hP.off h2).mono f4,fun k' hk' => ?_,?_,r4,?_⟩
        ·have q:=(fut_off (D:=D) (f.trans F)).trans f4
         rwa [off_none hD] at q
        ·unfold putU at hk'
         split at hk'
         ·exact hne k' hk'
         ·rcases List.mem_append.mp hk' with q|q
          ·exact hne k' q
          ·rw[List.mem_singleton.mp q];exact nk
        ·rw[←hP.length,List.length_map]
         unfold putU
         split
         ·omega
         ·rw[List.length_append,List.length_singleton];omega
        ·rw[off_upd]
         exact p.later (fut_off F)
      ·rw[if_neg sz] at p;exact p.elim
  ·simp only[if_neg g] at p;exact p.elim
 ·have e:i=wl.1.length:=by omega
  subst e
  rw[List.drop_length,keyL] at p
  by_cases g:grd st wl.2=true
  ·simp only[if_pos g] at p
   refine .inl ⟨(jr m Hx st f rl g).2 _ rfl,hQ _ _ ⟨D,ks,us,m,st,rfl,hDm,hx,hv,hne,rl,?_,p⟩⟩
   exact Nat.lt_of_le_of_lt hz (by decide)
  ·simp only[if_neg g] at p;exact p.elim
end Dn
namespace Dn
open PySem L2 PyProof.Rows
def usSel (p:Uk×V):Option (V×List (List Nat)):=p.1.map fun xs=>(p.2,xs)
abbrev usPs (ks:List Uk) (us:List V):List (V×List (List Nat)):=(ks.zip us).filterMap usSel
theorem usPs_snd:∀{ks:List Uk} {us:List V},ks.length=us.length→(usPs ks us).map (·.2)=ks.filterMap id
|[],us,_=>by simp[usPs]
|k::ks,[],h=>by simp at h
|none::ks,u::us,h=>by
  rw[show usPs (none::ks) (u::us)=usPs ks us from rfl,usPs_snd (Nat.succ.inj h)] <;> rfl
|some xs::ks,u::us,h=>by
  rw[show usPs (some xs::ks) (u::us)=(u,xs)::usPs ks us from rfl,List.map_cons,usPs_snd (Nat.succ.inj h)] <;> rfl
theorem usPs_mem {K:PySem.W.Frag} {m:List Addr} {H:Hp}:∀{ks:List Uk} {us:List V},VRs K m H (ks.map Uk.d) us→∀p∈usPs ks us,some p.2∈ks∧VR K m H (.tup (p.2.map .str)) p.1
|[],us,h,p,hp=>by simp[usPs] at hp
|k::ks,us,h,p,hp=>by
  cases h with
 |@cons _ u _ us a b=>
   cases k with
  |none=>
    obtain⟨q1,q2⟩:=usPs_mem b p hp
    exact⟨List.mem_cons_of_mem _ q1,q2⟩
  |some xs=>
    rcases List.mem_cons.mp (show p∈(u,xs)::usPs ks us from hp) with rfl|q
    ·exact⟨List.mem_cons_self ..,a⟩
    ·obtain⟨q1,q2⟩:=usPs_mem b p q
     exact⟨List.mem_cons_of_mem _ q1,q2⟩
theorem vrs_map {K:PySem.W.Frag} {m:List Addr} {H:Hp} {α:Type} {f:α→Dn.D} {g:α→V}:∀{l:List α},(∀x∈l,VR K m H (f x) (g x))→VRs K m H (l.map f) (l.map g)
|[],_=>.nil
|x::r,h=>.cons (h x (List.mem_cons_self ..)) (vrs_map fun y hy=>h y (List.mem_cons_of_mem _ hy))
def tRes (w:World) (K:PySem.W.Frag) (i j:Nat) (own:List Nat):TS:=tRet (tLockE (tCB (Dn.H.rSortedX K) (tCons (tLc (Dn.H.iKeysN w (tVar i)) (gName j) (tB (tNotN (tVar j))) (tVar j) own) tNil)))
theorem us_second {w:World} {K:PySem.W.Frag} {D0:Ends} {v:V} {H:Hp} {i j:Nat} {own:List Nat} {σ:L2.St} (hi:i<σ.length) (hj:j<σ.length) (hjo:j∈own) (h:UsFin K w D0 v H):tRes w K i j own D0 (σ.set i (some v)) H:=by
 obtain⟨D,ks,us,m,st,rfl,hDm,hx,hv,hne,rl,hz,fin⟩:=h
 have hl:ks.length=us.length:=by rw[←hv.length,List.length_map]
 have hzl:(zN ks us).length=us.length:=by rw[List.length_zip,List.length_map,hl,Nat.min_self]
 refine⟨D,_,hx,True.intro,fun od => ?_⟩
 obtain⟨Hf,hHf⟩:∃Hf,Hf=L2.upd H D (.frz od (Dn.H.DN w D (zN ks us))):=⟨_,rfl⟩
 rw[←hHf]
 have hfD:Hf D=some (.frz od (Dn.H.DN w D (zN ks us))):=by rw[hHf];exact upd_same
 have f1:Fut m (off D H) m Hf:=by rw[hHf];exact (rl.chgD hx hDm).1
 have hvf:VRs K m Hf (ks.map Uk.d) us:=(hv.off hx).mono f1
 change ∃v,_∧∃d o ks',v=V.ref d∧Hf d=some (.frz o (Dn.H.DN w d ks'))∧(∀p∈ks',RelV p.2 (Dn.H.vv p.2))∧_
 refine⟨.ref D,List.getElem?_set_self hi,D,od,zN ks us,rfl,hfD,fun p hp=>(zN_nk hvf p hp).rel,?_⟩
 intro L hL
 have hLD:L≠D:=fun z=>by rw[z,hfD] at hL;cases hL
 obtain⟨σ',hσ'⟩:∃σ':L2.St,σ'=σ.set i (some (.ref D)):=⟨_,rfl⟩
 rw[←hσ']
 have hjl:j<σ'.length:=by rw[hσ',List.length_set];exact hj
 refine⟨fun n k Hx=>k=us.length - n∧n≤us.length∧Hx=L2.upd Hf L (.lst ((((ks.zip us).take n).filterMap usSel).map (·.1))),⟨_,rfl,Nat.zero_le _,by simp⟩,?_⟩
 rintro n k Hx ⟨rfl,hn,rfl⟩
 have hgD:(L2.upd Hf L (.lst ((((ks.zip us).take n).filterMap usSel).map (·.1)))) D=some (.frz od (Dn.H.DN w D (zN ks us))):=by rw[upd_ne hLD.symm];exact hfD
 by_cases hlt:n<us.length
 ·refine .inr ⟨⟨hgD,by rw[hzl];exact hlt⟩,_,fun H' hN=>⟨us.length - (n+1),by omega,rfl,hlt,hN⟩,?_⟩
  rintro x H' ⟨rfl,kk,hk⟩
  have hkl:n<ks.length:=by omega
  have ek:kk=kO ks[n]∧x=us[n]:=by
   unfold zN at hk
   rw[List.getElem?_zip_eq_some,List.getElem?_map,List.getElem?_eq_getElem hkl,List.getElem?_eq_getElem hlt] at hk
   exact⟨(Option.some.inj hk.1).symm,(Option.some.inj hk.2).symm⟩
  obtain⟨rfl,rfl⟩:=ek
  have hzk:n<(ks.zip us).length:=by rw[List.length_zip];omega
  have htk:(ks.zip us).take (n+1)=(ks.zip us).take n++[(ks[n],us[n])]:=by
   rw[List.take_succ,List.getElem?_eq_getElem hzk]
   simp
  have hvr:VR K m Hf (ks[n]).d us[n]:=by
   obtain⟨u,e1,e2⟩:=hvf.get (i:=n) (d:=(ks[n]).d) (by rw[List.getElem?_map,List.getElem?_eq_getElem hkl] <;> rfl)
   rw[List.getElem?_eq_getElem hlt] at e1
   cases e1
   exact e2
  have hwl:j<(L2.wipe σ' own).length:=by rw[wipe_length];exact hjl
  have gj:((L2.wipe σ' own).set j (some us[n]))[j]?=some (some us[n]):=List.getElem?_set_self hwl
  refine⟨?_,us[n],gj,!decide (us[n]=V.non),rfl,?_⟩
  ·have:Agr [j] (L2.wipe σ' own) ((L2.wipe σ' own).set j (some us[n])):=⟨List.length_set,fun q hq=>List.getElem?_set_ne fun z=>hq (by simp[z])⟩
   exact this.wipe fun q hq=>by simp at hq;rw[hq];exact hjo
  ·have hacc:((((ks.zip us).take n).filterMap usSel).map (·.1)).length<sizeLine:=by
    rw[List.length_map]
    refine Nat.lt_of_le_of_lt (List.length_filterMap_le _ _) ?_
    rw[List.length_take,List.length_zip]
    omega
   cases hkn:ks[n] with
  |none=>
    rw[hkn] at hvr htk
    have hnon:us[n]=.non:=(fun v (h:VR K m Hf (Uk.d none) v)=>by cases h;rfl:∀v,VR K m Hf (Uk.d none) v→v=.non) _ hvr
    dsimp only
    rw[if_neg (by rw[hnon];simp)]
    rw[htk,List.filterMap_append,show List.filterMap usSel [((none:Uk),us[n])]=[] from rfl,List.append_nil]
  |some xs=>
    rw[hkn] at hvr htk
    have hnn:us[n]≠.non:=by
     obtain⟨a,vs,e,_⟩:=VR.tupS hvr
     rw[e];exact fun z=>nomatch z
    dsimp only
    rw[if_pos (by simp[hnn])]
    refine⟨us[n],gj,_,upd_same,hacc,?_⟩
    rw[htk,List.filterMap_append,List.map_append]
    funext a
    by_cases ea:a=L
    ·subst ea;rw[upd_same,upd_same];simp[usSel]
    ·rw[upd_ne ea,upd_ne ea,upd_ne ea]
 ·have en:n=us.length:=by omega
  subst en
  refine .inl ⟨⟨hgD,by omega⟩,?_⟩
  have hta:(ks.zip us).take us.length=ks.zip us:=List.take_of_length_le (by rw[List.length_zip];omega)
  rw[hta]
  change ∃(a:Addr) (ps:List Dn.H.PT2),[V.ref L]=[V.ref a]∧_
  have fL:Fut m Hf m (L2.upd Hf L (.lst ((usPs ks us).map (·.1)))):=Fut.upd hL
  have hLm:L ∉ m:=fun z=>by
   have:=(rl.chgD (o:=.frz od (Dn.H.DN w D (zN ks us))) hx hDm).2
   rw[←hHf] at this
   exact this.there z hL
  refine⟨L,usPs ks us,rfl,.inl (.inl upd_same),fun p hp => ?_,fun qs p hq1 hq2 hp=>⟨?_,?_⟩⟩
  ·obtain⟨q1,q2⟩:=usPs_mem (hvf.mono fL) p hp
   obtain⟨a,vs,e,sq,r⟩:=VR.tupS q2
   have e2:=r.strs (alls_strM p.2)
   subst e2
   exact⟨a,e,hne _ q1 _ rfl,sq⟩
  ·have hpD:D≠p:=fun z=>by rw[←z,upd_ne hLD.symm,hfD] at hp;cases hp
   rw[upd_ne hpD,upd_ne hLD.symm]
   exact hfD
  ·have hpL:p≠L:=fun z=>by rw[z,upd_same] at hp;cases hp
   have hpD:p≠D:=fun z=>by rw[z,upd_ne hLD.symm,hfD] at hp;cases hp
   obtain⟨G,hG⟩:∃G,G=L2.upd (L2.upd (L2.upd Hf L (.lst ((usPs ks us).map (·.1)))) p (.lst (qs.map (·.1)))) D (Dn.H.DN w D (zN ks us)):=⟨_,rfl⟩
   show D0.rt (.ref p) (L2.upd (L2.upd (L2.upd Hf L (.lst ((usPs ks us).map (·.1)))) p (.lst (qs.map (·.1)))) D (Dn.H.DN w D (zN ks us)))
   rw[←hG]
   have rf:Rl K m Hf st:=by rw[hHf];exact (rl.chgD hx hDm).2
   have rL:Rl K m (L2.upd Hf L (.lst ((usPs ks us).map (·.1)))) st:=rf.new hL
   have hpm:p ∉ m:=rL.fresh hp
   have fut:Fut m (off D H) m G:=⟨⟨[],by simp⟩,fun _ z=>.inl z,fun a u ha e=>by
    have haD:a≠D:=fun z=>by rw[z] at e;unfold off at e;rw[if_pos rfl] at e;cases e
    have e1:Hf a=some u:=f1.keep a u ha e
    have haL:a≠L:=fun z=>by rw[z,hL] at e1;cases e1
    have hap:a≠p:=fun z=>by rw[z] at e1 haL;rw[upd_ne haL,e1] at hp;cases hp
    rw[hG,upd_ne haD,upd_ne hap,upd_ne haL]
    exact e1⟩
   refine fin (.ref p) m G fut ?_ ?_
   ·refine (rl.off hx hDm).grow fut fun a ha => ?_
    have haD:a≠D:=fun z=>hDm (z ▸ ha)
    have haL:a≠L:=fun z=>hLm (z ▸ ha)
    have hap:a≠p:=fun z=>hpm (z ▸ ha)
    rw[hG,upd_ne haD,upd_ne hap,upd_ne haL,hHf,upd_ne haD,off_ne haD]
   ·have hvG:VRs K m G (ks.map Uk.d) us:=(hv.off hx).mono fut
    have eq1:usRes ks=qs.map fun p=>Dn.D.tup (p.2.map .str):=by
     unfold usRes
     rw[←usPs_snd hl,←hq2,List.map_map] <;> rfl
    rw[eq1]
    refine .lst (vs:=qs.map (·.1)) (by rw[hG,upd_ne hpD,upd_same]) hpm (vrs_map fun q hq => ?_)
    exact (usPs_mem hvG q (hq1.mem_iff.mp hq)).2
section
variable {X:Cx} {W:WX}
theorem sss_usx {i j:Nat} {y z:Str} {py pos spos vp p p1 p2 p3 p4 p5 p6 p7 p8:Pos} {kx tg iter:Expr} {scope scope2:Scope} {own own2:List (Str×Nat)} {vj cj:Nat} {cp:Pos} {fw:Env→M (List Dn.D×Gd)} {fe:Env→M Dn.D} {t:G}
  (hc:X.calm=true) (hu:X.A.units+8<cLine) (nN:X.N.Nodup) (hy:X.N[i]?=some y) (yl:X.env.scope.names.lookup y=some .local) (yd:(y == ("__debug__":Str))=false∧(y == ("__classdict__":Str))=false)
  (sw:swapsWith (.DictComp kx (.Constant (.bool true) vj vp) [⟨tg,iter,[],0⟩] scope pos) (some (.Name y py)) spos.line X.env=pure true) (pi:SI X W tg iter fw) (ok:BlkOk X.N X.env.scope scope own)
  (pg:∀(s:Shared) (H:Hp) (C:Addr) (cl:List (Str×Addr)) (fp:List Addr),PG (X.blk s H scope (compEnvC scope cl C X.env) fp) tg (t.tg X.K))
  (pk:∀(s:Shared) (H:Hp) (C:Addr) (cl:List (Str×Addr)) (fp:List Addr),PE (X.blk s H scope (compEnvC scope cl C X.env) fp) kx (rd (aV X.K false) X.K W0 fe)) (fs:∀x,foldedSetIterable iter X.env x=pure x)
  (hsl:∀i∈t.slots,i∈own.map (·.2))
  (gs:Gl X "sorted") (ms:X.mg "sorted"=none) (ok2:BlkOk X.N X.env.scope scope2 own2) (hzo:j∈own2.map (·.2))
  (pg2:∀(s:Shared) (H:Hp) (C:Addr) (cl:List (Str×Addr)) (fp:List Addr),PG (X.blk s H scope2 (compEnvC scope2 cl C X.env) fp) (.Name z p2) (gName j))
  (pe2:∀(p:Pos) (s:Shared) (H:Hp) (C:Addr) (cl:List (Str×Addr)) (fp:List Addr),PE (X.blk s H scope2 (compEnvC scope2 cl C X.env) fp) (.Name z p) (tVar j)) :
  SSs X W [.Assign [.Name y py] (.DictComp kx (.Constant (.bool true) vj vp) [⟨tg,iter,[],0⟩] scope pos) spos,
   .Return (some (.Call (.Name "sorted" p) [.ListComp (.Name z p1) [⟨.Name z p2,.Name y p3,[.Compare (.Name z p4) [.IsNot] [.Constant .none cj cp] p5],0⟩] scope2 p6] [] p7)) p8]
   (fun ρ st=>if (decide (i<ρ.length)&&decide (j<ρ.length))=true then (andS ρ (fw ρ st) fun wl st=>andS ρ (keyL wl.2 (usTurn fe t (own.map (·.2)) ρ) wl.1 [] st) fun ks st=>.ok (.rt (.lst (usRes ks))) st) else .no):=by
 have h1:=Dn.H.ps_setDn hc hu nN hy yl sw pi ok pg pk fs
 have hlc:PE X (.ListComp (.Name z p1) [⟨.Name z p2,.Name y p3,[.Compare (.Name z p4) [.IsNot] [.Constant .none cj cp] p5],0⟩] scope2 p6) (tLc (Dn.H.iKeysN X.w (tVar i)) (gName j) (tB (tNotN (tVar j))) (tVar j) (own2.map (·.2))):=
  pe_lc hc nN (Dn.H.pi_keysN (pe_var hy (.inl yl) yd.1 yd.2)) ok2 pg2 (fun s H C cl fp=>pts_one (pt_cmp (pc_notN (pe2 _ s H C cl fp)))) (fun s H C cl fp=>pe2 _ s H C cl fp)
 have h2:PS X (.Return (some (.Call (.Name "sorted" p) [.ListComp (.Name z p1) [⟨.Name z p2,.Name y p3,[.Compare (.Name z p4) [.IsNot] [.Constant .none cj cp] p5],0⟩] scope2 p6] [] p7)) p8) (tRes X.w X.K i j (own2.map (·.2))):=
  ps_ret (pe_lock (pe_callB Dn.H.cr_sortedX gs ms (by rfl) (pa_cons hlc pa_nil) (by decide) (by decide)))
 refine (pss_cons h1 (pss_one h2)).imp fun D0 σ H ⟨ρ,m,st,er,rl,q⟩ => ?_
 replace q:PostS X.K W D0 m H (if (decide (i<ρ.length)&&decide (j<ρ.length))=true then (andS ρ (fw ρ st) fun wl st=>andS ρ (keyL wl.2 (usTurn fe t (own.map (·.2)) ρ) wl.1 [] st) fun ks st=>.ok (.rt (.lst (usRes ks))) st) else .no):=q
 by_cases c:(decide (i<ρ.length)&&decide (j<ρ.length))=true
 ·rw[if_pos c] at q
  obtain⟨c1,c2⟩:=and3 c
  have c1:i<σ.length:=by rw[←er.len];exact of_decide_eq_true c1
  have c2:j<σ.length:=by rw[←er.len];exact of_decide_eq_true c2
  exact usx_rd (w:=X.w) (K:=X.K) (W:=W) (D0:=D0) (σ:=σ) (fun v H1 h=>us_second c1 c2 hzo h) hsl ⟨ρ,m,st,er,rl,q⟩
 ·rw[if_neg c] at q;exact q.elim
end
end Dn
namespace Dn
open PySem L2
theorem walks_from {prog:Program} {w:World} {A:Around} {I:Addr} {fp wr:List Addr} {n:Nat} {P:Nat→Value→Prop} {St:Nat→Heap→Prop} (W:Walks prog w A I fp wr n P St) (k:Nat) (hk:k≤n) :
  Walks prog w A I fp wr (n - k) (fun i=>P (k+i)) (fun i=>St (k+i)):=
 ⟨W.sub,fun i h h' st q=>W.frame (k+i) h h' st q,fun i s Q E hi st hQ=>W.item (k+i) s Q E (by omega) st hQ,fun s Q E st hQ=>W.done s Q E (by rw[show n=k+(n - k) by omega];exact st) hQ,fun i s Q E st hQ=>W.self (k+i) s Q E st hQ⟩
theorem unpack_rest {prog:Program} {w:World} {A:Around} {E:Value→Shared→Prop} {s:Shared} {t:Addr} {items:Array Value} {k:Nat} {Q:List Value→Shared→Prop} (hh:A.handled=none) (ht:s.heap.IsTuple t items) (hk:k≤items.size) (hz:items.size≤sizeLine)
  (hQ:∀(h':Heap) (tk:Nat),(∀b o,s.heap.get? b=some o→h'.get? b=some o)→Q (items.toList.take k++[.ref h'.objs.size]) {s with heap:=h'.push {cls:=.type "list",data:=.seq (items.toList.drop k).toArray},toks:=tk}) :
  wpAny (model prog w) A (unpackItems (.ref t) (k+1) (some k)) Q E s:=by
 have hlt:t≠s.heap.objs.size:=by obtain⟨o,ho,_⟩:=ht;exact Nat.ne_of_lt (Heap.lt_size ho)
 unfold unpackItems
 refine wpAny_bind ?_
 unfold notIterableAtAll
 refine wpAny_bind (wpAny_specialOf ht.typeIs F.slot_tuple_iter.lookup ?_)
 refine wpAny_pure ?_
 simp only[Bool.false_eq_true,if_false]
 refine wpAny_bind (wpAny_holding (wpAny_pyIter_tuple ht ?_))
 refine wpAny_bind (wpAny_holding (wpAny_draw_tuple hlt k 0 _ _ ⟨_,Heap.get?_push_size _ rfl,rfl,rfl⟩ (ht.push _) (by omega) fun h1 hit1 hs1 => ?_))
 rw[List.drop_zero]
 rw[if_neg (by rw[List.length_take,Array.length_toList];omega)]
 have ht1:h1.IsTuple t items:=(ht.push _).extBut hs1.extBut hlt
 rw[Nat.zero_add] at hit1
 have hk1:∀b o,s.heap.get? b=some o→h1.get? b=some o:=fun b o e=>hs1.extBut b o (Nat.ne_of_lt (Heap.lt_size e)) (Heap.get?_push_of_some _ e)
 refine wpAny_bind (wpAny_holding (wpAny_collect_iter (T := "tuple_iterator") (.inr (.inr (.inr rfl))) (walks_from (Walks.tuple (A:=A.in1) hh s.heap.objs.size t hlt items) k hk).toS (fun i s' st=>st.1.typeIs) ⟨hit1,ht1⟩ (fun b hb => ?_) (by simp) (fun s2 acc mv io => ?_) (by omega)))
 ·have e':b=s.heap.objs.size∨b=t:=by simpa using hb
  rcases e' with rfl|rfl
  ·obtain⟨_,e,_⟩:=hit1;exact Heap.lt_size e
  ·obtain⟨_,e,_⟩:=ht1;exact Heap.lt_size e
 ·have hacc:acc.toList=items.toList.drop k:=by
   apply List.ext_getElem?
   intro j
   rw[List.getElem?_drop]
   by_cases hj:j<acc.size
   ·have e:=io.2 j acc[j] (by simp[hj])
    simp only[Array.getElem?_toList]
    rw[e]
    simp[hj]
   ·have:=io.1
    rw[List.getElem?_eq_none (by simpa using hj),List.getElem?_eq_none (by rw[Array.length_toList];omega)]
  have hk2:∀b o,s.heap.get? b=some o→s2.heap.get? b=some o:=fun b o e=>mv.heap b o (by
   intro hb
   have e':b=s.heap.objs.size:=by simpa using hb
   exact Nat.ne_of_lt (Heap.lt_size e) e') (hk1 b o e)
  rw[hacc]
  simp only[show k+1 - 1 - k=0 by omega,Nat.not_lt_zero,if_false,Nat.sub_zero,List.take_length,List.drop_length,List.append_nil]
  refine wpAny_bind (wpAny_newList ?_ (by rw[List.length_drop,Array.length_toList];omega))
  obtain⟨hh2,g2,d2,t2,os2⟩:=s2
  obtain rfl:g2=s.gens:=mv.gens
  obtain rfl:d2=s.drawn:=mv.drawn
  obtain rfl:os2=s.os:=mv.os
  exact wpAny_pure (hQ hh2 t2 hk2)
def gRest (K:PySem.W.Frag) (n:Nat) (t:TGs):TG:=fun v σ H Q=>∃a xs,v=.ref a∧SqT K H a xs∧n≤xs.length∧∀L,H L=none→t (xs.take n++[.ref L]) σ (L2.upd H L (.lst (xs.drop n))) Q
theorem pg_rest {X:Cx} {es:List Expr} {kk:Nat} {t:TGs} {n:Nat} {pos:Pos} (hc:X.calm=true) (h:PGs X es t) (hn:(assignEach es X.env).length=n+1) (hst:(assignEach es X.env).findIdx? (·.1)=some n) (ha:∀v,assign (.Tuple es kk pos) X.env v=(do standAt pos;unpack v (assignEach es X.env))) :
  PG X (.Tuple es kk pos) (gRest X.K n t):=by
 refine⟨fun pins s σ H v u Q I r hw => ?_⟩
 obtain⟨a,xs,e1,hq,hl,hw⟩:=hw
 subst e1
 cases r
 obtain⟨its,rv,ht,hz⟩:=I.tuple hq
 have hle:=rv.length
 rw[ha]
 refine wpAny_bind (wpAny_standAt ?_)
 unfold unpack
 rw[hn,hst]
 refine wpAny_bind (wpAny_holding (unpack_rest (I.ok.hd hc) ht (by simp;omega) (by simp;omega) fun h' tk hk => ?_))
 have I1:Inv X pins σ H {s with heap:=h',toks:=tk}:=I.kept (t':=tk) hk
 have I2:=I1.laid (t':=tk) (h':=h'.push {cls:=.type "list",data:=.seq (its.drop n).toArray}) (a:=h'.objs.size) (o:=.lst (xs.drop n)) (fun b u e=>Heap.get?_push_of_some _ e) (Nat.le_refl _) ⟨by rw[List.length_drop];omega,its.drop n,0,rv.drop n,Heap.get?_push_size _ rfl⟩
 refine h.run pins _ σ _ _ _ Q I2 ?_ (hw h'.objs.size (I1.hok.fresh (Nat.le_refl _)))
 simpa using (rv.take n).append (.cons (show RelV (.ref h'.objs.size) (.ref h'.objs.size) from rfl) .nil)
theorem assign_tup {es:List Expr} {kk:Nat} {pos:Pos} {env:PySem.Env} (v:Value):assign (.Tuple es kk pos) env v=(do standAt pos;unpack v (assignEach es env)):=rfl
theorem pgs_star {X:Cx} {e:Expr} {es:List Expr} {p:Pos} {t:TGs} (h:PGs X (e::es) t) (hs:(assignEach (e::es) X.env).map (·.2)=assign e X.env::(assignEach es X.env).map (·.2)):PGs X (.Starred e p::es) t:=by
 refine⟨fun pins s σ H vs us Q I r q => ?_⟩
 have z:=h.run pins s σ H vs us Q I r q
 rw[hs] at z
 exact z
section
variable {X:Cx} {W:WX} {e:Expr} {f:Env→M D} {pos p1 p2 p3 p4:Pos} {x y:Str} {i j:Nat} {kt:Nat}
theorem ss_rest (hc:X.calm=true) (hN:X.N.Nodup) (hi:X.N[i]?=some x) (hj:X.N[j]?=some y) (hx:Loc X.env.scope x) (hfx:X.fn x=true∨X.env.scope.names.lookup x=some .local) (hy:Loc X.env.scope y) (hfy:X.fn y=true∨X.env.scope.names.lookup y=some .local)
  (he:SE X W e f false) (hs:swapsWithSole [.Tuple [.Name x p1,.Starred (.Name y p2) p3] kt p4] e pos.line X.env=pure false) (hw:swappedStores [.Tuple [.Name x p1,.Starred (.Name y p2) p3] kt p4] e X.env=pure none) :
  SS X W (.Assign [.Tuple [.Name x p1,.Starred (.Name y p2) p3] kt p4] e pos) (fun ρ st=>andS ρ (f ρ st) fun d st=>match d with
  |.tup (x::xs)=>.ok (.nx ((ρ.set i (some x)).set j (some (.lst xs)))) st
  |_=>.no):=by
 have hg:PG X (.Tuple [.Name x p1,.Starred (.Name y p2) p3] kt p4) (gRest X.K 1 (gCons (gName i) (gCons (gName j) gNil))):=
  pg_rest hc (pgs_cons (pg_name hN hi hx hfx) (pgs_star (pgs_cons (pg_name hN hj hy hfy) pgs_nil rfl) rfl) rfl) rfl rfl assign_tup
 refine (ps_asg he hg hs hw rfl).imp fun D σ H h=>sD_and h fun ρ d v st1 m1 H1 r1 er ⟨m,av⟩ p => ?_
 match d,av,p with
|.tup (d0::ds),av,p=>
  obtain⟨a,vs,rfl,sq,r⟩:=av.1.tupS
  cases r with
 |cons v0 vr=>
   rename_i v1 vs1
   refine⟨a,v1::vs1,rfl,sq,by simp,fun L hL=>⟨v1,[.ref L],by simp,.ref L,[],rfl,?_⟩⟩
   exact⟨rfl,p _ m1 _ (Fut.upd hL) (((er.mono (Fut.upd hL)).set i (v0.mono (Fut.upd hL))).set j (.lst upd_same (r1.fresh hL) (vr.mono (Fut.upd hL)))) (r1.new hL)⟩
|.tup [],av,p=>exact p.elim
|.non,av,p|.bl _,av,p|.int _,av,p|.str _,av,p|.lst _,av,p|.fz _,av,p|.ref _,av,p=>exact p.elim
end
end Dn
namespace Dn
open PySem L2 PyProof.Rows
theorem lookup_cons' {α:Type} {f g:Str} {x:α} {r:List (Str×α)}:((g,x)::r).lookup f=if f=g then some x else r.lookup f:=by
 by_cases h:f=g
 ·subst h;rw[if_pos rfl,List.lookup_cons_self]
 ·rw[if_neg h,List.lookup_cons,beq_eq_false_iff_ne.mpr h]
section
variable {K:PySem.W.Frag} {m:List Addr} {H:Hp} {st:Sto}
theorem zlook:∀{fs:List (Str×D)} {vs:List V} {f:Str} {d:D},VRs K m H (fs.map (·.2)) vs→fs.lookup f=some d→∃v,((fs.map (·.1)).zip vs).lookup f=some v∧VR K m H d v
|[],vs,f,d,_,h=>by cases h
|(g,x)::r,vs,f,d,hv,h=>by
  cases hv with
 |@cons _ v _ vs a b=>
   rw[lookup_cons'] at h
   show ∃w,((g,v)::(r.map (·.1)).zip vs).lookup f=some w∧_
   rw[lookup_cons']
   by_cases q:f=g
   ·rw[if_pos q] at h ⊢;cases h;exact⟨v,rfl,a⟩
   ·rw[if_neg q] at h ⊢;exact zlook b h
theorem zlookN:∀{fs:List (Str×D)} {vs:List V} {f:Str},fs.length=vs.length→fs.lookup f=none→((fs.map (·.1)).zip vs).lookup f=none
|[],vs,f,_,h=>rfl
|(g,x)::r,[],f,hl,h=>by cases hl
|(g,x)::r,v::vs,f,hl,h=>by
  rw[lookup_cons'] at h
  show ((g,v)::(r.map (·.1)).zip vs).lookup f=none
  rw[lookup_cons']
  by_cases q:f=g
  ·rw[if_pos q] at h;cases h
  ·rw[if_neg q] at h ⊢;exact zlookN (Nat.succ.inj hl) h
theorem zput {f:Str} {d:D} {w:V} (hd:VR K m H d w):∀{fs:List (Str×D)} {vs:List V},VRs K m H (fs.map (·.2)) vs→∃vs',putF f w ((fs.map (·.1)).zip vs)=((putD f d fs).map (·.1)).zip vs'∧VRs K m H ((putD f d fs).map (·.2)) vs'
|[],vs,hv=>by
  cases hv
  exact⟨[w],rfl,.cons hd .nil⟩
|(g,x)::r,vs,hv=>by
  cases hv with
 |@cons _ v _ vs a b=>
   show ∃vs',putF f w ((g,v)::(r.map (·.1)).zip vs)=_∧_
   unfold putF putD
   by_cases q:g=f
   ·rw[if_pos q,if_pos q]
    exact⟨w::vs,rfl,.cons hd b⟩
   ·rw[if_neg q,if_neg q]
    obtain⟨vs',e1,e2⟩:=zput hd b
    exact⟨v::vs',by rw[e1];rfl,.cons a e2⟩
theorem insS {cs:List Str} {x:D} {v:V} {n:Nat} {c:Str} {fs:List (Str×D)} (hv:VR K m H x v) (rl:Rl K m H st) (e:insOf cs x st=some (n,c,fs)) :
  ∃a C dx vs,v=.ref a∧x=.ref n∧m[n]?=some a∧PySem.W.nsIn K mainGlobals c=some (some (.ref C))∧H a=some (.ins C dx ((fs.map (·.1)).zip vs))∧H dx=some (.own a)∧dx ∉ m∧VRs K m H (fs.map (·.2)) vs∧c∈cs∧st[n]?=some (.ins c fs):=by
 cases x with
|ref k=>
  unfold insOf at e
  simp only at e
  cases q:st[k]? with
 |none=>rw[q] at e;cases e
 |some o=>
   rw[q] at e
   cases o with
  |ins c' fs'=>
    simp only at e
    by_cases hc:cs.contains c'=true
    ·rw[if_pos hc] at e
     cases e
     cases hv with
    |@ref _ a e1=>
      obtain⟨vs,⟨C,dx,h1,h2,h3,h4⟩,y⟩:=rl.ob n a _ e1 q
      exact⟨a,C,dx,vs,rfl,rfl,e1,h1,h2,h3,h4,y,by simpa using hc,q⟩
    ·rw[if_neg hc] at e;cases e
  |_=>cases e
|_=>cases e
theorem Rl.putI (rl:Rl K m H st) {n:Nat} {a C dx:Addr} {c:Str} {fs:List (Str×D)} {vs:List V} (h:m[n]?=some a) (h1:PySem.W.nsIn K mainGlobals c=some (some (.ref C))) {fs0:List (Str×V)} (h2:H a=some (.ins C dx fs0)) (h3:H dx=some (.own a)) (h4:dx ∉ m) (hv:VRs K m H (fs.map (·.2)) vs) :
  Rl K m (L2.upd H a (.ins C dx ((fs.map (·.1)).zip vs))) (st.set n (.ins c fs)):=by
 refine rl.put (o:=.ins c fs) h ⟨C,dx,h1,upd_same,?_,h4⟩ hv
 rw[upd_ne (fun z=>by rw[z,h2] at h3;cases h3)]
 exact h3
end
theorem tgSet_noex:∀{ts:List Tg} {ds:List D} {ρ ρ':Env} {st st':Sto} {x:Xc},tgSet ts ds ρ st=.ex x ρ' st'→False
|[],[],_,_,_,_,_,h=>by rw[tgSet] at h;cases h
|[],_::_,_,_,_,_,_,h=>by simp[tgSet] at h
|.nm i::ts,[],_,_,_,_,_,h=>by simp[tgSet] at h
|.fld cs i f::ts,[],_,_,_,_,_,h=>by simp[tgSet] at h
|.nm i::ts,d::ds,ρ,ρ',st,st',x,h=>by rw[tgSet] at h;exact tgSet_noex h
|.fld cs i f::ts,d::ds,ρ,ρ',st,st',x,h=>by
  rw[tgSet] at h
  split at h
  ·split at h
   ·exact tgSet_noex h
   ·cases h
  ·cases h
theorem tgSet_nonx:∀{ts:List Tg} {ds:List D} {ρ:Env} {st st':Sto} {c:C},tgSet ts ds ρ st=.ok c st'→(∀ρ' (_:True),c≠.nx ρ')→False
|[],[],_,_,_,_,h,hc=>by rw[tgSet] at h;cases h;exact hc _ trivial rfl
|[],_::_,_,_,_,_,h,hc=>by simp[tgSet] at h
|.nm i::ts,[],_,_,_,_,h,hc=>by simp[tgSet] at h
|.fld cs i f::ts,[],_,_,_,_,h,hc=>by simp[tgSet] at h
|.nm i::ts,d::ds,ρ,st,st',x,h,hc=>by rw[tgSet] at h;exact tgSet_nonx h hc
|.fld cs i f::ts,d::ds,ρ,st,st',x,h,hc=>by
  rw[tgSet] at h
  split at h
  ·split at h
   ·exact tgSet_nonx h hc
   ·cases h
  ·cases h
theorem tgSet_len:∀{ts:List Tg} {ds:List D} {ρ:Env} {st st':Sto} {c:C},tgSet ts ds ρ st=.ok c st'→ds.length=ts.length
|[],[],_,_,_,_,h=>rfl
|[],_::_,_,_,_,_,h=>by simp[tgSet] at h
|.nm i::ts,[],_,_,_,_,h=>by simp[tgSet] at h
|.fld cs i f::ts,[],_,_,_,_,h=>by simp[tgSet] at h
|.nm i::ts,d::ds,ρ,st,st',x,h=>by rw[tgSet] at h;rw[List.length_cons,List.length_cons,tgSet_len h]
|.fld cs i f::ts,d::ds,ρ,st,st',x,h=>by
  rw[tgSet] at h
  split at h
  ·split at h
   ·rw[List.length_cons,List.length_cons,tgSet_len h]
   ·cases h
  ·cases h
def CA (X:Cx) (c f:Str):Prop:=∀C,PySem.W.nsIn X.K mainGlobals c=some (some (.ref C))→Cls X.K C∧NoAttr X.K C f
section
variable {X:Cx} {W:WX} {a b c e o:Expr} {es:List Expr} {f g k:Env→M D} {fa:Env→M (List D)} {pos apos p p1:Pos} {cs:List Str} {x fl:Str}
theorem getA_post {K:PySem.W.Frag} {σ:L2.St} {m:List Addr} {H:Hp} {st:Sto} {Q:VK} {x:D} {u:V} (rl:Rl K m H st) (hx:VR K m H x u) (q:Post (aV K false) K W σ m H (getA cs x fl st) Q) :
  ∃n c fs d,insOf cs x st=some (n,c,fs)∧fs.lookup fl=some d∧Post (aV K false) K W σ m H (.ok d st) Q:=by
 unfold getA at q
 cases e1:insOf cs x st with
|none=>rw[e1] at q;exact q.elim
|some r=>
  obtain⟨n,c,fs⟩:=r
  rw[e1] at q
  simp only at q
  cases e2:fs.lookup fl with
 |none=>rw[e2] at q;exact q.elim
 |some d=>rw[e2] at q;exact⟨n,c,fs,d,rfl,e2,q⟩
theorem se_attr (hca:∀c∈cs,CA X c fl) (hb:attributeBase o fl X.env (eval o X.env)=eval o X.env) (ho:SE X W o f false):SE X W (.Attribute o fl pos) (fun ρ=>M.bind (f ρ) fun x=>getA cs x fl) false:=
 (pe_fld ho hb).imp fun σ H Q h=>rd_bind laterV h fun ρ x u st1 m m1 H1 f1 r1 er vx q=>by
  obtain⟨n,c,fs,d,e1,e2,q'⟩:=getA_post r1 vx.1 q
  clear q
  obtain⟨a,C,dx,vs,rfl,rfl,h1,h2,h3,h4,h5,h6,h7,_⟩:=insS vx.1 r1 e1
  obtain⟨v,l,hv⟩:=zlook h6 e2
  obtain⟨c1,c2⟩:=hca c h7 C h2
  exact⟨a,C,dx,_,v,rfl,h3,c1,c2,l,q'.any r1 hv⟩
theorem putA_post {K:PySem.W.Frag} {D0:Ends} {σ:L2.St} {m:List Addr} {H:Hp} {st:Sto} {ρ:Env} {x d:D} {u w:V} (rl:Rl K m H st) (er:ER K m H ρ σ) (hx:VR K m H x u) (hd:VR K m H d w)
  (p:PostS K W D0 m H (andS ρ (putA cs x fl d st) fun _ st=>.ok (.nx ρ) st)) :
  ∃n c fs a C dx vs,insOf cs x st=some (n,c,fs)∧u=.ref a∧c∈cs∧PySem.W.nsIn K mainGlobals c=some (some (.ref C))∧H a=some (.ins C dx ((fs.map (·.1)).zip vs))∧((fs.map (·.1)).zip vs).length<1000∧D0.nx σ (L2.upd H a (.ins C dx (putF fl w ((fs.map (·.1)).zip vs)))):=by
 unfold putA at p
 cases e1:insOf cs x st with
|none=>rw[e1] at p;exact p.elim
|some r=>
  obtain⟨n,c,fs⟩:=r
  rw[e1] at p
  simp only at p
  by_cases hl:decide (fs.length<900)=true
  ·rw[if_pos hl] at p
   obtain⟨a,C,dx,vs,rfl,rfl,h1,h2,h3,h4,h5,h6,h7,h8⟩:=insS hx rl e1
   refine⟨n,c,fs,a,C,dx,vs,rfl,rfl,h7,h2,h3,?_,?_⟩
   ·have:=of_decide_eq_true hl
    have e:=h6.length
    rw[List.length_map] at e
    rw[List.length_zip,List.length_map,←e]
    omega
   ·obtain⟨vs',e2,e3⟩:=zput (f:=fl) hd h6
    rw[e2]
    exact p σ m _ (Fut.set h1) (er.mono (Fut.set h1)) (rl.putI h1 h2 h3 h4 h5 e3)
  ·rw[if_neg hl] at p;exact p.elim
theorem ss_setA (hca:∀c∈cs,CA X c fl) (hs:swapsWith e (some (.Attribute o fl p1)) pos.line X.env=pure false) (he:SE X W e f false) (ho:SE X W o g false) :
  SS X W (.Assign [.Attribute o fl p1] e pos) (fun ρ st=>andS ρ (f ρ st) fun v st=>andS ρ (g ρ st) fun x st=>andS ρ (putA cs x fl v st) fun _ st=>.ok (.nx ρ) st):=
 (ps_fld ho he hs).imp fun D σ H h=>sD_and h fun ρ d w st1 m1 H1 r1 er ⟨m,av⟩ p=>⟨ρ,m1,st1,er,r1,p.and er fun x u st2 m2 H2 f2 r2 er2 av2 p2=>by
  obtain⟨n,c,fs,a,C,dx,vs,e1,rfl,h1,h2,h3,h4,h5⟩:=putA_post r2 er2 av2.1 (av.1.mono f2) p2
  obtain⟨c1,c2⟩:=hca c h1 C h2
  exact⟨a,C,dx,_,rfl,h3,c1,c2,h4,h5⟩⟩
def inAug (op:Operator):V→V→Hp→VK→Prop:=match op with
|.Add=>rAdd
|.Sub=>rSub
|_=>fun _ _ _ _=>False
theorem inAug_ok {op:Operator}:InOp X op (inAug op):=by
 cases op with
|Add=>exact in_add
|Sub=>exact in_sub
|_=>exact fun _ _ _ _ _ _ _ _ _ _ _ _ h=>(h:False).elim
theorem ss_augA {op:Operator} (hca:∀c∈cs,CA X c fl) (ho:SE X W o g false) (he:SE X W e f false) :
  SS X W (.AugAssign (.Attribute o fl p1) op e pos) (fun ρ st=>andS ρ (g ρ st) fun x st=>match insOf cs x st with
  |some (_,c,fs)=>(match fs.lookup fl with
   |some v=>andS ρ (f ρ st) fun y st=>andS ρ (augOp op v y st) fun z st=>andS ρ (putA [c] x fl z st) fun _ st=>.ok (.nx ρ) st
   |none=>.no)
  |none=>.no):=
 (ps_fldaug ho he inAug_ok).imp fun D σ H h=>sD_and h fun ρ x u st1 m1 H1 r1 er ⟨m,av⟩ p=>by
  cases e1:insOf cs x st1 with
 |none=>rw[e1] at p;exact p.elim
 |some r=>
   obtain⟨n,c,fs⟩:=r
   rw[e1] at p
   simp only at p
   cases e2:fs.lookup fl with
  |none=>rw[e2] at p;exact p.elim
  |some v=>
    rw[e2] at p
    simp only at p
    obtain⟨a,C,dx,vs,rfl,rfl,h1,h2,h3,h4,h5,h6,h7,_⟩:=insS av.1 r1 e1
    obtain⟨vv,l,hv⟩:=zlook h6 e2
    obtain⟨c1,c2⟩:=hca c h7 C h2
    refine⟨a,C,dx,_,vv,rfl,h3,c1,c2,l,ρ,m1,st1,er,r1,p.and er fun y yv st2 m2 H2 f2 r2 er2 av2 p2 => ?_⟩
    have fin:∀z zv,VR X.K m2 H2 z zv→PostS X.K W D m2 H2 (andS ρ (putA [c] (.ref n) fl z st2) fun _ st=>.ok (.nx ρ) st)→∃dx' fs',H2 a=some (.ins C dx' fs')∧fs'.length<1000∧D.nx σ (L2.upd H2 a (.ins C dx' (putF fl zv fs'))):=fun z zv hz p3=>by
     obtain⟨n',c',fs',a',C',dx',vs',e1',ea,g1,g2,g3,g4,g5⟩:=putA_post r2 er2 (av.1.mono f2) hz p3
     cases ea
     have ec:c'=c:=by simpa using g1
     subst ec
     rw[h2] at g2
     cases g2
     exact⟨dx',_,g3,g4,g5⟩
    have hv2:=hv.mono f2
    cases v with
   |int i1=>
     cases y with
    |int i2=>
      cases hv2
      cases av2.1
      cases op with
     |Add=>exact⟨i1,i2,rfl,rfl,fin _ _ (.int _) p2⟩
     |Sub=>exact⟨i1,i2,rfl,rfl,fin _ _ (.int _) p2⟩
     |_=>exact p2.elim
    |_=>cases op <;> exact p2.elim
   |_=>cases op <;> cases y <;> exact p2.elim
def gFldT (K:PySem.W.Frag) (to:TE) (f:Str):TG:=fun v σ H Q=>to σ H fun x H1=>∃a C dx fs,x=.ref a∧H1 a=some (.ins C dx fs)∧Cls K C∧NoAttr K C f∧fs.length<1000∧Q σ (L2.upd H1 a (.ins C dx (putF f v fs)))
theorem pg_fldT {to:TE} (ho:PE X o to):PG X (.Attribute o fl pos) (gFldT X.K to fl):=by
 refine⟨fun pins s σ H v u Q I r h => ?_⟩
 rw[assign_Attribute]
 refine wpAny_bind (wpAny_holding (thn (ho.run pins s σ H _ I h) fun ov s1 ⟨x,H1,I1,rx,a,C,dx,fs,ex,ea,c,n,l,q⟩ => ?_))
 subst ex
 obtain rfl:ov=Value.ref a:=rx
 refine wpAny_bind (wpAny_standAt (wpAny_bind (wpAny_holding (setattr_ok I1 ea c n l r fun s3 I3 => ?_))))
 exact wpAny_release ⟨σ,_,I3,q⟩
def tgR (K:PySem.W.Frag) (ts:List Tg):TGs:=fun vs σ H Q=>∃ρ m st ds,ER K m H ρ σ∧Rl K m H st∧VRs K m H ds vs∧(match tgSet ts ds ρ st with
|.ok (.nx ρ') st'=>∀σ' m' H',Fut m H m' H'→ER K m' H' ρ' σ'→Rl K m' H' st'→Q σ' H'
|_=>False)
theorem _root_.L2.PGs.imp {X:Cx} {es:List Expr} {t t':TGs} (h:PGs X es t) (hi:∀vs σ H Q,t' vs σ H Q→t vs σ H Q):PGs X es t':=⟨fun pins s σ H vs us Q I r q=>h.run pins s σ H vs us Q I r (hi _ _ _ _ q)⟩
theorem tgR_nil:PGs X [] (tgR X.K []):=pgs_nil.imp fun vs σ H Q ⟨ρ,m,st,ds,er,rl,hv,q⟩=>by
 cases hv with
|nil=>exact⟨rfl,q σ m H .refl er rl⟩
|cons a b=>exact q.elim
theorem tgR_nm {i:Nat} {ts:List Tg} (h1:PG X e (gName i)) (h2:PGs X es (tgR X.K ts)) (hs:(assignEach (e::es) X.env).map (·.2)=assign e X.env::(assignEach es X.env).map (·.2)):PGs X (e::es) (tgR X.K (.nm i::ts)):=
 (pgs_cons h1 h2 hs).imp fun vs σ H Q ⟨ρ,m,st,ds,er,rl,hv,q⟩=>by
  cases hv with
 |nil=>exact q.elim
 |@cons d v ds vs a b=>exact⟨v,vs,rfl,ρ.set i (some d),m,st,ds,er.set i a,rl,b,q⟩
theorem tgR_fld {i:Nat} {y fl:Str} {py pa:Pos} {ts:List Tg} (hca:∀c∈cs,CA X c fl) (h1:SE X W0 (.Name y py) (fun ρ=>orNo (ρ[i]?.join)) false) (h2:PGs X es (tgR X.K ts))
  (hs:(assignEach (.Attribute (.Name y py) fl pa::es) X.env).map (·.2)=assign (.Attribute (.Name y py) fl pa) X.env::(assignEach es X.env).map (·.2)):PGs X (.Attribute (.Name y py) fl pa::es) (tgR X.K (.fld cs i fl::ts)):=
 (pgs_cons (pg_fldT h1) h2 hs).imp fun vs σ H Q ⟨ρ,m,st,ds,er,rl,hv,q⟩=>by
  cases hv with
 |nil=>exact q.elim
 |@cons d v ds vs a b=>
   rw[tgSet] at q
   refine⟨v,vs,rfl,ρ,m,st,er,rl,?_⟩
   cases e1:ρ[i]?.join with
  |none=>rw[e1] at q;exact q.elim
  |some x=>
    rw[e1] at q
    show Post (aV X.K false) X.K W0 σ m H (orNo (ρ[i]?.join) st) _
    rw[e1]
    intro u m1 H1 f1 r1 av
    simp only at q
    have av:=av.1
    unfold putA at q
    cases e2:insOf cs x st with
   |none=>rw[e2] at q;exact q.elim
   |some r=>
     obtain⟨n,c,fs⟩:=r
     rw[e2] at q
     simp only at q
     by_cases hl:decide (fs.length<900)=true
     ·rw[if_pos hl] at q
      simp only at q
      obtain⟨a',C,dx,vs',rfl,rfl,h1,h2,h3,h4,h5,h6,h7,h8⟩:=insS av r1 e2
      obtain⟨c1,c2⟩:=hca c h7 C h2
      obtain⟨vs2,e3,e4⟩:=zput (f:=fl) (a.mono f1) h6
      refine⟨a',C,dx,_,rfl,h3,c1,c2,?_,ρ,m1,st.set n (.ins c (putD fl d fs)),ds,(er.mono f1).mono (Fut.set h1),?_,(b.mono f1).mono (Fut.set h1),?_⟩
      ·have:=of_decide_eq_true hl
       have e:=h6.length
       rw[List.length_map] at e
       rw[List.length_zip,List.length_map,←e]
       omega
      ·rw[e3]
       exact r1.putI h1 h2 h3 h4 h5 e4
      ·cases e5:tgSet ts ds ρ (st.set n (.ins c (putD fl d fs))) with
      |no=>rw[e5] at q;exact q.elim
      |ex z1 z2 z3=>rw[e5] at q;exact q.elim
      |ok cc st'=>
        rw[e5] at q
        cases cc with
       |nx ρ'=>exact fun σ' m' H' f' e' r'=>q σ' m' H' ((f1.trans (Fut.set h1)).trans f') e' r'
       |_=>exact q.elim
     ·rw[if_neg hl] at q;exact q.elim
theorem ss_asgM {tss:List Expr} {kt:Nat} {pt:Pos} {ts:List Tg} (hc:X.calm=true) (hg:PGs X tss (tgR X.K ts)) (he:SE X W e f false) (hn:(assignEach tss X.env).length=ts.length) (hst:(assignEach tss X.env).findIdx? (·.1)=none)
  (hs:swapsWithSole [.Tuple tss kt pt] e pos.line X.env=pure false) (hw:swappedStores [.Tuple tss kt pt] e X.env=pure none) (h1:(assignEach [.Tuple tss kt pt] X.env).map (·.2)=[assign (.Tuple tss kt pt) X.env]) :
  SS X W (.Assign [.Tuple tss kt pt] e pos) (fun ρ st=>andS ρ (f ρ st) fun d st=>match d with
  |.tup ds=>tgSet ts ds ρ st
  |_=>.no):=
 (ps_asg he (pg_tup hc hg hn hst) hs hw h1).imp fun D σ H h=>sD_and h fun ρ d v st1 m1 H1 r1 er ⟨m,av⟩ p=>by
  cases d with
 |tup ds=>
   simp only at p
   obtain⟨a,vs,rfl,s1,s2⟩:=av.1.tupS
   cases e1:tgSet ts ds ρ st1 with
  |no=>rw[e1] at p;exact p.elim
  |ex z1 z2 z3=>exact (tgSet_noex e1).elim
  |ok cc st'=>
    rw[e1] at p
    cases cc with
   |nx ρ'=>
     refine⟨a,vs,rfl,s1,?_,ρ,m1,st1,ds,er,r1,s2,?_⟩
     ·rw[←s2.length];exact tgSet_len e1
     ·rw[e1]
      exact fun σ' m' H' f' e' r'=>p σ' m' H' f' e' r'
   |_=>exact (tgSet_nonx e1 (by intro z w;exact nofun)).elim
 |_=>exact p.elim
end
end Dn
namespace Dn
open PySem L2 PyProof.Rows
section
variable {K:PySem.W.Frag} {m:List Addr} {H:Hp} {st:Sto}
abbrev zk (kvs:List (Ky×D)) (vs:List V):List (Key×V):=(kvs.map fun p=>kyR p.1).zip vs
theorem zval {k:Ky}:∀{kvs:List (Ky×D)} {vs:List V},VRs K m H (kvs.map (·.2)) vs→match valD kvs k with
 |some d=>∃v,valV (zk kvs vs) (kyR k)=some v∧VR K m H d v
 |none=>valV (zk kvs vs) (kyR k)=none
|[],vs,hv=>by cases hv;rfl
|(k',d)::r,vs,hv=>by
  cases hv with
 |@cons _ v _ vs a b=>
   have ih:=zval (k:=k) b
   by_cases q:k'=k
   ·subst q
    have e1:valD ((k',d)::r) k'=some d:=by simp[valD]
    have e2:valV (zk ((k',d)::r) (v::vs)) (kyR k')=some v:=valV_pos rfl
    rw[e1]
    exact⟨v,e2,a⟩
   ·have e1:valD ((k',d)::r) k=valD r k:=by simp[valD,List.find?_cons,q]
    have e2:valV (zk ((k',d)::r) (v::vs)) (kyR k)=valV (zk r vs) (kyR k):=valV_neg (fun z=>q (kyR_inj z))
    rw[e1,e2]
    exact ih
theorem zany {k:Ky}:∀{kvs:List (Ky×D)} {vs:List V},kvs.length=vs.length→(kvs.any fun kv=>decide (kv.1=k))=(zk kvs vs).any fun kv=>decide (kv.1=kyR k)
|[],vs,_=>rfl
|(k',d)::r,[],h=>by simp at h
|(k',d)::r,v::vs,h=>by
  show (decide (k'=k)||r.any _)=(decide (kyR k'=kyR k)||(zk r vs).any _)
  rw[zany (k:=k) (Nat.succ.inj h)]
  congr 1
  rw[decide_eq_decide]
  exact⟨fun z=>by rw[z],kyR_inj⟩
theorem zmapk {k:Ky} {d:D} {w:V} (hd:VR K m H d w):∀{kvs:List (Ky×D)} {vs:List V},VRs K m H (kvs.map (·.2)) vs→∃vs',(zk kvs vs).map (fun kv=>if kv.1=kyR k then (kv.1,w) else kv)=zk (kvs.map fun kv=>if kv.1=k then (kv.1,d) else kv) vs'∧VRs K m H ((kvs.map fun kv=>if kv.1=k then (kv.1,d) else kv).map (·.2)) vs'
|[],vs,hv=>by cases hv;exact⟨[],rfl,.nil⟩
|(k',d')::r,vs,hv=>by
  cases hv with
 |@cons _ v _ vs a b=>
   obtain⟨vs',e1,e2⟩:=zmapk (k:=k) hd b
   by_cases q:k'=k
   ·refine⟨w::vs',?_,?_⟩
    ·show (if kyR k'=kyR k then (kyR k',w) else (kyR k',v))::(zk r vs).map _=_
     rw[e1,if_pos (by rw[q])]
     simp[zk,q]
    ·simp only[List.map_cons,if_pos q]
     exact .cons hd e2
   ·refine⟨v::vs',?_,?_⟩
    ·show (if kyR k'=kyR k then (kyR k',w) else (kyR k',v))::(zk r vs).map _=_
     rw[e1,if_neg (fun z=>q (kyR_inj z))]
     simp[zk,q]
    ·simp only[List.map_cons,if_neg q]
     exact .cons a e2
theorem zputk {k:Ky} {d:D} {w:V} (hd:VR K m H d w) {kvs:List (Ky×D)} {vs:List V} (hv:VRs K m H (kvs.map (·.2)) vs):∃vs',putK (zk kvs vs) (kyR k) w=zk (putKD kvs k d) vs'∧VRs K m H ((putKD kvs k d).map (·.2)) vs':=by
 have hl:kvs.length=vs.length:=by rw[←hv.length,List.length_map]
 unfold putK putKD
 rw[←zany (k:=k) hl]
 by_cases c:(kvs.any fun kv=>decide (kv.1=k))=true
 ·rw[if_pos c,if_pos c]
  exact zmapk hd hv
 ·rw[if_neg c,if_neg c]
  refine⟨vs++[w],?_,by rw[List.map_append];exact hv.append (.cons hd .nil)⟩
  unfold zk
  rw[List.map_append,List.zip_append (by rw[List.length_map,hl])] <;> rfl
theorem zmerge:∀{more:List (Ky×D)} {us:List V},VRs K m H (more.map (·.2)) us→∀{kvs:List (Ky×D)} {vs:List V},VRs K m H (kvs.map (·.2)) vs→∃vs',mergeK (zk kvs vs) (zk more us)=zk (mergeD kvs more) vs'∧VRs K m H ((mergeD kvs more).map (·.2)) vs'
|[],us,hu,kvs,vs,hv=>by cases hu;exact⟨vs,rfl,hv⟩
|(k,d)::r,us,hu,kvs,vs,hv=>by
  cases hu with
 |@cons _ u _ us a b=>
   obtain⟨vs1,e1,e2⟩:=zputk (k:=k) a hv
   obtain⟨vs2,e3,e4⟩:=zmerge b e2
   refine⟨vs2,?_,e4⟩
   show mergeK (putK (zk kvs vs) (kyR k) u) (zk r us)=_
   rw[e1]
   exact e3
theorem dicS {x:D} {v:V} {n:Nat} {kvs:List (Ky×D)} (hv:VR K m H x v) (rl:Rl K m H st) (e:dicOf x st=some (n,kvs)) :
  ∃a vs,v=.ref a∧x=.ref n∧m[n]?=some a∧H a=some (.dK (zk kvs vs))∧VRs K m H (kvs.map (·.2)) vs∧st[n]?=some (.dic kvs):=by
 cases x with
|ref k=>
  unfold dicOf at e
  simp only at e
  cases q:st[k]? with
 |none=>rw[q] at e;cases e
 |some o=>
   rw[q] at e
   cases o with
  |dic kvs'=>
    cases e
    cases hv with
   |@ref _ a e1=>
     obtain⟨vs,h1,y⟩:=rl.ob n a _ e1 q
     exact⟨a,vs,rfl,rfl,e1,h1,y,q⟩
  |_=>cases e
|_=>cases e
theorem Rl.putD' (rl:Rl K m H st) {n:Nat} {a:Addr} {kvs:List (Ky×D)} {vs:List V} (h:m[n]?=some a) (hv:VRs K m H (kvs.map (·.2)) vs):Rl K m (L2.upd H a (.dK (zk kvs vs))) (st.set n (.dic kvs)):=
 rl.put (o:=.dic kvs) h upd_same hv
theorem dicM_post {α β:Type} {A:Rel α β} {W:WX} {σ:L2.St} {x:D} {k:M α} {Q:β→Hp→Prop} (p:Post A K W σ m H (M.bind (dicM x) (fun _=>k) st) Q):(∃n kvs,dicOf x st=some (n,kvs))∧Post A K W σ m H (k st) Q:=by
 unfold M.bind dicM at p
 cases e:dicOf x st with
|none=>rw[e] at p;exact p.elim
|some r=>rw[e] at p;exact⟨⟨r.1,r.2,rfl⟩,p⟩
theorem keyG {n:Nat} {a:Addr} {kvs:List (Ky×D)} {vs:List V} {k:Ky} (h:H a=some (.dK (zk kvs vs))):DGet H a (kV (kyR k)) (valV (zk kvs vs) (kyR k)):=.k h
theorem zgetD {c:D} {w:V} {k:Ky} {kvs:List (Ky×D)} {vs:List V} (hv:VRs K m H (kvs.map (·.2)) vs) (hc:VR K m H c w):VR K m H ((valD kvs k).getD c) ((valV (zk kvs vs) (kyR k)).getD w):=by
 have z:=zval (k:=k) hv
 cases e:valD kvs k with
|none=>rw[e] at z;simp only at z;rw[z];exact hc
|some d=>rw[e] at z;obtain⟨v,z1,z2⟩:=z;rw[z1];exact z2
end
section
variable {X:Cx} {W:WX} {a b c e o k:Expr} {es:List Expr} {f g h:Env→M D} {pos apos p p1:Pos}
theorem se_dnew:SE X W (.Dict [] [] pos) (fun _=>push (.dic [])) false:=
 pe_dnewK.imp fun σ H Q ⟨ρ,m,st,er,rl,q⟩ p hp=>by
  have f1:Fut m H (m++[p]) (L2.upd H p (.dK [])):=Fut.push hp fun a u _ e=>by rw[upd_ne (ne_of_none e hp)];exact e
  have r1:Rl X.K (m++[p]) (L2.upd H p (.dK [])) (st++[.dic []]):=rl.push (o:=.dic []) (vs:=[]) hp (show L2.upd H p (.dK []) p=some (.dK []) from upd_same) .nil f1 fun a ha=>upd_ne fun z=>rl.fresh hp (z ▸ ha)
  exact q (.ref p) _ _ f1 r1 ⟨.ref (by rw[←rl.len,List.getElem?_append_right (Nat.le_refl _),Nat.sub_self];rfl),fun z=>nomatch z⟩
def trsF (K:PySem.W.Frag) (W:WX) (cf:Cf):List E→List (TE×TE)
|k::v::r=>(rd (aV K false) K W (den cf k),rd (aV K false) K W (den cf v))::trsF K W cf r
|_=>[]
def pairV:List V→List (V×V)
|k::v::r=>(k,v)::pairV r
|_=>[]
theorem pairsF_rd {K:PySem.W.Frag} {W:WX} {cf:Cf} {σ:L2.St}:∀(es:List E),es.length % 2=0→∀{ρ:Env} {m:List Addr} {st:Sto} {H:Hp} {Q:List (V×V)→Hp→Prop},ER K m H ρ σ→Rl K m H st →
  Post (aL K) K W σ m H (dens cf es ρ st) (fun vs H'=>Q (pairV vs) H')→tPairs (trsF K W cf es) σ H Q
|[],_,ρ,m,st,H,Q,er,rl,p=>by
  rw[dens] at p
  exact p [] m H .refl rl .nil
|[_],hl,_,_,_,_,_,_,_,_=>by simp at hl
|k::v::r,hl,ρ,m,st,H,Q,er,rl,p=>by
  rw[dens] at p
  refine⟨ρ,m,st,er,rl,p.bind laterL fun d u st1 m1 H1 f1 r1 av p1 => ?_⟩
  rw[dens] at p1
  simp only[M.bind_assoc] at p1
  refine⟨ρ,m1,st1,er.mono f1,r1,p1.bind laterL fun d2 u2 st2 m2 H2 f2 r2 av2 p2 => ?_⟩
  refine pairsF_rd r (by simp at hl;omega) ((er.mono f1).mono f2) r2 ?_
  have p2:Post (aL K) K W σ m2 H2 (M.bind (dens cf r ρ) (fun ds=>M.pure (d::d2::ds)) st2) (fun vs H'=>Q (pairV vs) H'):=p2
  refine p2.bind laterL fun ds vs st3 m3 H3 f3 r3 av3 p3 => ?_
  ·exact p3 (u::u2::vs) m3 H3 .refl r3 (.cons ((av.1.mono f2).mono f3) (.cons (av2.1.mono f3) av3))
theorem pairsF_vals {K:PySem.W.Frag} {m:List Addr} {H:Hp}:∀{ds:List D} {vs:List V} {kvs:List (Ky×D)},VRs K m H ds vs→pairsF ds=some kvs→∃us,pairV vs=(zk kvs us).map (fun kv=>(kV kv.1,kv.2))∧VRs K m H (kvs.map (·.2)) us
|[],vs,kvs,hv,e=>by cases hv;cases e;exact⟨[],rfl,.nil⟩
|[_],vs,kvs,hv,e=>by cases e
|k::d::r,vs,kvs,hv,e=>by
  cases hv with
 |@cons _ u _ vs a b=>
   cases b with
  |@cons _ w _ vs b c=>
    rw[pairsF] at e
    cases hk:kyOf k with
   |none=>rw[hk] at e;cases e
   |some k'=>
     cases hr:pairsF r with
    |none=>rw[hk,hr] at e;cases e
    |some r'=>
      rw[hk,hr] at e
      cases e
      obtain⟨us,e1,e2⟩:=pairsF_vals c hr
      have ev:=kyOf_ok a hk
      subst ev
      refine⟨w::us,?_,.cons b e2⟩
      show (kV (kyR k'),w)::pairV vs=_
      rw[e1] <;> rfl
theorem se_dlit {cf:Cf} {keys:List (Option Expr)} {values:List Expr} {xs:List E} (pp:PPs X pos keys values (trsF X.K W cf xs)) (hall:keys.all (·.isSome)=true) (hl:keys.length=values.length) (h0:keys≠[]) (h15:keys.length≤15) (h2:xs.length % 2=0) :
  SE X W (.Dict keys values pos) (fun ρ=>M.bind (push (.dic [])) fun x=>M.bind (dens cf xs ρ) fun ds=>dsetM x ds) false:=
 (pe_disp pp hall hl h0 h15).imp fun σ H Q ⟨ρ,m,st,er,rl,q⟩ p hp=>by
  have f1:Fut m H (m++[p]) (L2.upd H p (.dK [])):=Fut.push hp fun a u _ e=>by rw[upd_ne (ne_of_none e hp)];exact e
  have r1:Rl X.K (m++[p]) (L2.upd H p (.dK [])) (st++[.dic []]):=rl.push (o:=.dic []) (vs:=[]) hp (show L2.upd H p (.dK []) p=some (.dK []) from upd_same) .nil f1 fun a ha=>upd_ne fun z=>rl.fresh hp (z ▸ ha)
  have hm:(m++[p])[st.length]?=some p:=by rw[←rl.len,List.getElem?_append_right (Nat.le_refl _),Nat.sub_self];rfl
  have q:Post (aV X.K false) X.K W σ m H (M.bind (dens cf xs ρ) (fun ds=>dsetM (.ref st.length) ds) (st++[.dic []])) Q:=q
  have q:=q.later laterV f1 r1
  refine pairsF_rd xs h2 (er.mono f1) r1 (q.bind laterV fun ds vs st2 m2 H2 f2 r2 av q2 => ?_)
  have av:VRs X.K m2 H2 ds vs:=av
  unfold dsetM at q2
  cases e1:dicOf (.ref st.length) st2 with
 |none=>rw[e1] at q2;exact q2.elim
 |some r=>
   obtain⟨n,kv0⟩:=r
   rw[e1] at q2
   cases kv0 with
  |cons z1 z2=>exact q2.elim
  |nil=>
    cases e2:pairsF ds with
   |none=>rw[e2] at q2;exact q2.elim
   |some kvs=>
     rw[e2] at q2
     simp only at q2
     by_cases hk:decide (kvs.length≤15)=true
     ·rw[if_pos hk] at q2
      have hp2:VR X.K m2 H2 (.ref st.length) (.ref p):=.ref (f2.at_ hm)
      obtain⟨a',us0,ea,en,h1,h3,h4,h5⟩:=dicS hp2 r2 e1
      cases ea
      cases en
      cases h4
      have h3:H2 p=some (.dK []):=h3
      obtain⟨us,e3,e4⟩:=pairsF_vals av e2
      obtain⟨vs',e5,e6⟩:=zmerge e4 (kvs:=[]) (vs:=[]) .nil
      have hlen:(zk kvs us).length=kvs.length:=by
       have:=e4.length
       rw[List.length_map] at this
       rw[List.length_zip,List.length_map]
       omega
      refine⟨h3,zk kvs us,e3,by rw[hlen];exact of_decide_eq_true hk,?_⟩
      have e5:mergeK [] (zk kvs us)=zk (mergeD [] kvs) vs':=e5
      rw[e5]
      exact q2 (.ref p) m2 _ (Fut.set h1) (r2.putD' h1 e6) ⟨.ref h1,fun z=>nomatch z⟩
     ·rw[if_neg hk] at q2;exact q2.elim
theorem se_dix (hu:X.A.units+1<cLine) (hsl:PlainIx k) (ho:SE X W o f false) (hk:SE X W k g false) :
  SE X W (.Subscript o k pos) (fun ρ=>M.bind (f ρ) fun x=>M.bind (dicM x) fun _=>M.bind (M.bind (g ρ) fun d=>M.bind (M.pure []) fun ds=>M.pure (d::ds)) fun ds=>dmOp .ix x ds) false:=
 (pe_dget hu ho hk hsl).imp fun σ H Q q=>rd_bind laterV q fun ρ x u st1 m m1 H1 f1 r1 er vx q1=>by
  obtain⟨_,q1⟩:=dicM_post q1
  simp only[M.bind_assoc] at q1
  refine⟨ρ,m1,st1,er,r1,q1.bind laterV fun y w st2 m2 H2 f2 r2 av q2 => ?_⟩
  replace q2:Post (aV X.K false) X.K W σ m2 H2 (dmOp .ix x [y] st2) Q:=q2
  unfold dmOp at q2
  cases e1:dicOf x st2 with
 |none=>rw[e1] at q2;exact q2.elim
 |some r=>
   obtain⟨n,kvs⟩:=r
   rw[e1] at q2
   simp only at q2
   obtain⟨a',vs,rfl,rfl,h1,h2,h3,h4⟩:=dicS (vx.1.mono f2) r2 e1
   cases hy:kyOf y with
  |none=>rw[hy] at q2;exact q2.elim
  |some k'=>
    rw[hy] at q2
    simp only at q2
    have ev:=kyOf_ok av.1 hy
    subst ev
    have z:=zval (k:=k') h3
    cases hl:valD kvs k' with
   |none=>rw[hl] at q2;exact q2.elim
   |some d=>
     rw[hl] at q2 z
     obtain⟨v,z1,z2⟩:=z
     refine⟨a',v,rfl,?_,q2.any r2 z2⟩
     rw[←z1]
     exact keyG (n:=0) h2
theorem se_dget1 (hu:X.A.units+1<cLine) (hm:M1 X o "get" apos k pos) (ho:SE X W o f false) (hk:SE X W k g false) :
  SE X W (.Call (.Attribute o "get" apos) [k] [] pos) (fun ρ=>M.bind (f ρ) fun x=>M.bind (dicM x) fun _=>M.bind (M.bind (g ρ) fun d=>M.bind (M.pure []) fun ds=>M.pure (d::ds)) fun ds=>dmOp .get x ds) false:=
 (pe_dget1 hu ho hk hm).imp fun σ H Q q=>rd_bind laterV q fun ρ x u st1 m m1 H1 f1 r1 er vx q1=>by
  obtain⟨⟨n0,kv0,e0⟩,q1⟩:=dicM_post q1
  obtain⟨a',vs0,rfl,rfl,h01,h02,h03,h04⟩:=dicS vx.1 r1 e0
  simp only[M.bind_assoc] at q1
  refine⟨a',rfl,.inl ⟨_,.inl h02⟩,ρ,m1,st1,er,r1,q1.bind laterV fun y w st2 m2 H2 f2 r2 av q2 => ?_⟩
  replace q2:Post (aV X.K false) X.K W σ m2 H2 (dmOp .get (.ref n0) [y] st2) Q:=q2
  unfold dmOp at q2
  cases e1:dicOf (.ref n0) st2 with
 |none=>rw[e1] at q2;exact q2.elim
 |some r=>
   obtain⟨n,kvs⟩:=r
   rw[e1] at q2
   simp only at q2
   obtain⟨a2,vs,ea,en,h1,h2,h3,h4⟩:=dicS (vx.1.mono f2) r2 e1
   cases ea
   cases hy:kyOf y with
  |none=>rw[hy] at q2;exact q2.elim
  |some k'=>
    rw[hy] at q2
    have ev:=kyOf_ok av.1 hy
    subst ev
    exact⟨_,keyG (n:=0) h2,q2.any r2 (zgetD h3 .non)⟩
theorem se_dget2 (hu:X.A.units+1<cLine) (hm:M2 X o "get" apos k c pos) (ho:SE X W o f false) (hk:SE X W k g false) (hc:SE X W c h false) :
  SE X W (.Call (.Attribute o "get" apos) [k,c] [] pos) (fun ρ=>M.bind (f ρ) fun x=>M.bind (dicM x) fun _=>M.bind (M.bind (g ρ) fun d=>M.bind (M.bind (h ρ) fun d=>M.bind (M.pure []) fun ds=>M.pure (d::ds)) fun ds=>M.pure (d::ds)) fun ds=>dmOp .get x ds) false:=
 (pe_dget2 hu ho hk hc hm).imp fun σ H Q q=>rd_bind laterV q fun ρ x u st1 m m1 H1 f1 r1 er vx q1=>by
  obtain⟨⟨n0,kv0,e0⟩,q1⟩:=dicM_post q1
  obtain⟨a',vs0,rfl,rfl,h01,h02,h03,h04⟩:=dicS vx.1 r1 e0
  simp only[M.bind_assoc] at q1
  refine⟨a',rfl,.inl ⟨_,.inl h02⟩,ρ,m1,st1,er,r1,q1.bind laterV fun y w st2 m2 H2 f2 r2 av q2=>⟨ρ,m2,st2,er.mono f2,r2,q2.bind laterV fun z u3 st3 m3 H3 f3 r3 av3 q3 => ?_⟩⟩
  replace q3:Post (aV X.K false) X.K W σ m3 H3 (dmOp .get (.ref n0) [y,z] st3) Q:=q3
  unfold dmOp at q3
  cases e1:dicOf (.ref n0) st3 with
 |none=>rw[e1] at q3;exact q3.elim
 |some r=>
   obtain⟨n,kvs⟩:=r
   rw[e1] at q3
   simp only at q3
   obtain⟨a2,vs,ea,en,h1,h2,h3,h4⟩:=dicS ((vx.1.mono f2).mono f3) r3 e1
   cases ea
   cases hy:kyOf y with
  |none=>rw[hy] at q3;exact q3.elim
  |some k'=>
    rw[hy] at q3
    have ev:=kyOf_ok av.1 hy
    subst ev
    exact⟨_,keyG (n:=0) h2,q3.any r3 (zgetD h3 av3.1)⟩
theorem se_din (hu:X.A.units+1<cLine) (hk:SE X W k g false) (ho:SE X W o f false):PC X .In k o (rd (aV X.K false) X.K W fun ρ=>M.bind (g ρ) fun y=>M.bind (f ρ) fun x=>dinOp false y x):=by
 refine⟨fun pins s σ H Q I q=>(pc_din hu hk ho).run pins s σ H Q I ?_⟩
 refine rd_bind laterV q fun ρ y w st1 m m1 H1 f1 r1 er av q1=>⟨ρ,m1,st1,er,r1,q1.bind laterV fun x u st2 m2 H2 f2 r2 vx q2 => ?_⟩
 unfold dinOp at q2
 cases e1:dicOf x st2 with
|none=>rw[e1] at q2;exact q2.elim
|some r=>
  obtain⟨n,kvs⟩:=r
  rw[e1] at q2
  obtain⟨a',vs,rfl,rfl,h1,h2,h3,h4⟩:=dicS vx.1 r2 e1
  cases hy:kyOf y with
 |none=>rw[hy] at q2;exact q2.elim
 |some k'=>
   rw[hy] at q2
   have ev:=kyOf_ok (av.1.mono f2) hy
   subst ev
   refine⟨a',_,rfl,keyG (n:=0) h2,?_⟩
   have z:=zval (k:=k') h3
   have:(valV (zk kvs vs) (kyR k')).isSome=(valD kvs k').isSome:=by
    cases e:valD kvs k' with
   |none=>rw[e] at z;simp only at z;rw[z];rfl
   |some d=>rw[e] at z;obtain⟨v,z1,_⟩:=z;rw[z1];rfl
   rw[this]
   simp only[Bool.false_bne] at q2
   exact q2.any r2 (.bl _)
theorem se_dnin (hu:X.A.units+1<cLine) (hk:SE X W k g false) (ho:SE X W o f false):PC X .NotIn k o (rd (aV X.K false) X.K W fun ρ=>M.bind (g ρ) fun y=>M.bind (f ρ) fun x=>dinOp true y x):=by
 refine⟨fun pins s σ H Q I q=>(pc_dnotin hu hk ho).run pins s σ H Q I ?_⟩
 refine rd_bind laterV q fun ρ y w st1 m m1 H1 f1 r1 er av q1=>⟨ρ,m1,st1,er,r1,q1.bind laterV fun x u st2 m2 H2 f2 r2 vx q2 => ?_⟩
 unfold dinOp at q2
 cases e1:dicOf x st2 with
|none=>rw[e1] at q2;exact q2.elim
|some r=>
  obtain⟨n,kvs⟩:=r
  rw[e1] at q2
  obtain⟨a',vs,rfl,rfl,h1,h2,h3,h4⟩:=dicS vx.1 r2 e1
  cases hy:kyOf y with
 |none=>rw[hy] at q2;exact q2.elim
 |some k'=>
   rw[hy] at q2
   have ev:=kyOf_ok (av.1.mono f2) hy
   subst ev
   refine⟨a',_,rfl,keyG (n:=0) h2,?_⟩
   have z:=zval (k:=k') h3
   have:(valV (zk kvs vs) (kyR k')).isSome=(valD kvs k').isSome:=by
    cases e:valD kvs k' with
   |none=>rw[e] at z;simp only at z;rw[z];rfl
   |some d=>rw[e] at z;obtain⟨v,z1,_⟩:=z;rw[z1];rfl
   rw[this]
   simp only[Bool.true_bne] at q2
   exact q2.any r2 (.bl _)
def tDUpd (td ty:TE):TE:=fun σ H Q=>td σ H fun x H1=>∃a,x=.ref a∧IsD H1 a∧ty σ H1 fun y H2=>∃b kvs more,y=.ref b∧a≠b∧H2 a=some (.dK kvs)∧H2 b=some (.dK more)∧kvs.length+more.length≤sizeLine∧Q .non (L2.upd H2 a (.dK (mergeK kvs more)))
theorem pe_dupd {td ty:TE} (hu:X.A.units+1<cLine) (ho:PE X o td) (he:PE X e ty) (m:M1 X o "update" apos e pos):PE X (.Call (.Attribute o "update" apos) [e] [] pos) (tDUpd td ty):=by
 refine⟨fun pins s σ H Q I h => ?_⟩
 refine wpAny_Call_method m.base m.few m.line PySem.F.plainAttrs_dict PySem.F.slot_dict_update PySem.F.type_dict_update (thn (ho.run pins s σ H _ I h) fun u s1 ⟨x,H1,I1,rx,a,ex,d,q1⟩ => ?_)
 subst ex
 obtain rfl:u=Value.ref a:=rx
 obtain⟨t1,t2,_⟩:=isD_at I1 d
 refine⟨t1,t2,?_⟩
 rw[m.trees]
 refine Calls.callWith_builtin rfl (Calls.evalArgs_plain (Calls.spliced_cons (thn (he.run pins s1 σ H1 _ I1 q1) fun iv s2 ⟨y,H2,I2,ry,b,kvs,more,ey,hab,ea,eb,hz,q2⟩=>Calls.spliced_nil ?_)))
 subst ey
 obtain rfl:iv=Value.ref b:=ry
 obtain⟨z1,hd1,vs1,rel1,dd1⟩:=dk_of I2.hok ea
 obtain⟨z2,hd2,vs2,rel2,dd2⟩:=dk_of I2.hok eb
 refine call_meetsIn PySem.F.slot_dict_update dd1.typeIs PySem.F.entry_dict_update (PySem.F.args_dict_update_2 _ _) (meets_dict_update (mixKind X.prog X.w) a b hab hd2) ⟨vs1,vs2,dd1,dd2,by rw[←rel1.length,←rel2.length];exact hz,fun h' d1 d2 hs => ?_⟩
 have hlen:(mergeK kvs more).length≤sizeLine:=Nat.le_trans (length_mergeK more kvs) hz
 have he':∃q,h'.get? a=some q:=let ⟨q,_,_,hq,_⟩:=d1;⟨q,hq⟩
 exact⟨.non,_,d_write (t':=s2.toks) I2 (by rw[ea];exact True.intro) hs he' (dk_new hlen hd1 (rel2.merge rel1) d1),rfl,q2⟩
theorem se_dupd (hu:X.A.units+1<cLine) (hm:M1 X o "update" apos k pos) (ho:SE X W o f false) (hk:SE X W k g false) :
  SE X W (.Call (.Attribute o "update" apos) [k] [] pos) (fun ρ=>M.bind (f ρ) fun x=>M.bind (dicM x) fun _=>M.bind (M.bind (g ρ) fun d=>M.bind (M.pure []) fun ds=>M.pure (d::ds)) fun ds=>dmOp .upd x ds) false:=
 (pe_dupd hu ho hk hm).imp fun σ H Q q=>rd_bind laterV q fun ρ x u st1 m m1 H1 f1 r1 er vx q1=>by
  obtain⟨⟨n0,kv0,e0⟩,q1⟩:=dicM_post q1
  obtain⟨a',vs0,rfl,rfl,h01,h02,h03,h04⟩:=dicS vx.1 r1 e0
  simp only[M.bind_assoc] at q1
  refine⟨a',rfl,.inl ⟨_,.inl h02⟩,ρ,m1,st1,er,r1,q1.bind laterV fun y w st2 m2 H2 f2 r2 av q2 => ?_⟩
  replace q2:Post (aV X.K false) X.K W σ m2 H2 (dmOp .upd (.ref n0) [y] st2) Q:=q2
  unfold dmOp at q2
  cases e1:dicOf (.ref n0) st2 with
 |none=>rw[e1] at q2;exact q2.elim
 |some r=>
   obtain⟨n,kvs⟩:=r
   rw[e1] at q2
   simp only at q2
   obtain⟨a2,vs,ea,en,h1,h2,h3,h4⟩:=dicS (vx.1.mono f2) r2 e1
   cases ea
   cases en
   cases e2:dicOf y st2 with
  |none=>rw[e2] at q2;exact q2.elim
  |some r=>
    obtain⟨n2,more⟩:=r
    rw[e2] at q2
    simp only at q2
    obtain⟨b',us,rfl,rfl,g1,g2,g3,g4⟩:=dicS av.1 r2 e2
    obtain⟨hz,q2⟩:=if_post q2
    obtain⟨hz1,hz2⟩:=and3 hz
    have hz1:=of_decide_eq_true hz1
    have hab:a'≠b':=fun z=>hz1 (by
     subst z
     obtain⟨i1,i2⟩:=List.getElem?_eq_some_iff.mp h1
     obtain⟨i3,i4⟩:=List.getElem?_eq_some_iff.mp g1
     exact (List.getElem_inj r2.nd).mp (i2.trans i4.symm))
    have l1:(zk kvs vs).length=kvs.length:=by
     have:=h3.length
     rw[List.length_map] at this
     rw[List.length_zip,List.length_map]
     omega
    have l2:(zk more us).length=more.length:=by
     have:=g3.length
     rw[List.length_map] at this
     rw[List.length_zip,List.length_map]
     omega
    obtain⟨vs',e5,e6⟩:=zmerge g3 h3
    refine⟨b',_,_,rfl,hab,h2,g2,by rw[l1,l2];exact szOk_line hz2,?_⟩
    rw[e5]
    exact q2 .non m2 _ (Fut.set h1) (r2.putD' h1 e6) ⟨.non,fun z=>nomatch z⟩
theorem ss_dput (hu:X.A.units+1<cLine) (hs:swapsWith e (some (.Subscript o k p1)) pos.line X.env=pure false) (he:SE X W e f false) (ho:SE X W o g false) (hk:SE X W k h false) :
  SS X W (.Assign [.Subscript o k p1] e pos) (fun ρ st=>andS ρ (f ρ st) fun v st=>andS ρ (g ρ st) fun x st=>andS ρ (h ρ st) fun y st=>andS ρ (dputM x y v st) fun _ st=>.ok (.nx ρ) st):=
 (ps_dput hu ho hk he hs).imp fun D σ H q=>sD_and q fun ρ d w st1 m1 H1 r1 er ⟨m,av⟩ q1=>⟨ρ,m1,st1,er,r1,q1.and er fun x u st2 m2 H2 f2 r2 er2 av2 q2=>⟨ρ,m2,st2,er2,r2,q2.and er2 fun y w3 st3 m3 H3 f3 r3 er3 av3 q3=>by
  unfold dputM at q3
  cases e1:dicOf x st3 with
 |none=>rw[e1] at q3;exact q3.elim
 |some r=>
   obtain⟨n,kvs⟩:=r
   rw[e1] at q3
   obtain⟨a',vs,rfl,rfl,h1,h2,h3,h4⟩:=dicS (av2.1.mono f3) r3 e1
   cases hy:kyOf y with
  |none=>rw[hy] at q3;exact q3.elim
  |some k'=>
    rw[hy] at q3
    simp only at q3
    have ev:=kyOf_ok av3.1 hy
    subst ev
    by_cases hz:szOk kvs.length=true
    ·rw[if_pos hz] at q3
     obtain⟨vs',e5,e6⟩:=zputk (k:=k') ((av.1.mono f2).mono f3) h3
     have l1:(zk kvs vs).length=kvs.length:=by
      have:=h3.length
      rw[List.length_map] at this
      rw[List.length_zip,List.length_map]
      omega
     refine⟨a',_,rfl,.k h2 (by rw[l1];exact szOk_lt hz),?_⟩
     rw[e5]
     exact q3 σ m3 _ (Fut.set h1) (er3.mono (Fut.set h1)) (r3.putD' h1 e6)
    ·rw[if_neg hz] at q3;exact q3.elim⟩⟩
theorem se_kix {x:Str} {xs:List D} {v:V} {u:Value} (hg:Gl X x) (hm:X.mg x=some u) (r:RelV v u) (hv:∀m H,VR X.K m H (.tup xs) v) (hdb:(x == ("__debug__":Str))=false) (hb:attributeBase (.Name x p) "index" X.env (eval (.Name x p) X.env)=eval (.Name x p) X.env)
  (hline:(apos.endLine == pos.line)=true) (hs:noStar e=true) (he:SE X W e f false):SE X W (.Call (.Attribute (.Name x p) "index" apos) [e] [] pos) (fun ρ=>M.bind (f ρ) fun y=>kixOp xs y) false:=by
 have hk:=hv [] (fun _=>none)
 generalize hz:(fun _=>none:Hp)=H0 at hk
 cases hk with
|tup e1 _ _ _=>rw[←hz] at e1;cases e1
|@tupK a vs _ kt rs=>
  obtain⟨o,its,n,h1,h2,h3,h4,h5,h6⟩:=kt
  refine (pe_bm (T := "tuple") PySem.F.plainAttrs_tuple PySem.F.slot_tuple_index PySem.F.type_tuple_index mt_tup_index (pe_glob hg hm r hdb) (pa_cons he pa_nil (starEach_cons hs)) hb ?_ hline (starEach_cons hs) rfl).imp fun σ H Q h => ?_
  ·rw[backTo_all (by rw[List.all_cons,hs];rfl)];rfl
  ·refine⟨.inr (.inl ⟨rfl,o,h1,h2,h6⟩),?_⟩
   refine rd_bind laterV h fun ρ y w st1 m m1 H1 f1 r1 er av q => ?_
   unfold kixOp at q
   cases y with
  |str z=>
    cases hy:alls isStr xs with
   |none=>rw[hy] at q;exact (q:False).elim
   |some ys=>
     rw[hy] at q
     simp only at q
     cases hj:ys.findIdx? (fun w=>decide (w=z)) with
    |none=>rw[hj] at q;exact (q:False).elim
    |some j=>
      rw[hj] at q
      obtain⟨hj0,hj1,hj2⟩:=List.findIdx?_eq_some_iff_getElem.mp hj
      have e2:=rs.strs hy
      subst e2
      cases av.1
      refine⟨a,ys.map tx,tx z,j,rfl,rfl,.inr ⟨o,its,n,h1,h2,h3,h4,h5⟩,?_,fun i hi => ?_,q.any r1 (.int _)⟩
      ·rw[List.getElem?_map,List.getElem?_eq_getElem hj0,of_decide_eq_true hj1];rfl
      ·have hi0:i<ys.length:=by omega
       rw[List.getElem?_map,List.getElem?_eq_getElem hi0]
       intro c
       have c:tx ys[i]=tx z:=Option.some.inj c
       have:=hj2 i hi
       rw[tx_inj.mp c] at this
       simp at this
  |_=>exact (q:False).elim
def tCallX (tf:TE) (S:V→Sp→Prop) (E:L2.St→XK) (t:TA):TE:=fun σ H Q=>tf σ H fun v H1=>∃sp,S v sp∧t σ H1 fun vs H2=>sp vs H2 Q (E σ)
theorem pe_callX {CX:CXT} {kk:Nat} {fe:Expr} {tf:TE} {S:V→Sp→Prop} {E:L2.St→XK} {t:TA}
  (hev:eval (.Call fe (e::es) [] pos) X.env=(do callWith pos (←eval fe X.env) [] (backTo pos (starEach (e::es) X.env)) (backToKw pos (keywordEach [] X.env))))
  (hf:PE X fe tf) (A:∀v sp,S v sp→∃fa fd ps,v=.ref fa∧FnOk X.prog X.w X.K X.mg X.base CX kk fa fd ps sp∧PySem.W.keepIn X.K (.ref fa)=true∧Binds X.K fd ps []) (hr:Room kk X.A) (hx:∀σ,PassesAt CX X σ (E σ))
  (ha:PA X (e::es) t) (he:starEach (e::es) X.env=(false,eval e X.env)::starEach es X.env) (hpl:(backTo pos (starEach es X.env)).any (·.1)=false) :
  PE X (.Call fe (e::es) [] pos) (tCallX tf S E t):=by
 refine⟨fun pins s σ H Q I h => ?_⟩
 rw[hev]
 refine wpAny_bind (thn (hf.run pins s σ H _ I h) fun u s1 ⟨v,H1,I1,rv,sp,hS,q⟩ => ?_)
 obtain⟨fa,fd,ps,rfl,F,hk,hb⟩:=A v sp hS
 cases rv
 refine PySem.W.callWith_K (h₀:=X.base) I1.ok.mod.kin hk (thn (ha.run pos pins s1 σ H1 _ I1 q) fun us s2 ⟨vs,H2,I2,r,q2⟩=>⟨I2.kIn,?_⟩) he hpl
 exact run_fnS F hr hb (hx σ) I2 r q2
theorem names_ok {kk np:Nat} {gf:Str→List D→M D}:∀{names:List Expr} {fs:List Str},names.length=fs.length→(∀(j:Nat) (f:Str),fs[j]?=some f→FL X kk f np (gf f)∧Gl X f∧(f == ("__debug__":Str))=false∧∃p,names[j]?=some (.Name f p)) →
  ∃fas:List Addr,fas.length=fs.length∧PA X names (fun σ H Q=>Q (fas.map V.ref) H)∧∀(j:Nat) (f:Str),fs[j]?=some f→∃fa fd ps,fas[j]?=some fa∧ps.length=np∧FnOk X.prog X.w X.K X.mg X.base (L2.CX X.prog X.w) kk fa fd ps (spF X.K np (gf f))∧PySem.W.keepIn X.K (.ref fa)=true∧Binds X.K fd ps []
|[],[],_,_=>⟨[],rfl,pa_nil,fun j f h=>by simp at h⟩
|n::names,f::fs,hl,h=>by
  obtain⟨⟨fa,fd,ps,hps,hm,hk,hb,F⟩,hg,hd,p0,hn⟩:=h 0 f rfl
  have hn:n=.Name f p0:=Option.some.inj hn
  subst hn
  obtain⟨fas,h1,h2,h3⟩:=names_ok (names:=names) (fs:=fs) (Nat.succ.inj hl) fun j g hj=>by
   obtain⟨q1,q2,q3,q4⟩:=h (j+1) g (by simpa using hj)
   exact⟨q1,q2,q3,by simpa using q4⟩
  refine⟨fa::fas,by rw[List.length_cons,List.length_cons,h1],(pa_cons (pe_glob (v:=.ref fa) hg hm rfl hd) h2 (starEach_cons rfl)).imp fun σ H Q q=>q,fun j g hj => ?_⟩
  cases j with
 |zero=>
   have:f=g:=Option.some.inj hj
   subst this
   exact⟨fa,fd,ps,rfl,hps,F,hk,hb⟩
 |succ j=>
   obtain⟨fa',fd',ps',q⟩:=h3 j g (by simpa using hj)
   exact⟨fa',fd',ps',by simpa using q⟩
|[],_::_,hl,_=>by simp at hl
|_::_,[],hl,_=>by simp at hl
theorem se_callX {i:Expr} {names:List Expr} {fs:List Str} {pl ps:Pos} {np kk:Nat} {gf:Str→List D→M D} {fa:Env→M (List D)} (hl:names.length=fs.length) (hz:fs.length≤1000) (hfs:∀(j:Nat) (f:Str),fs[j]?=some f→FL X kk f np (gf f)∧Gl X f∧(f == ("__debug__":Str))=false∧∃p,names[j]?=some (.Name f p))
  (hr:Room kk X.A) (tk:Takes X W) (hsl:PlainIx i) (hs:(e::es).all noStar=true) (hlen:∀ρ st ds st1,fa ρ st=.ok ds st1→ds.length=np) (hi:SE X W i f false) (ha:SA X W (e::es) fa) :
  SE X W (.Call (.Subscript (.List names pl) i ps) (e::es) [] pos) (fun ρ=>M.bind (f ρ) fun d=>M.bind (fixM fs d) fun g=>M.bind (fa ρ) fun ds=>callV false (gf g ds)) false:=by
 obtain⟨fas,l1,pn,hA⟩:=names_ok hl hfs
 have hs':=hs
 rw[List.all_cons] at hs'
 obtain⟨s1,s2⟩:=and3 hs'
 refine (pe_callX (CX:=L2.CX X.prog X.w) (kk:=kk) (S:=fun v sp=>∃(j:Nat) (g:Str) (fb:Addr),fs[j]?=some g∧fas[j]?=some fb∧v=.ref fb∧sp=spF X.K np (gf g)) (E:=fun σ=>WE W σ) rfl (pe_ix ix_seq (pe_lst pn) hi hsl) (fun v sp hS => ?_) hr (fun σ=>passAt tk σ) ha (starEach_cons s1) (backTo_plain s2)).imp fun σ H Q h => ?_
 ·obtain⟨j,g,fb,e1,e2,rfl,rfl⟩:=hS
  obtain⟨fa',fd',ps',q1,q2,q3,q4,q5⟩:=hA j g e1
  rw[e2] at q1
  cases q1
  exact⟨fb,fd',ps',rfl,q3,q4,q5⟩
 ·obtain⟨ρ,m,st,er,rl,q⟩:=h
  refine⟨by rw[List.length_map,l1];exact Nat.le_trans hz (by decide),fun p hp => ?_⟩
  have f0:Fut m H m (L2.upd H p (.lst (fas.map V.ref))):=Fut.upd hp
  have r0:=rl.new (o:=.lst (fas.map V.ref)) hp
  replace q:Post (aV X.K false) X.K W σ m H (M.bind (f ρ) (fun d=>M.bind (fixM fs d) fun g=>M.bind (fa ρ) fun ds=>callV false (gf g ds)) st) Q:=q
  refine⟨ρ,m,st,er.mono f0,r0,(q.later laterV f0 r0).bind laterV fun d v st1 m1 H1 f1 r1 av q1 => ?_⟩
  unfold M.bind at q1
  cases e1:fixM fs d st1 with
 |no=>rw[e1] at q1;exact q1.elim
 |ex x s=>unfold fixM at e1;(repeat' (split at e1)) <;> cases e1
 |ok g st2=>
   rw[e1] at q1
   unfold fixM at e1
   cases d with
  |int n=>
    simp only at e1
    split at e1
    ·rename_i hn
     have hn:=of_decide_eq_true hn
     cases e2:fs[n.toNat]? with
    |none=>rw[e2] at e1;cases e1
    |some g'=>
      rw[e2] at e1
      cases e1
      obtain⟨fb,fd',ps',a1,a2,a3,a4,a5⟩:=hA n.toNat g e2
      cases av.1
      have hlt:n.toNat<fas.length:=(List.getElem?_eq_some_iff.mp a1).1
      have hq:H1 p=some (.lst (fas.map V.ref)):=f1.keep p _ (rl.fresh hp) upd_same
      refine .inl ⟨p,fas.map V.ref,n,.ref fb,rfl,rfl,.inl (.inl hq),?_,spF X.K np (gf g),⟨n.toNat,g,fb,e2,a1,rfl,rfl⟩,ρ,m1,st1,(er.mono f0).mono f1,r1,?_⟩
      ·have z:=L2.atI_nat (xs:=fas.map V.ref) (j:=n.toNat) (v:=V.ref fb) (by rw[List.getElem?_map,a1];rfl)
       rw[Int.toNat_of_nonneg hn] at z
       exact z
      ·replace q1:Post (aV X.K false) X.K W σ m1 H1 (M.bind (fa ρ) (fun ds=>callV false (gf g ds)) st1) Q:=q1
       cases e3:fa ρ st1 with
      |no=>rw[bindM_no e3] at q1;exact q1.elim
      |ex y st3=>rw[bindM_ex e3] at q1;exact q1
      |ok ds st3=>
        rw[bindM_ok e3] at q1
        intro vs m2 H2 f2 r2 av2
        exact⟨ds,m2,st3,hlen ρ st1 ds st3 e3,r2,av2,callV_post r2 (q1.later laterV f2 r2)⟩
    ·cases e1
  |_=>cases e1
abbrev SK (X:Cx) (W:WX) (kws:List Keyword) (f:Env→M (List D)):Prop:=PK X kws (rd (aL X.K) X.K W f)
theorem pk_imp {kws:List Keyword} {t t':TA} (h:PK X kws t) (hi:∀σ H Q,t' σ H Q→t σ H Q):PK X kws t':=⟨fun pos pins s σ H Q I q=>h.run pos pins s σ H Q I (hi _ _ _ q)⟩
theorem sk_nil:SK X W [] (fun _=>M.pure []):=pk_imp pk_nil fun σ H Q ⟨ρ,m,st,er,rl,p⟩=>p [] m H .refl rl .nil
theorem sk_cons {nm:Option Str} {kpos:Pos} {kws:List Keyword} {fa:Env→M (List D)} (he:SE X W e f false) (ha:SK X W kws fa):SK X W (⟨nm,e,kpos⟩::kws) (fun ρ=>M.bind (f ρ) fun d=>M.bind (fa ρ) fun ds=>M.pure (d::ds)):=
 pk_imp (pk_cons he ha) fun σ H Q h=>rd_bind laterL h fun ρ d v st1 m m1 H1 f1 r1 er av p=>
  ⟨ρ,m1,st1,er,r1,p.bind laterL fun ds vs st2 m2 H2 f2 r2 avs q=>q (v::vs) m2 H2 .refl r2 (.cons (av.1.mono f2) avs)⟩
def tCallKS (sp:Sp) (gV:List V→List V→List V) (n m:Nat) (E:L2.St→XK) (t tk:TA):TE:=fun σ H Q=>t σ H fun vs H1=>tk σ H1 fun zs H2=>vs.length=n∧zs.length=m∧sp (gV vs zs) H2 Q (E σ)
theorem pe_callKS {CX:CXT} {kk n:Nat} {fa:Addr} {fd:FuncData} {ps ks:List Str} {sp:Sp} {E:L2.St→XK} {x:Str} {kws:List Keyword} {t tk:TA} {g:List Value→List Value→List Value} {gV:List V→List V→List V}
  (F:FnOk X.prog X.w X.K X.mg X.base CX kk fa fd ps sp) (hr:Room kk X.A) (hg:Gl X x) (hm:X.mg x=some (.ref fa)) (hk:PySem.W.keepIn X.K (.ref fa)=true) (hb:KBn X.K fd ps n ks g gV) (hx:∀σ,PassesAt CX X σ (E σ))
  (ha:PA X (e::es) t) (hkw:PK X kws tk) (hall:(backToKw pos (keywordEach kws X.env)).all (·.1.isSome)=true) (hks:(backToKw pos (keywordEach kws X.env)).filterMap (·.1)=ks)
  (hdb:(x == ("__debug__":Str))=false) (he:starEach (e::es) X.env=(false,eval e X.env)::starEach es X.env)
  (hpl:((backTo pos (starEach (e::es) X.env)).any (·.1)||(backToKw pos (keywordEach kws X.env)).any (·.1.isNone))=false) :
  PE X (.Call (.Name x p) (e::es) kws pos) (tCallKS sp gV n ks.length E t tk):=by
 refine⟨fun pins s σ H Q I h => ?_⟩
 refine wpAny_Call_Name_kw (ld_glob I hg hm ?_ hdb)
 refine PySem.W.callWith_KW (h₀:=X.base) I.ok.mod.kin hk hall (thn (ha.run pos pins s σ H _ I h) fun us s1 ⟨vs,H1,I1,r,q⟩ => ?_) hpl he
 refine thn (hkw.run pos pins s1 σ H1 _ I1 q) fun ws s2 ⟨zs,H2,I2,rz,l1,l2,q2⟩=>⟨I2.kIn,?_⟩
 rw[hks]
 have r2:=hb.rel r rz
 refine wpAny_call (codeAny_mono (F.run X.A X.stack s2 H2 ⟨us,ks.zip ws⟩ (g us ws) (gV vs zs) Q (E σ) hr I2.env0 (hb.to s2 us ws I2.kIn (r.length.symm.trans l1) (rz.length.symm.trans l2)) r2 q2) fun r s' hq => ?_)
 cases r with
|error e=>exact hx σ pins H2 s2 e s' I2 hq
|ok fl=>
  cases fl with
 |ret u=>exact I2.after hq
 |next=>exact False.elim hq
 |brk=>exact False.elim hq
 |cont=>exact False.elim hq
structure KFL (X:Cx) (k:Nat) (x:Str) (ps:List Str) (n:Nat) (g:List D→M D):Prop where
 ex:∃(fa:Addr) (fd:FuncData) (gg:List Value→List Value→List Value),X.mg x=some (.ref fa)∧PySem.W.keepIn X.K (.ref fa)=true∧KBn X.K fd ps n (ps.drop n) gg (fun vs zs=>vs++zs)∧FnOk X.prog X.w X.K X.mg X.base (L2.CX X.prog X.w) k fa fd ps (spF X.K ps.length g)
def kwNames:List Keyword→Option (List Str)
|[]=>some []
|k::r=>match k.arg,kwNames r with
 |some x,some xs=>some (x::xs)
 |_,_=>none
theorem kw_all {env:PySem.Env}:∀{kws:List Keyword} {ks:List Str},kwNames kws=some ks→(backToKw pos (keywordEach kws env)).all (·.1.isSome)=true∧(backToKw pos (keywordEach kws env)).filterMap (·.1)=ks∧(backToKw pos (keywordEach kws env)).any (·.1.isNone)=false
|[],ks,h=>by cases h;exact⟨rfl,rfl,rfl⟩
|⟨a,v,kp⟩::r,ks,h=>by
  rw[kwNames] at h
  cases a with
 |none=>cases h
 |some x=>
   cases e:kwNames r with
  |none=>rw[e] at h;cases h
  |some xs=>
    rw[e] at h
    cases h
    obtain⟨h1,h2,h3⟩:=kw_all (env:=env) e
    refine⟨?_,?_,?_⟩
    ·show (true&&(backToKw pos (keywordEach r env)).all (·.1.isSome))=true
     rw[h1];rfl
    ·show x::(backToKw pos (keywordEach r env)).filterMap (·.1)=x::xs
     rw[h2]
    ·show (false||(backToKw pos (keywordEach r env)).any (·.1.isNone))=false
     rw[h3];rfl
theorem se_callK {x:Str} {kk n:Nat} {ps:List Str} {kws:List Keyword} {gf:List D→M D} {fa fk:Env→M (List D)} (F:KFL X kk x ps n gf) (hn:n≤ps.length) (hr:Room kk X.A) (tk:Takes X W) (hg:Gl X x) (hdb:(x == ("__debug__":Str))=false) (hs:(e::es).all noStar=true)
  (hk:kwNames kws=some (ps.drop n)) (hlen:∀ρ st ds st1,fa ρ st=.ok ds st1→ds.length=n) (hlen2:∀ρ st ds st1,fk ρ st=.ok ds st1→ds.length=ps.length - n) (ha:SA X W (e::es) fa) (hkw:SK X W kws fk) :
  SE X W (.Call (.Name x p) (e::es) kws pos) (fun ρ=>M.bind (fa ρ) fun ds=>M.bind (fk ρ) fun zs=>callV false (gf (ds++zs))) false:=by
 obtain⟨fad,fd,gg,hm,hkp,hb,F⟩:=F.ex
 have hs':=hs
 rw[List.all_cons] at hs'
 obtain⟨s1,s2⟩:=and3 hs'
 obtain⟨k1,k2,k3⟩:=kw_all (pos:=pos) (env:=X.env) hk
 have hpl:(backTo pos (starEach (e::es) X.env)).any (·.1)=false:=backTo_plain hs
 refine (pe_callKS F hr hg hm hkp hb (fun σ=>passAt tk σ) ha hkw k1 k2 hdb (starEach_cons s1) (by rw[hpl,k3];rfl)).imp fun σ H Q h => ?_
 obtain⟨ρ,m,st,er,rl,q⟩:=h
 refine⟨ρ,m,st,er,rl,?_⟩
 replace q:Post (aV X.K false) X.K W σ m H (M.bind (fa ρ) (fun ds=>M.bind (fk ρ) fun zs=>callV false (gf (ds++zs))) st) Q:=q
 cases e1:fa ρ st with
|no=>rw[bindM_no e1] at q;exact q
|ex y st1=>rw[bindM_ex e1] at q;exact q
|ok ds st1=>
  rw[bindM_ok e1] at q
  intro vs m1 H1 f1 r1 av
  have q:=q.later laterV f1 r1
  refine⟨ρ,m1,st1,er.mono f1,r1,?_⟩
  cases e2:fk ρ st1 with
 |no=>rw[bindM_no e2] at q;exact q
 |ex y st2=>rw[bindM_ex e2] at q;exact q
 |ok zs st2=>
   rw[bindM_ok e2] at q
   intro ws m2 H2 f2 r2 av2
   have h1:=hlen ρ st ds st1 e1
   have h2:=hlen2 ρ st1 zs st2 e2
   have v1:VRs X.K m1 H1 ds vs:=av
   have v2:VRs X.K m2 H2 zs ws:=av2
   refine⟨by rw[←v1.length];exact h1,by rw[←v2.length,h2,List.length_drop],ds++zs,m2,st2,by rw[List.length_append];omega,r2,(v1.mono f2).append v2,callV_post r2 (q.later laterV f2 r2)⟩
def tCallXK (tf:TE) (S:V→Sp→Prop) (n m:Nat) (E:L2.St→XK) (t tk:TA):TE:=fun σ H Q=>tf σ H fun v H1=>∃sp,S v sp∧t σ H1 fun vs H2=>tk σ H2 fun zs H3=>vs.length=n∧zs.length=m∧sp (vs++zs) H3 Q (E σ)
theorem pe_callXK {CX:CXT} {kk n:Nat} {fe:Expr} {tf:TE} {S:V→Sp→Prop} {E:L2.St→XK} {ks:List Str} {kws:List Keyword} {t tk:TA}
  (hev:eval (.Call fe (e::es) kws pos) X.env=(do callWith pos (←eval fe X.env) [] (backTo pos (starEach (e::es) X.env)) (backToKw pos (keywordEach kws X.env))))
  (hf:PE X fe tf) (A:∀v sp,S v sp→∃fa fd ps g,v=.ref fa∧FnOk X.prog X.w X.K X.mg X.base CX kk fa fd ps sp∧PySem.W.keepIn X.K (.ref fa)=true∧KBn X.K fd ps n ks g (fun vs zs=>vs++zs)) (hr:Room kk X.A) (hx:∀σ,PassesAt CX X σ (E σ))
  (ha:PA X (e::es) t) (hkw:PK X kws tk) (hall:(backToKw pos (keywordEach kws X.env)).all (·.1.isSome)=true) (hks:(backToKw pos (keywordEach kws X.env)).filterMap (·.1)=ks)
  (he:starEach (e::es) X.env=(false,eval e X.env)::starEach es X.env)
  (hpl:((backTo pos (starEach (e::es) X.env)).any (·.1)||(backToKw pos (keywordEach kws X.env)).any (·.1.isNone))=false) :
  PE X (.Call fe (e::es) kws pos) (tCallXK tf S n ks.length E t tk):=by
 refine⟨fun pins s σ H Q I h => ?_⟩
 rw[hev]
 refine wpAny_bind (thn (hf.run pins s σ H _ I h) fun u s0 ⟨v,H0,I0,rv,sp,hS,q⟩ => ?_)
 obtain⟨fa,fd,ps,g,rfl,F,hk,hb⟩:=A v sp hS
 cases rv
 refine PySem.W.callWith_KW (h₀:=X.base) I0.ok.mod.kin hk hall (thn (ha.run pos pins s0 σ H0 _ I0 q) fun us s1 ⟨vs,H1,I1,r,q⟩ => ?_) hpl he
 refine thn (hkw.run pos pins s1 σ H1 _ I1 q) fun ws s2 ⟨zs,H2,I2,rz,l1,l2,q2⟩=>⟨I2.kIn,?_⟩
 rw[hks]
 have r2:=hb.rel r rz
 refine wpAny_call (codeAny_mono (F.run X.A X.stack s2 H2 ⟨us,ks.zip ws⟩ (g us ws) (vs++zs) Q (E σ) hr I2.env0 (hb.to s2 us ws I2.kIn (r.length.symm.trans l1) (rz.length.symm.trans l2)) r2 q2) fun r s' hq => ?_)
 cases r with
|error e=>exact hx σ pins H2 s2 e s' I2 hq
|ok fl=>
  cases fl with
 |ret u=>exact I2.after hq
 |next=>exact False.elim hq
 |brk=>exact False.elim hq
 |cont=>exact False.elim hq
theorem names_okK {kk n:Nat} {ps:List Str} {gf:Str→List D→M D}:∀{names:List Expr} {fs:List Str},names.length=fs.length→(∀(j:Nat) (f:Str),fs[j]?=some f→KFL X kk f ps n (gf f)∧Gl X f∧(f == ("__debug__":Str))=false∧∃p,names[j]?=some (.Name f p)) →
  ∃fas:List Addr,fas.length=fs.length∧PA X names (fun σ H Q=>Q (fas.map V.ref) H)∧∀(j:Nat) (f:Str),fs[j]?=some f→∃(fa:Addr) (fd:FuncData) (gg:List Value→List Value→List Value),fas[j]?=some fa∧PySem.W.keepIn X.K (.ref fa)=true∧KBn X.K fd ps n (ps.drop n) gg (fun vs zs=>vs++zs)∧FnOk X.prog X.w X.K X.mg X.base (L2.CX X.prog X.w) kk fa fd ps (spF X.K ps.length (gf f))
|[],[],_,_=>⟨[],rfl,pa_nil,fun j f h=>by simp at h⟩
|n1::names,f::fs,hl,h=>by
  obtain⟨F,hg,hd,p0,hn⟩:=h 0 f rfl
  obtain⟨fa,fd,gg,hm,hk,hb,F⟩:=F.ex
  have hn:n1=.Name f p0:=Option.some.inj hn
  subst hn
  obtain⟨fas,h1,h2,h3⟩:=names_okK (names:=names) (fs:=fs) (Nat.succ.inj hl) fun j g hj=>by
   obtain⟨q1,q2,q3,q4⟩:=h (j+1) g (by simpa using hj)
   exact⟨q1,q2,q3,by simpa using q4⟩
  refine⟨fa::fas,by rw[List.length_cons,List.length_cons,h1],(pa_cons (pe_glob (v:=.ref fa) hg hm rfl hd) h2 (starEach_cons rfl)).imp fun σ H Q q=>q,fun j g hj => ?_⟩
  cases j with
 |zero=>
   have:f=g:=Option.some.inj hj
   subst this
   exact⟨fa,fd,gg,rfl,hk,hb,F⟩
 |succ j=>
   obtain⟨fa',fd',gg',q⟩:=h3 j g (by simpa using hj)
   exact⟨fa',fd',gg',by simpa using q⟩
|[],_::_,hl,_=>by simp at hl
|_::_,[],hl,_=>by simp at hl
theorem se_callXK {i:Expr} {names:List Expr} {fs:List Str} {pl pq:Pos} {n kk:Nat} {ps:List Str} {kws:List Keyword} {gf:Str→List D→M D} {fa fk:Env→M (List D)} (hl:names.length=fs.length) (hz:fs.length≤1000) (hfs:∀(j:Nat) (f:Str),fs[j]?=some f→KFL X kk f ps n (gf f)∧Gl X f∧(f == ("__debug__":Str))=false∧∃p,names[j]?=some (.Name f p))
  (hn:n≤ps.length) (hr:Room kk X.A) (tk:Takes X W) (hsl:PlainIx i) (hs:(e::es).all noStar=true) (hk:kwNames kws=some (ps.drop n)) (hlen:∀ρ st ds st1,fa ρ st=.ok ds st1→ds.length=n) (hlen2:∀ρ st ds st1,fk ρ st=.ok ds st1→ds.length=ps.length - n) (hi:SE X W i f false) (ha:SA X W (e::es) fa) (hkw:SK X W kws fk) :
  SE X W (.Call (.Subscript (.List names pl) i pq) (e::es) kws pos) (fun ρ=>M.bind (f ρ) fun d=>M.bind (fixM fs d) fun g=>M.bind (fa ρ) fun ds=>M.bind (fk ρ) fun zs=>callV false (gf g (ds++zs))) false:=by
 obtain⟨fas,l1,pn,hA⟩:=names_okK hl hfs
 have hs':=hs
 rw[List.all_cons] at hs'
 obtain⟨s1,s2⟩:=and3 hs'
 obtain⟨k1,k2,k3⟩:=kw_all (pos:=pos) (env:=X.env) hk
 have hpl:(backTo pos (starEach (e::es) X.env)).any (·.1)=false:=backTo_plain hs
 refine (pe_callXK (CX:=L2.CX X.prog X.w) (kk:=kk) (n:=n) (S:=fun v sp=>∃(j:Nat) (g:Str) (fb:Addr),fs[j]?=some g∧fas[j]?=some fb∧v=.ref fb∧sp=spF X.K ps.length (gf g)) (E:=fun σ=>WE W σ) rfl (pe_ix ix_seq (pe_lst pn) hi hsl) (fun v sp hS => ?_) hr (fun σ=>passAt tk σ) ha hkw k1 k2 (starEach_cons s1) (by rw[hpl,k3];rfl)).imp fun σ H Q h => ?_
 ·obtain⟨j,g,fb,e1,e2,rfl,rfl⟩:=hS
  obtain⟨fa',fd',gg',q1,q2,q3,q4⟩:=hA j g e1
  rw[e2] at q1
  cases q1
  exact⟨fb,fd',ps,gg',rfl,q4,q2,q3⟩
 ·obtain⟨ρ,m,st,er,rl,q⟩:=h
  refine⟨by rw[List.length_map,l1];exact Nat.le_trans hz (by decide),fun p hp => ?_⟩
  have f0:Fut m H m (L2.upd H p (.lst (fas.map V.ref))):=Fut.upd hp
  have r0:=rl.new (o:=.lst (fas.map V.ref)) hp
  replace q:Post (aV X.K false) X.K W σ m H (M.bind (f ρ) (fun d=>M.bind (fixM fs d) fun g=>M.bind (fa ρ) fun ds=>M.bind (fk ρ) fun zs=>callV false (gf g (ds++zs))) st) Q:=q
  refine⟨ρ,m,st,er.mono f0,r0,(q.later laterV f0 r0).bind laterV fun d v st1 m1 H1 f1 r1 av q1 => ?_⟩
  unfold M.bind at q1
  cases e1:fixM fs d st1 with
 |no=>rw[e1] at q1;exact q1.elim
 |ex x s=>unfold fixM at e1;(repeat' (split at e1)) <;> cases e1
 |ok g st2=>
   rw[e1] at q1
   unfold fixM at e1
   cases d with
  |int j=>
    simp only at e1
    split at e1
    ·rename_i hj
     have hj:=of_decide_eq_true hj
     cases e2:fs[j.toNat]? with
    |none=>rw[e2] at e1;cases e1
    |some g'=>
      rw[e2] at e1
      cases e1
      obtain⟨fb,fd',gg',a1,a2,a3,a4⟩:=hA j.toNat g e2
      cases av.1
      have hlt:j.toNat<fas.length:=(List.getElem?_eq_some_iff.mp a1).1
      have hq:H1 p=some (.lst (fas.map V.ref)):=f1.keep p _ (rl.fresh hp) upd_same
      refine .inl ⟨p,fas.map V.ref,j,.ref fb,rfl,rfl,.inl (.inl hq),?_,spF X.K ps.length (gf g),⟨j.toNat,g,fb,e2,a1,rfl,rfl⟩,ρ,m1,st1,(er.mono f0).mono f1,r1,?_⟩
      ·have z:=L2.atI_nat (xs:=fas.map V.ref) (j:=j.toNat) (v:=V.ref fb) (by rw[List.getElem?_map,a1];rfl)
       rw[Int.toNat_of_nonneg hj] at z
       exact z
      ·replace q1:Post (aV X.K false) X.K W σ m1 H1 (M.bind (fa ρ) (fun ds=>M.bind (fk ρ) fun zs=>callV false (gf g (ds++zs))) st1) Q:=q1
       cases e3:fa ρ st1 with
      |no=>rw[bindM_no e3] at q1;exact q1.elim
      |ex y st3=>rw[bindM_ex e3] at q1;exact q1
      |ok ds st3=>
        rw[bindM_ok e3] at q1
        intro vs m2 H2 f2 r2 av2
        have q2:=q1.later laterV f2 r2
        refine⟨ρ,m2,st3,((er.mono f0).mono f1).mono f2,r2,?_⟩
        cases e4:fk ρ st3 with
       |no=>rw[bindM_no e4] at q2;exact q2
       |ex y st4=>rw[bindM_ex e4] at q2;exact q2
       |ok zs st4=>
         rw[bindM_ok e4] at q2
         intro ws m3 H3 f3 r3 av3
         have h1:=hlen ρ st1 ds st3 e3
         have h2:=hlen2 ρ st3 zs st4 e4
         have v1:VRs X.K m2 H2 ds vs:=av2
         have v2:VRs X.K m3 H3 zs ws:=av3
         refine⟨by rw[←v1.length];exact h1,by rw[←v2.length,h2,List.length_drop],ds++zs,m3,st4,by rw[List.length_append];omega,r3,(v1.mono f3).append v2,callV_post r3 (q2.later laterV f3 r3)⟩
    ·cases e1
  |_=>cases e1
theorem kbn_dfl {K:PySem.W.Frag} {x qual:Str} {params:Arguments} {body:List Stmt} {scope:Scope} {dvs:List V} {kws:List (Str×V)} {f:Addr} {fd:FuncData} {ps:List Str} (F:FunD K x qual params body scope dvs kws f fd) (n:Nat) (ks:List Str) (hd:dvs≠[])
  (h:∀(T:Addr) (kV doc pm:Value) (an:Option Addr) (cdv ct:Value) (us its ws:List Value),us.length=n→its.length=dvs.length→ws.length=ks.length →
   ∃k,bindArgs (PySem.W.fnOf x qual params body scope (.ref T) kV doc pm an cdv ct) ⟨us,ks.zip ws⟩=seqItems? (.ref T) >>= k∧k (some its.toArray)=pure (ps.zip (us++ws))):KBn K fd ps n ks (fun us ws=>us++ws) (fun vs zs=>vs++zs):=by
 obtain⟨oc,od,dV,kV,doc,pm,an,cdv,ct,osl,rfl,lk,hcd,hD,hK⟩:=F.ex
 rcases hD with ⟨e,_⟩|⟨_,T,o,its,m,rfl,lT,oT,rT⟩
 ·exact absurd e hd
 ·refine⟨fun s us ws X l1 l2 => ?_,fun r1 r2=>r1.append r2⟩
  obtain⟨k,e1,e2⟩:=h T kV doc pm an cdv ct us its ws l1 rT.length.symm l2
  refine BindsTo.of_looks fun M => ?_
  rw[e1]
  exact looks_items X lT oT (.of_pure e2)
end
end Dn
namespace Dn
open PySem L2 PyProof.Rows
section
variable {K:PySem.W.Frag} {m:List Addr} {H:Hp}
theorem kvr_zk:∀{r:List (Ky×D)} {t:List (Key×V)},KVR K m H r t→∃us,t=zk r us∧VRs K m H (r.map (·.2)) us
|_,_,.nil=>⟨[],rfl,.nil⟩
|_,_,.cons (k:=k) (v:=v) a b=>by
  obtain⟨us,e,y⟩:=kvr_zk b
  exact⟨v::us,by rw[e];rfl,.cons a y⟩
theorem upd_comm' {a b:Addr} {o u:HO} (h:a≠b):L2.upd (L2.upd H a o) b u=L2.upd (L2.upd H b u) a o:=by
 funext c
 unfold L2.upd
 by_cases c1:c=a
 ·subst c1
  simp[h]
 ·by_cases c2:c=b
  ·subst c2
   simp[c1]
  ·simp[c1,c2]
theorem upd_back {a:Addr} {o u:HO} (h:H a=some o):L2.upd (L2.upd H a u) a o=H:=by
 funext c
 unfold L2.upd
 by_cases c1:c=a
 ·rw[if_pos c1,c1,h]
 ·rw[if_neg c1,if_neg c1]
end
section
variable {X:Cx} {W:WX} {a:Expr} {f:Env→M D} {pos:Pos}
theorem se_dof {p q:Pos} (hc:X.calm=true) (hg:Gl X "dict") (hm:X.mg "dict"=none) (hs:noStar a=true) (ha:SE X W a f false) :
  SE X W (.Call (.Name "dict" p) [a] [] q) (fun ρ=>M.bind (f ρ) fun x=>M.bind (orNo (pairsD x)) fun kvs=>push (.dic (mergeD [] kvs))) false:=by
 refine (pe_callTy (DnD.call_dictN hc) hg hm boot_dict (pa_cons ha pa_nil (starEach_cons hs)) (by decide) (by decide) (starEach_cons hs)).imp fun σ H Q h => ?_
 refine rd_bind laterV h fun ρ x u st1 m m1 H1 f1 r1 er vx p => ?_
 cases hx:pairsD x with
|none=>rw[hx] at p;exact (p:False).elim
|some kvs=>
  rw[hx] at p
  have p:Post (aV X.K false) X.K W σ m1 H1 (push (.dic (mergeD [] kvs)) st1) Q:=p
  match x,hx,vx with
 |.tup ds,hx,vx=>
   obtain⟨ad,vs,rfl,sn,y⟩:=tupN vx.1
   obtain⟨ps,kvs',rfl,e2,e3⟩:=pairs_ok y hx
   refine⟨ad,ps,kvs',rfl,sn,e2,fun q hq => ?_⟩
   obtain⟨us,e4,y4⟩:=kvr_zk e3
   obtain⟨vs',e5,y5⟩:=zmerge y4 (kvs:=[]) (vs:=[]) .nil
   rw[e4]
   have e5:mergeK [] (zk kvs us)=zk (mergeD [] kvs) vs':=e5
   rw[e5]
   have f2:Fut m1 H1 (m1++[q]) (L2.upd H1 q (.dK (zk (mergeD [] kvs) vs'))):=Fut.push hq fun a u _ e=>by rw[upd_ne (ne_of_none e hq)];exact e
   have r2:Rl X.K (m1++[q]) (L2.upd H1 q (.dK (zk (mergeD [] kvs) vs'))) (st1++[.dic (mergeD [] kvs)]):=r1.push (o:=.dic (mergeD [] kvs)) (vs:=vs') hq (show L2.upd H1 q (.dK (zk (mergeD [] kvs) vs')) q=some (.dK (zk (mergeD [] kvs) vs')) from upd_same) (y5.mono f2) f2 fun a ha=>upd_ne fun z=>r1.fresh hq (z ▸ ha)
   exact p (.ref q) _ _ f2 r2 ⟨.ref (by rw[←r1.len,List.getElem?_append_right (Nat.le_refl _),Nat.sub_self];rfl),fun z=>nomatch z⟩
end
section
variable {X:Cx} {W:WX}
theorem ss_wear {ip il im:Nat} {p l y:Str} {c:Expr} {n:Int} {pos q1 q2 q3 q4 q5 q6 q7 q8 q9 q10 q11 q12 q13 q14:Pos} (hpo:PassesOwn (model X.prog X.w) X.A X.env X.xe) (hc:X.calm=true) (hu:X.A.units+1<cLine) (hN:X.N.Nodup)
  (hip:X.N[ip]?=some p) (hil:X.N[il]?=some l) (him:X.N[im]?=some y) (vp:Vis X.env.scope p) (vl:Vis X.env.scope l) (vm:Vis X.env.scope y)
  (dp:(p == ("__debug__":Str))=false∧(p == ("__classdict__":Str))=false) (dl:(l == ("__debug__":Str))=false∧(l == ("__classdict__":Str))=false) (dm:(y == ("__debug__":Str))=false∧(y == ("__classdict__":Str))=false)
  (lp:Loc X.env.scope p) (fp:X.fn p=true∨X.env.scope.names.lookup p=some .local) (hcE:PE X c (tC (.int n)))
  (hsw:swapsWithSole [.Subscript (.Name l q3) (.Name p q4) q5] (.BinOp (.Subscript (.Name l q6) (.Name p q7) q8) .BitAnd (.BinOp c .Sub (.Subscript (.Name y q9) (.Name p q10) q11) q12) q13) q14.line X.env=pure false)
  (hs:∀x,foldedSetIterable (.Name y q2) X.env x=pure x) :
  SS X W (.For (.Name p q1) (.Name y q2) [.Assign [.Subscript (.Name l q3) (.Name p q4) q5] (.BinOp (.Subscript (.Name l q6) (.Name p q7) q8) .BitAnd (.BinOp c .Sub (.Subscript (.Name y q9) (.Name p q10) q11) q12) q13) q14] [] pos) (wearX ip il im n):=by
 have bodyPS:=pss_one (ps_asg (pos:=q14) (pe_op (pos:=q13) op_and (pe_ix (pos:=q8) ix_list (pe_var (pos:=q6) hil vl dl.1 dl.2) (pe_var (pos:=q7) hip vp dp.1 dp.2) (fun _ _=>rfl)) (pe_op (pos:=q12) op_sub hcE (pe_dget (pos:=q11) hu (pe_var (pos:=q9) him vm dm.1 dm.2) (pe_var (pos:=q10) hip vp dp.1 dp.2) (fun _ _=>rfl))))
  (pg_sub (pos:=q5) (pe_var (pos:=q3) hil vl dl.1 dl.2) (pe_var (pos:=q4) hip vp dp.1 dp.2) set_list) hsw rfl)
 refine (ps_lock (ps_for (pos:=pos) hpo hc (pi_keys (pe_var (pos:=q2) him vm dm.1 dm.2)) (pg_name (pos:=q1) hN hip lp fp) bodyPS hs)).imp fun D σ H h => ?_
 obtain⟨ρ,m,st,er,rl,h⟩:=h
 unfold wearX at h
 cases ea:ρ[il]?.join with
|none=>rw[ea] at h;exact h.elim
|some da=>
 cases eb:ρ[im]?.join with
|none=>rw[ea,eb] at h;cases da <;> exact h.elim
|some db=>
 rw[ea,eb] at h
 cases da with
|ref na=>
  cases db with
 |ref nb=>
   simp only at h
   cases sa:st[na]? with
  |none=>rw[sa] at h;exact h.elim
  |some oa=>
   cases sb:st[nb]? with
  |none=>rw[sa,sb] at h;cases oa <;> exact h.elim
  |some ob=>
   rw[sa,sb] at h
   cases oa with
  |lst xs0=>
    cases ob with
   |dic kvs=>
     simp only at h
     cases hw0:wearL n kvs kvs xs0 with
    |none=>rw[hw0] at h;exact h.elim
    |some ys=>
      rw[hw0] at h
      simp only at h
      by_cases g:(decide (ip<ρ.length)&&(decide (ip≠il)&&decide (ip≠im)))=true
      ·rw[if_pos g] at h
       obtain⟨g1,g⟩:=and3 g
       obtain⟨g2,g3⟩:=and3 g
       have g1:=of_decide_eq_true g1
       have g2:=of_decide_eq_true g2
       have g3:=of_decide_eq_true g3
       have ea':ρ[il]?=some (some (.ref na)):=by
        cases e:ρ[il]? with
       |none=>rw[e] at ea;cases ea
       |some z=>rw[e] at ea;exact congrArg some ea
       have eb':ρ[im]?=some (some (.ref nb)):=by
        cases e:ρ[im]? with
       |none=>rw[e] at eb;cases eb
       |some z=>rw[e] at eb;exact congrArg some eb
       obtain⟨va,sga,ra⟩:=er.at_ il _ ea'
       obtain⟨vb,sgb,rb⟩:=er.at_ im _ eb'
       cases ra with
      |@ref _ aL ma=>
       cases rb with
      |@ref _ aM mb=>
       obtain⟨vs0,hL,yL⟩:=rl.get ma sa
       obtain⟨ws,hM,yM⟩:=rl.ob nb aM _ mb sb
       have hM:H aM=some (.dK (zk kvs ws)):=hM
       have yM:VRs X.K m H (kvs.map (·.2)) ws:=yM
       have hne:aL≠aM:=fun z=>by rw[z,hM] at hL;cases hL
       have zl:(zk kvs ws).length=kvs.length:=by
        have:=yM.length
        rw[List.length_map] at this
        rw[List.length_zip,List.length_map]
        omega
       refine⟨aM,.dK (zk kvs ws),hM,trivial,fun od => ?_⟩
       refine⟨.ref aM,sgb,aM,od,rfl,.inl ⟨zk kvs ws,upd_same,?_⟩⟩
       refine⟨fun i k σ' H'=>k=kvs.length - i∧i≤kvs.length∧H' aM=some (.frz od (.dK (zk kvs ws)))∧∃xs ρ',Fut m H m (L2.upd H' aM (.dK (zk kvs ws)))∧ER X.K m (L2.upd H' aM (.dK (zk kvs ws))) ρ' σ'∧Rl X.K m (L2.upd H' aM (.dK (zk kvs ws))) (st.set na (.lst xs)) ∧
        wearL n kvs (kvs.drop i) xs=some ys∧lastP ip (kvs.drop i) ρ'=lastP ip kvs ρ∧ρ'[il]?=some (some (.ref na))∧ρ'[im]?=some (some (.ref nb))∧ρ'.length=ρ.length,⟨_,rfl,Nat.zero_le _,upd_same,xs0,ρ,?_⟩,?_⟩
       ·rw[upd_back hM]
        have:st.set na (.lst xs0)=st:=by
         apply List.ext_getElem?
         intro j
         rw[List.getElem?_set]
         split
         ·rename_i q
          subst q
          rw[sa]
          split
          ·rfl
          ·rename_i q
           exact absurd (List.getElem?_eq_some_iff.mp sa).1 q
         ·rfl
        rw[this]
        exact⟨.refl,er,rl,hw0,rfl,ea',eb',rfl⟩
       ·rintro i k σ' H' ⟨rfl,hi,hfz,xs,ρ',f',er',rl',hw,hlast,ea2,eb2,el2⟩
        obtain⟨va2,sga2,ra2⟩:=er'.at_ il _ ea2
        obtain⟨vb2,sgb2,rb2⟩:=er'.at_ im _ eb2
        cases ra2 with
       |@ref _ aL2 ma2=>
        cases rb2 with
       |@ref _ aM2 mb2=>
        rw[ma] at ma2
        rw[mb] at mb2
        cases ma2
        cases mb2
        by_cases hl:i<kvs.length
        ·rw[List.drop_eq_getElem_cons hl] at hw hlast
         have hz:(zk kvs ws)[i]?=some (kyR kvs[i].1,(zk kvs ws)[i].2):=by
          rw[List.getElem?_eq_getElem (by omega)]
          simp[zk]
         generalize kvs[i]=hd at hw hlast hz
         obtain⟨ky,dv⟩:=hd
         cases ky with
        |inr _=>rw[wearL] at hw;cases hw
        |inl k=>
          rw[wearL] at hw
          cases hvd:valD kvs (.inl k) with
         |none=>rw[hvd] at hw;cases hw
         |some dw=>
          cases hj:Dn.ixN xs.length k with
         |none=>rw[hvd,hj] at hw;cases dw <;> cases hw
         |some j=>
          rw[hvd,hj] at hw
          cases dw with
         |int w=>
           simp only at hw
           cases hx:xs[j]? with
          |none=>rw[hx] at hw;cases hw
          |some dx=>
           rw[hx] at hw
           cases dx with
          |int x=>
            simp only at hw
            by_cases gx:(decide (0≤x)&&decide (0≤n - w))=true
            ·rw[if_pos gx] at hw
             obtain⟨gx1,gx2⟩:=and3 gx
             have gx1:=of_decide_eq_true gx1
             have gx2:=of_decide_eq_true gx2
             rw[lastP] at hlast
             refine .inr ⟨⟨hfz,by rw[zl];exact hl⟩,_,fun σ2 H2 hN2=>⟨kvs.length - (i+1),by omega,rfl,hl,hN2⟩,fun v H2 hy => ?_⟩
             obtain⟨hH2,kk,vv,hkv,rfl⟩:=hy
             obtain rfl:H'=H2:=hH2.symm
             rw[hz] at hkv
             cases hkv
             have il':ip<σ'.length:=by rw[←er'.len,el2];exact g1
             have sp:∀v,(σ'.set ip (some v))[ip]?=some (some v):=fun v=>List.getElem?_set_self il'
             have sl:∀v,(σ'.set ip (some v))[il]?=some (some (.ref aL)):=fun v=>by rw[List.getElem?_set_ne g2];exact sga2
             have sm:∀v,(σ'.set ip (some v))[im]?=some (some (.ref aM)):=fun v=>by rw[List.getElem?_set_ne g3];exact sgb2
             obtain⟨vs,hL2,yL2⟩:=rl'.get ma (List.getElem?_set_self (List.getElem?_eq_some_iff.mp sa).1)
             have hL3:H' aL=some (.lst vs):=by rw[upd_ne hne] at hL2;exact hL2
             obtain⟨vx,evx,rvx⟩:=yL2.get hx
             cases rvx
             have hjv:L2.ixN vs.length k=some j:=by rw[←yL2.length,←ixN_eq];exact hj
             have hat:L2.atI vs k=some (.int x):=by
              unfold L2.atI
              rw[hjv]
              exact evx
             have zv:=zval (k:=.inl k) yM
             rw[hvd] at zv
             obtain⟨vw,zv1,zv2⟩:=zv
             cases zv2
             show tAsg _ _ _ (σ'.set ip (some (.int k))) H'
             refine⟨.ref aL,sl _,.int k,sp _,aL,vs,k,.int x,rfl,rfl,.inl (.inl hL3),hat,?_⟩
             refine⟨.ref aM,sm _,.int k,sp _,aM,.int w,rfl,.inl ⟨zk kvs ws,.inl k,.inr ⟨od,hfz⟩,rfl,zv1.symm⟩,?_⟩
             refine⟨n,w,rfl,rfl,x,n - w,rfl,rfl,?_⟩
             refine⟨.ref aL,sl _,.int k,sp _,aL,vs,k,j,rfl,rfl,hL3,hjv,?_⟩
             dsimp only
             rw[PyProof.Rows.bitAnd_pp gx1 gx2]
             have hu1:L2.upd (L2.upd H' aL (.lst (vs.set j (.int ((x.toNat&&&(n - w).toNat:Nat):Int))))) aM (.dK (zk kvs ws))=L2.upd (L2.upd H' aM (.dK (zk kvs ws))) aL (.lst (vs.set j (.int ((x.toNat&&&(n - w).toNat:Nat):Int)))):=upd_comm' hne
             refine⟨by rw[upd_ne (Ne.symm hne)];exact hfz,xs.set j (.int ((x.toNat&&&(n - w).toNat:Nat):Int)),ρ'.set ip (some (.int k)),?_,?_,?_,hw,hlast,?_,?_,by rw[List.length_set];exact el2⟩
             ·rw[hu1];exact f'.trans (Fut.set ma)
             ·rw[hu1];exact (er'.mono (Fut.set ma)).set ip (.int _)
             ·rw[hu1]
              have:=rl'.set ma (yL2.set (VR.int ((x.toNat&&&(n - w).toNat:Nat):Int)) j)
              rwa [List.set_set] at this
             ·rw[List.getElem?_set_ne g2];exact ea2
             ·rw[List.getElem?_set_ne g3];exact eb2
            ·rw[if_neg gx] at hw;cases hw
          |_=>cases hw
         |_=>cases hw
        ·have e:i=kvs.length:=by omega
         subst e
         rw[List.drop_length,wearL] at hw
         rw[List.drop_length,lastP] at hlast
         cases hw
         refine .inl ⟨⟨hfz,by rw[zl];exact Nat.le_refl _⟩,hfz,?_⟩
         rw[←hlast] at h
         exact h σ' m _ f' er' rl'
      ·rw[if_neg g] at h;exact h.elim
   |_=>exact h.elim
  |_=>cases ob <;> exact h.elim
 |_=>exact h.elim
|_=>cases db <;> exact h.elim
end
end Dn
namespace Dn
open PySem L2 PyProof.Rows
section
variable {X:Cx} {CX:CXT} {k:Nat} {f C:Addr} {fd:FuncData} {ps:List Str} {sp:Sp} {E:L2.St→XK} {x m:Str} {p pos apos:Pos} {e o:Expr} {es:List Expr} {ta:TE} {t:TA}
theorem run_makeS {pins:List (Addr×Obj)} {σ:L2.St} {H:Hp} {s:Shared} {Q:VK} {us:List Value} {vs:List V} (M:Mk X.K C f) (F:FnOk X.prog X.w X.K X.mg X.base CX k f fd ps sp) (hr:Room (k+1) X.A) (hb:Binds X.K fd ps [])
  (hx:PassesAt CX X σ (E σ)) (I:Inv X pins σ H s) (r:Vals vs us)
  (h:∀x dx,H x=none→H dx=none→dx≠x→sp (.ref x::vs) (upd (upd H dx (.own x)) x (.ins C dx [])) (fun v H2=>v=.non∧Q (.ref x) H2) (E σ)) :
  wpAny (model X.prog X.w) X.A (call (.ref C) us) (EP X pins σ Q) X.xe s:=by
 have hq:=h (s.heap.objs.size+1) s.heap.objs.size (I.hok.fresh (Nat.le_succ _)) (I.hok.fresh (Nat.le_refl _)) (Nat.ne_of_lt (Nat.lt_succ_self _))
 have I2:=Inv.made (C:=C) I
 have r2:Vals (V.ref (s.heap.objs.size+1)::vs) (Value.ref (s.heap.objs.size+1)::us):=.cons rfl r
 have hl:(Value.ref (s.heap.objs.size+1)::us).length=ps.length:=by
  have e:=r2.length
  rw[F.len _ _ _ _ hq] at e
  exact e.symm
 have hb2:=hb {s with heap:=(s.heap.push PySem.W.emptyDict).push (PySem.W.instObj C s.heap.objs.size)} (Value.ref (s.heap.objs.size+1)::us) I2.kIn (by rw[List.append_nil];exact hl)
 rw[List.append_nil] at hb2
 refine wpAny_call (make_map (f:=f) I.kIn M.makes M.init (beq_iff_eq.mp M.fn) (codeAny_mono (F.run _ X.stack _ _ ⟨Value.ref (s.heap.objs.size+1)::us,[]⟩ (Value.ref (s.heap.objs.size+1)::us) _ _ (E σ) (hr.make C us [])
  (I2.env0.make C us []) hb2 r2 hq) fun r s' hq' => ?_))
 cases r with
|error e=>exact hx pins _ _ e s' I2 hq'
|ok fl=>
  cases fl with
 |ret u=>
   obtain⟨v,H',I3,rv,ev,q3⟩:=I2.after hq'
   subst ev
   exact⟨rv,⟨V.ref (s.heap.objs.size+1),H',I3,rfl,q3⟩⟩
 |next=>exact False.elim hq'
 |brk=>exact False.elim hq'
 |cont=>exact False.elim hq'
def tMakeS (C:Addr) (sp:Sp) (E:L2.St→XK) (t:TA):TE:=fun σ H Q=>t σ H fun vs H1=>∀x dx,H1 x=none→H1 dx=none→dx≠x →
 sp (.ref x::vs) (upd (upd H1 dx (.own x)) x (.ins C dx [])) (fun v H2=>v=.non∧Q (.ref x) H2) (E σ)
theorem pe_makeS (M:Mk X.K C f) (F:FnOk X.prog X.w X.K X.mg X.base CX k f fd ps sp) (hr:Room (k+1) X.A) (hg:Gl X x) (hm:X.mg x=some (.ref C)) (hb:Binds X.K fd ps []) (hx:∀σ,PassesAt CX X σ (E σ))
  (ha:PA X (e::es) t) (hdb:(x == ("__debug__":Str))=false) (he:starEach (e::es) X.env=(false,eval e X.env)::starEach es X.env) (hpl:(backTo pos (starEach es X.env)).any (·.1)=false) :
  PE X (.Call (.Name x p) (e::es) [] pos) (tMakeS C sp E t):=by
 refine⟨fun pins s σ H Q I h => ?_⟩
 refine wpAny_Call_Name_kw (ld_glob I hg hm ?_ hdb)
 refine PySem.W.callWith_K (h₀:=X.base) I.ok.mod.kin M.kp (thn (ha.run pos pins s σ H _ I h) fun us s1 ⟨vs,H1,I1,r,q⟩=>⟨I1.kIn,?_⟩) he hpl
 exact run_makeS M F hr hb (hx σ) I1 r q
theorem pe_makeS0 (M:Mk X.K C f) (F:FnOk X.prog X.w X.K X.mg X.base CX k f fd ps sp) (hr:Room (k+1) X.A) (hg:Gl X x) (hm:X.mg x=some (.ref C)) (hb:Binds X.K fd ps []) (hx:∀σ,PassesAt CX X σ (E σ)) (hdb:(x == ("__debug__":Str))=false) :
  PE X (.Call (.Name x p) [] [] pos) (tMakeS C sp E tNil):=by
 refine⟨fun pins s σ H Q I h => ?_⟩
 refine wpAny_Call_Name_kw (ld_glob I hg hm ?_ hdb)
 exact PySem.W.callWith_K0 I.kIn M.kp (run_makeS (us:=[]) M F hr hb (hx σ) I .nil h)
theorem pe_callS0 (F:FnOk X.prog X.w X.K X.mg X.base CX k f fd ps sp) (hr:Room k X.A) (hg:Gl X x) (hm:X.mg x=some (.ref f)) (hk:PySem.W.keepIn X.K (.ref f)=true) (hb:Binds X.K fd ps []) (hx:∀σ,PassesAt CX X σ (E σ)) (hdb:(x == ("__debug__":Str))=false) :
  PE X (.Call (.Name x p) [] [] pos) (tCallS sp E tNil):=by
 refine⟨fun pins s σ H Q I h => ?_⟩
 refine wpAny_Call_Name_kw (ld_glob I hg hm ?_ hdb)
 exact PySem.W.callWith_K0 I.kIn hk (run_fnS (us:=[]) F hr hb (hx σ) I .nil h)
def tMethS (C:Addr) (m:Str) (sp:Sp) (E:L2.St→XK) (ta:TE) (t:TA):TE:=fun σ H Q=>ta σ H fun x H1=>∃a dx fs,x=.ref a∧H1 a=some (.ins C dx fs)∧fs.lookup m=none∧t σ H1 fun vs H2=>sp (x::vs) H2 Q (E σ)
theorem pe_methS {pl:Sem Bool} (he:PE X o ta) (c:Cls X.K C) (hm:Meth X.K C m f) (F:FnOk X.prog X.w X.K X.mg X.base CX k f fd ps sp) (hr:Room k X.A) (hb:Binds X.K fd ps []) (hx:∀σ,PassesAt CX X σ (E σ)) (ha:PA X (e::es) t)
  (hst:starEach (e::es) X.env=(false,eval e X.env)::starEach es X.env) (hpl:(backTo pos (starEach es X.env)).any (·.1)=false)
  (ht:eval (.Call (.Attribute o m apos) (e::es) [] pos) X.env=(do
   let ov ←eval o X.env
   standAt apos.atName
   let (f,first) ←holding [ov] (getMethod ov m pl)
   callWith pos f first (backTo pos (starEach (e::es) X.env)) (backToKw pos (keywordEach [] X.env)))) :
  PE X (.Call (.Attribute o m apos) (e::es) [] pos) (tMethS C m sp E ta t):=by
 refine⟨fun pins s σ H Q I h => ?_⟩
 refine PySem.W.methodCall_KW (pl:=pl) (thn (he.run pins s σ H _ I h) fun u s1 ⟨x,H1,I1,rx,a,dx,fs,ex,ea,l,q⟩ => ?_) ht
 subst ex
 obtain rfl:u=Value.ref a:=rx
 refine getmeth_ok I1 ea c hm l ?_
 refine PySem.W.callWith_K (first:=[.ref a]) (h₀:=X.base) I.ok.mod.kin hm.kp (thn (ha.run pos pins s1 σ H1 _ I1 q) fun us s2 ⟨vs,H2,I2,r,q2⟩=>⟨I2.kIn,?_⟩) hst hpl
 exact run_fnS (us:=.ref a::us) (vs:=.ref a::vs) F hr hb (hx σ) I2 (.cons rfl r) q2
theorem pe_methS0 {pl:Sem Bool} (he:PE X o ta) (c:Cls X.K C) (hm:Meth X.K C m f) (F:FnOk X.prog X.w X.K X.mg X.base CX k f fd ps sp) (hr:Room k X.A) (hb:Binds X.K fd ps []) (hx:∀σ,PassesAt CX X σ (E σ))
  (ht:eval (.Call (.Attribute o m apos) [] [] pos) X.env=(do
   let ov ←eval o X.env
   standAt apos.atName
   let (f,first) ←holding [ov] (getMethod ov m pl)
   callWith pos f first (backTo pos (starEach [] X.env)) (backToKw pos (keywordEach [] X.env)))) :
  PE X (.Call (.Attribute o m apos) [] [] pos) (tMethS C m sp E ta tNil):=by
 refine⟨fun pins s σ H Q I h => ?_⟩
 refine PySem.W.methodCall_KW (pl:=pl) (thn (he.run pins s σ H _ I h) fun u s1 ⟨x,H1,I1,rx,a,dx,fs,ex,ea,l,q⟩ => ?_) ht
 subst ex
 obtain rfl:u=Value.ref a:=rx
 refine getmeth_ok I1 ea c hm l ?_
 exact PySem.W.callWith_K0 (first:=[.ref a]) I1.kIn hm.kp (run_fnS (us:=[.ref a]) (vs:=[.ref a]) F hr hb (hx σ) I1 (.cons rfl .nil) q)
end
theorem meth_tree {o:Expr} {m:Str} {apos pos:Pos} {args:List Expr} {env:PySem.Env} (hb:attributeBase o m env (eval o env)=eval o env) (hline:(apos.endLine == pos.line)=true) (hs:args.all noStar=true) (hl:args.length<29) :
  eval (.Call (.Attribute o m apos) args [] pos) env=(do
   let ov ←eval o env
   standAt apos.atName
   let (f,first) ←holding [ov] (getMethod ov m (do return (←importBound o env).getD true))
   callWith pos f first (backTo pos (starEach args env)) (backToKw pos (keywordEach [] env))):=by
 rw[arm_eval_Call,hb]
 have hform:methodCallForm (args.length+([]:List Keyword).length) (backTo pos (starEach args env)) (backToKw pos (keywordEach [] env))=true:=by
  unfold methodCallForm
  have e:=backTo_all (pos:=pos) (env:=env) hs
  rw[e]
  show (true&&true&&decide (args.length+0+0<30))=true
  rw[decide_eq_true (by omega)] <;> rfl
 unfold methodCall
 rw[hform]
 have hpos:methodCallPos true o env apos pos=pure pos:=by unfold methodCallPos;simp[hline]
 rw[hpos]
 unfold calleeOf
 simp only[if_true] <;> rfl
section
variable {X:Cx} {W:WX} {e o:Expr} {es:List Expr} {f:Env→M D} {fa:Env→M (List D)} {pos p apos:Pos} {x m:Str} {kk np:Nat} {gf:List D→M D}
structure MKL (X:Cx) (k:Nat) (c:Str) (np:Nat) (g:List D→M D):Prop where
 ex:∃(C fa:Addr) (fd:FuncData) (ps:List Str),PySem.W.nsIn X.K mainGlobals c=some (some (.ref C))∧X.mg c=some (.ref C)∧ps.length=np∧Mk X.K C fa∧Binds X.K fd ps []∧FnOk X.prog X.w X.K X.mg X.base (L2.CX X.prog X.w) k fa fd ps (spF X.K np g)
structure ML (X:Cx) (k:Nat) (c m:Str) (np:Nat) (g:List D→M D):Prop where
 ex:∃(C fa:Addr) (fd:FuncData) (ps:List Str),PySem.W.nsIn X.K mainGlobals c=some (some (.ref C))∧Cls X.K C∧Meth X.K C m fa∧ps.length=np∧Binds X.K fd ps []∧FnOk X.prog X.w X.K X.mg X.base (L2.CX X.prog X.w) k fa fd ps (spF X.K np g)
theorem new_post {K:PySem.W.Frag} {σ:L2.St} {m1:List Addr} {H1:Hp} {st1:Sto} {c:Str} {C:Addr} {ds:List D} {vs:List V} {Q:VK} (hc:PySem.W.nsIn K mainGlobals c=some (some (.ref C))) (hl:ds.length+1=np) (r1:Rl K m1 H1 st1) (av:VRs K m1 H1 ds vs)
  (q:Post (aV K false) K W σ m1 H1 (newM c (fun x=>gf (x::ds)) st1) Q) {x dx:Addr} (hx:H1 x=none) (hdx:H1 dx=none) (hne:dx≠x) :
  spF K np gf (.ref x::vs) (upd (upd H1 dx (.own x)) x (.ins C dx [])) (fun v H2=>v=.non∧Q (.ref x) H2) (fun c d H=>W c d σ H):=by
 have hk:∀a u,a ∉ m1→H1 a=some u→upd (upd H1 dx (.own x)) x (.ins C dx []) a=some u:=fun a u _ ea=>by
  rw[upd_ne (ne_of_none ea hx),upd_ne (ne_of_none ea hdx)];exact ea
 have hf:Fut m1 H1 (m1++[x]) (upd (upd H1 dx (.own x)) x (.ins C dx [])):=Fut.push hx hk
 have nx:=r1.fresh hx
 have ndx:=r1.fresh hdx
 have hr:Rl K (m1++[x]) (upd (upd H1 dx (.own x)) x (.ins C dx [])) (st1++[.ins c []]):=by
  refine r1.push (o:=.ins c []) (vs:=[]) hx ⟨C,dx,hc,upd_same,?_,?_⟩ .nil hf fun a ha => ?_
  ·rw[upd_ne hne,upd_same]
  ·intro z
   rcases List.mem_append.mp z with z|z
   ·exact ndx z
   ·simp at z;exact hne z
  ·rw[upd_ne (fun z=>nx (by rw[←z];exact ha)),upd_ne (fun z=>ndx (by rw[←z];exact ha))]
 refine⟨.ref st1.length::ds,m1++[x],st1++[.ins c []],by rw[List.length_cons];exact hl,hr,.cons (.ref ?_) (av.mono hf),?_⟩
 ·rw[←r1.len,List.getElem?_append_right (Nat.le_refl _),Nat.sub_self] <;> rfl
 ·unfold newM at q
  simp only at q
  cases e1:gf (.ref st1.length::ds) (st1++[.ins c []]) with
 |no=>rw[e1] at q;exact q
 |ex y st2=>rw[e1] at q;exact fun cls dd m' H' f' r' xr=>q cls dd m' H' (hf.trans f') r' xr
 |ok d st2=>
   rw[e1] at q
   cases d with
  |non=>
    intro b m' H' f' r' ab
    cases ab.1
    refine⟨rfl,q (.ref x) m' H' (hf.trans f') r' ⟨.ref ?_,fun z=>nomatch z⟩⟩
    refine f'.at_ ?_
    rw[←r1.len,List.getElem?_append_right (Nat.le_refl _),Nat.sub_self] <;> rfl
  |_=>exact q.elim
theorem se_new {c:Str} (F:MKL X kk c np gf) (hr:Room (kk+1) X.A) (tk:Takes X W) (hg:Gl X c) (hdb:(c == ("__debug__":Str))=false) (hs:(e::es).all noStar=true) (hlen:∀ρ st ds st1,fa ρ st=.ok ds st1→ds.length+1=np) (ha:SA X W (e::es) fa) :
  SE X W (.Call (.Name c p) (e::es) [] pos) (fun ρ=>M.bind (fa ρ) fun ds=>newM c fun x=>gf (x::ds)) false:=by
 obtain⟨C,fad,fd,ps,hc,hm,hps,hmk,hb,F⟩:=F.ex
 rw[List.all_cons] at hs
 obtain⟨s1,s2⟩:=and3 hs
 refine (pe_makeS hmk F hr hg hm hb (fun σ=>passAt tk σ) ha hdb (starEach_cons s1) (backTo_plain s2)).imp fun σ H Q h => ?_
 obtain⟨ρ,m,st,er,rl,q⟩:=h
 refine⟨ρ,m,st,er,rl,?_⟩
 have q:Post (aV X.K false) X.K W σ m H (M.bind (fa ρ) (fun ds=>newM c fun x=>gf (x::ds)) st) Q:=q
 cases e1:fa ρ st with
|no=>rw[bindM_no e1] at q;exact q
|ex y st1=>rw[bindM_ex e1] at q;exact q
|ok ds st1=>
  rw[bindM_ok e1] at q
  intro vs m1 H1 f1 r1 av x dx hx hdx hne
  exact new_post hc (hlen ρ st ds st1 e1) r1 av (q.later laterV f1 r1) hx hdx hne
theorem se_new0 {c:Str} (F:MKL X kk c np gf) (hr:Room (kk+1) X.A) (tk:Takes X W) (hg:Gl X c) (hdb:(c == ("__debug__":Str))=false) (hn:1=np) :
  SE X W (.Call (.Name c p) [] [] pos) (fun ρ=>M.bind (M.pure []) fun ds=>newM c fun x=>gf (x::ds)) false:=by
 obtain⟨C,fad,fd,ps,hc,hm,hps,hmk,hb,F⟩:=F.ex
 refine (pe_makeS0 hmk F hr hg hm hb (fun σ=>passAt tk σ) hdb).imp fun σ H Q h => ?_
 obtain⟨ρ,m,st,er,rl,q⟩:=h
 intro x dx hx hdx hne
 exact new_post (ds:=[]) hc hn rl .nil q hx hdx hne
theorem se_call0 (F:FL X kk x np gf) (hr:Room kk X.A) (tk:Takes X W) (hg:Gl X x) (hdb:(x == ("__debug__":Str))=false) (hn:0=np) :
  SE X W (.Call (.Name x p) [] [] pos) (fun ρ=>M.bind (M.pure []) fun ds=>callV false (gf ds)) false:=by
 obtain⟨fad,fd,ps,hps,hm,hk,hb,F⟩:=F.ex
 refine (pe_callS0 F hr hg hm hk hb (fun σ=>passAt tk σ) hdb).imp fun σ H Q h => ?_
 obtain⟨ρ,m,st,er,rl,q⟩:=h
 exact⟨[],m,st,hn,rl,.nil,callV_post rl q⟩
theorem se_call0B (F:FL X kk x np gf) (hr:Room kk X.A) (tk:Takes X W) (hg:Gl X x) (hdb:(x == ("__debug__":Str))=false) (hn:0=np) :
  SE X W (.Call (.Name x p) [] [] pos) (fun ρ=>M.bind (M.pure []) fun ds=>callV true (gf ds)) true:=by
 obtain⟨fad,fd,ps,hps,hm,hk,hb,F⟩:=F.ex
 refine (pe_callS0 F hr hg hm hk hb (fun σ=>passAt tk σ) hdb).imp fun σ H Q h => ?_
 obtain⟨ρ,m,st,er,rl,q⟩:=h
 exact⟨[],m,st,hn,rl,.nil,callV_post rl q⟩
theorem rd_mono {α β:Type} {A:Rel α β} {K:PySem.W.Frag} {g:Env→M α} {σ:L2.St} {H:Hp} {Q Q':β→Hp→Prop} (h:rd A K W g σ H Q) (hi:∀b H,Q b H→Q' b H):rd A K W g σ H Q':=by
 obtain⟨ρ,m,st,er,rl,p⟩:=h
 refine⟨ρ,m,st,er,rl,?_⟩
 cases e:g ρ st with
|no=>rw[e] at p;exact p
|ex y st1=>rw[e] at p;exact p
|ok a st1=>rw[e] at p;exact fun b m1 H1 f1 r1 ab=>hi _ _ (p b m1 H1 f1 r1 ab)
abbrev MtC (cs:List (Str×Str)):={q:Str×Str // cs.lookup q.1=some q.2}
section
variable {cs:List (Str×Str)} {cf:Str→List D→M D} {nps:Str→Nat}
theorem mc_post {K:PySem.W.Frag} {σ:L2.St} {Q:VK} {H:Hp} {t:MtC cs→TE} {fa:Env→M (List D)} (hne:cs≠[]) {ρ:Env} {m0:List Addr} {st:Sto} (er:ER K m0 H ρ σ) (rl:Rl K m0 H st)
  (p:Post (aV K false) K W σ m0 H (M.bind (f ρ) (fun x=>M.bind (methM m cs x) fun g=>M.bind (fa ρ) fun ds=>callV false (cf g (x::ds))) st) Q)
  (hcs:∀(q:MtC cs),∃C,PySem.W.nsIn K mainGlobals q.1.1=some (some (.ref C)))
  (hlen:∀ρ st ds st1,fa ρ st=.ok ds st1→∀q:MtC cs,ds.length+1=nps q.1.2)
  (ht:∀(q:MtC cs) C,PySem.W.nsIn K mainGlobals q.1.1=some (some (.ref C))→∀σ H Q,tMethS C m (spF K (nps q.1.2) (cf q.1.2)) (WE W) (rd (aV K false) K W f) (rd (aL K) K W fa) σ H Q→t q σ H Q):∃q,t q σ H Q:=by
 cases e1:f ρ st with
|no=>rw[bindM_no e1] at p;exact p.elim
|ex z st1=>
  rw[bindM_ex e1] at p
  cases cs with
 |nil=>exact absurd rfl hne
 |cons q0 r=>
   have hq0:(q0::r).lookup q0.1=some q0.2:=by
    obtain⟨a,b⟩:=q0
    rw[lookup_cons',if_pos rfl]
   obtain⟨C,hC⟩:=hcs ⟨q0,hq0⟩
   exact⟨⟨q0,hq0⟩,ht ⟨q0,hq0⟩ C hC σ H Q ⟨ρ,m0,st,er,rl,by rw[e1];exact p⟩⟩
|ok x st1=>
  rw[bindM_ok e1] at p
  have hmm:∃g,methOf m cs x st1=some g:=by
   cases e2:methOf m cs x st1 with
  |none=>
    have:methM m cs x st1=.no:=by unfold methM;rw[e2]
    rw[bindM_no this] at p
    exact p.elim
  |some g=>exact⟨g,rfl⟩
  obtain⟨g,e2⟩:=hmm
  have e3:methM m cs x st1=.ok g st1:=by unfold methM;rw[e2]
  rw[bindM_ok e3] at p
  have hcg:∃c,cs.lookup c=some g:=by
   have:∀{xd:D},methOf m cs xd st1=some g→∃c,cs.lookup c=some g:=fun {xd} e=>by
    unfold methOf at e
    split at e
    ·split at e
     ·split at e
      ·exact⟨_,e⟩
      ·cases e
     ·cases e
    ·cases e
   exact this e2
  have key:∃c,cs.lookup c=some g∧∀(m1:List Addr) (H1:Hp) (u:V),VR K m1 H1 x u→Rl K m1 H1 st1→∀C,PySem.W.nsIn K mainGlobals c=some (some (.ref C))→∃a dx fs,u=.ref a∧H1 a=some (.ins C dx fs)∧fs.lookup m=none:=by
   cases x with
  |ref k=>
    cases q:st1[k]? with
   |none=>unfold methOf at e2;simp only[q] at e2;cases e2
   |some ob=>
     cases ob with
    |ins c fs=>
      have e4:=e2
      unfold methOf at e4
      simp only[q] at e4
      cases q2:fs.lookup m with
     |some z=>rw[q2] at e4;cases e4
     |none=>
       rw[q2] at e4
       refine⟨c,e4,fun m1 H1 u hv rl1 C hC => ?_⟩
       cases hv with
      |@ref _ a e5=>
        obtain⟨vs,⟨C',dx,h1,h2,h3,h4⟩,y⟩:=rl1.ob k a _ e5 q
        rw[hC] at h1
        cases h1
        refine⟨a,dx,_,rfl,h2,zlookN ?_ q2⟩
        rw[←y.length]
        exact (List.length_map ..).symm
    |_=>unfold methOf at e2;simp only[q] at e2;cases e2
  |_=>unfold methOf at e2;cases e2
  obtain⟨c,hcl,hat⟩:=key
  obtain⟨C,hC⟩:=hcs ⟨(c,g),hcl⟩
  refine⟨⟨(c,g),hcl⟩,ht ⟨(c,g),hcl⟩ C hC σ H Q ⟨ρ,m0,st,er,rl,?_⟩⟩
  rw[e1]
  intro v m1 H1 f1 r1 av
  obtain⟨a,dx,fs,h1,h2,h3⟩:=hat m1 H1 v av.1 r1 C hC
  refine⟨a,dx,fs,h1,h2,h3,ρ,m1,st1,er.mono f1,r1,?_⟩
  have p:=p.later laterV f1 r1
  cases e6:fa ρ st1 with
 |no=>rw[bindM_no e6] at p;exact p.elim
 |ex z st2=>rw[bindM_ex e6] at p;exact p
 |ok ds st2=>
   rw[bindM_ok e6] at p
   intro vs m2 H2 f2 r2 av2
   exact⟨x::ds,m2,st2,by rw[List.length_cons];exact hlen ρ st1 ds st2 e6 ⟨(c,g),hcl⟩,r2,.cons (av.1.mono f2) av2,callV_post r2 (p.later laterV f2 r2)⟩
theorem se_mc0 (hne:cs≠[]) (F:∀c g,cs.lookup c=some g→ML X kk c m (nps g) (cf g)) (hr:Room kk X.A) (tk:Takes X W) (hb:attributeBase o m X.env (eval o X.env)=eval o X.env) (hline:(apos.endLine == pos.line)=true)
  (hlen:∀q:MtC cs,1=nps q.1.2) (ho:SE X W o f false) :
  SE X W (.Call (.Attribute o m apos) [] [] pos) (fun ρ=>M.bind (f ρ) fun x=>M.bind (methM m cs x) fun g=>M.bind (M.pure []) fun ds=>callV false (cf g (x::ds))) false:=by
 have hp:∀q:MtC cs,∃t:TE,PE X (.Call (.Attribute o m apos) [] [] pos) t∧∀C,PySem.W.nsIn X.K mainGlobals q.1.1=some (some (.ref C))→∀σ H Q,tMethS C m (spF X.K (nps q.1.2) (cf q.1.2)) (WE W) (rd (aV X.K false) X.K W f) (rd (aL X.K) X.K W fun _=>M.pure []) σ H Q→t σ H Q:=fun q=>by
  obtain⟨C,fad,fd,ps,hc,hcl,hmt,hps,hb2,F⟩:=(F q.1.1 q.1.2 q.2).ex
  refine⟨_,pe_methS0 ho hcl hmt F hr hb2 (fun σ=>passAt tk σ) (meth_tree hb hline rfl (by show 0<29;omega)),fun C' hC' => ?_⟩
  rw[hc] at hC'
  cases hC'
  intro σ H Q h
  refine rd_mono h fun v H1 ⟨a,dx,fs,e1,e2,e3,ρ,m1,st1,er,r1,p⟩=>⟨a,dx,fs,e1,e2,e3,p [] m1 H1 .refl r1 .nil⟩
 refine (PE.ex fun q=>(Classical.choose_spec (hp q)).1).imp fun σ H Q h => ?_
 obtain⟨ρ,m0,st,er,rl,p⟩:=h
 exact mc_post (fa:=fun _=>M.pure []) hne er rl p (fun q=>by obtain⟨C,fad,fd,ps,hc,_⟩:=(F q.1.1 q.1.2 q.2).ex;exact⟨C,hc⟩) (fun ρ st ds st1 e q=>by cases e;exact hlen q) fun q C hC σ H Q h=>(Classical.choose_spec (hp q)).2 C hC σ H Q h
theorem se_mc (hne:cs≠[]) (F:∀c g,cs.lookup c=some g→ML X kk c m (nps g) (cf g)) (hr:Room kk X.A) (tk:Takes X W) (hs:(e::es).all noStar=true) (hb:attributeBase o m X.env (eval o X.env)=eval o X.env) (hline:(apos.endLine == pos.line)=true) (hl:(e::es).length<29)
  (hlen:∀ρ st ds st1,fa ρ st=.ok ds st1→∀q:MtC cs,ds.length+1=nps q.1.2) (ho:SE X W o f false) (ha:SA X W (e::es) fa) :
  SE X W (.Call (.Attribute o m apos) (e::es) [] pos) (fun ρ=>M.bind (f ρ) fun x=>M.bind (methM m cs x) fun g=>M.bind (fa ρ) fun ds=>callV false (cf g (x::ds))) false:=by
 have hs':=hs
 rw[List.all_cons] at hs
 obtain⟨s1,s2⟩:=and3 hs
 have hp:∀q:MtC cs,∃t:TE,PE X (.Call (.Attribute o m apos) (e::es) [] pos) t∧∀C,PySem.W.nsIn X.K mainGlobals q.1.1=some (some (.ref C))→∀σ H Q,tMethS C m (spF X.K (nps q.1.2) (cf q.1.2)) (WE W) (rd (aV X.K false) X.K W f) (rd (aL X.K) X.K W fa) σ H Q→t σ H Q:=fun q=>by
  obtain⟨C,fad,fd,ps,hc,hcl,hmt,hps,hb2,F⟩:=(F q.1.1 q.1.2 q.2).ex
  refine⟨_,pe_methS ho hcl hmt F hr hb2 (fun σ=>passAt tk σ) ha (starEach_cons s1) (backTo_plain s2) (meth_tree hb hline hs' hl),fun C' hC' => ?_⟩
  rw[hc] at hC'
  cases hC'
  exact fun σ H Q h=>h
 refine (PE.ex fun q=>(Classical.choose_spec (hp q)).1).imp fun σ H Q h => ?_
 obtain⟨ρ,m0,st,er,rl,p⟩:=h
 exact mc_post hne er rl p (fun q=>by obtain⟨C,fad,fd,ps,hc,_⟩:=(F q.1.1 q.1.2 q.2).ex;exact⟨C,hc⟩) hlen fun q C hC σ H Q h=>(Classical.choose_spec (hp q)).2 C hC σ H Q h
end
end
end Dn
namespace Dn
open PySem L2 PyProof.Rows
def XF (X:Cx) (c:Str):Prop:=∃C,PySem.W.nsIn X.K mainGlobals c=some (some (.ref C))∧X.mg c=some (.ref C)∧PySem.W.excIn X.K C [.type "ValueError",.type "Exception",.type "BaseException",.type "object"] "ValueError.__new__"=true∧PySem.W.keepIn X.K (.ref C)=true ∧
 PySem.W.subIn X.K (.ref C) (.type "BaseException")=some true∧PySem.W.typeIn X.K (.ref C)=some (.type "type")
section
variable {X:Cx} {W:WX} {c:Str} {pos p p2 p3:Pos}
theorem ss_rais {msg:Str} {j:Nat} (hc:X.calm=true) (tk:Takes X W) (F:XF X c) (hg:Gl X c) (hdb:(c == ("__debug__":Str))=false) :
  SS X W (.Raise (some (.Call (.Name c p) [.Constant (.str msg) j p2] [] p3)) none pos) (fun ρ st=>.ex ⟨c,none⟩ ρ st):=by
 obtain⟨C,hns,hm,hx,hk,hs,ht⟩:=F
 exact (ps_raise hc tk (pmk_own PySem.F.excBase_ValueError hx hm hk (raises_own hs ht) hg hdb)).imp fun D σ H ⟨ρ,m,st,er,rl,q⟩=>q (.ref C) none σ m H .refl er rl ⟨C,hns,rfl,rfl⟩
end
theorem hdl_rt {h:Hd} {x:Xc} {ρ:Env} {st:Sto}:hdl h x ρ st=.no∨∃d,hdl h x ρ st=.ok (.rt d) st:=by
 unfold hdl
 repeat' split
 all_goals first|exact .inl rfl|exact .inr ⟨_,rfl⟩
def tsH (K:PySem.W.Frag) (i:Nat) (h:Hd) (hits:List Str) (a:Addr) (cls:Value) (dd:Option Addr):TS:=fun D σ H=>(i<σ.length→σ[i]?=some (some (.ref a)))∧H a=none ∧
 ∃(ρ:Env) (m:List Addr) (st:Sto) (x:Xc) (d:Dn.D),x.cls∈hits∧ρ.length=σ.length∧Rl K m H st∧XR K m H x cls dd∧hdl h x ρ st=.ok (.rt d) st∧∀v m' H',Fut m H m' H'→Rl K m' H' st→VR K m' H' d v→D.rt v H'
section
variable {X:Cx} {W:WX} {c n:Str} {i:Nat} {Cc:Addr} {hits:List Str} {h:Hd} {body suite:List Stmt} {b₀:Stmt} {np pos pos':Pos} {fb:Env→Sto→RS}
theorem ss_tryAs (hs:X.stack=X.env::X.outer) (hf:X.env.frame=some X.env.locals) (hN:X.N.Nodup) (hi:X.N[i]?=some n) (hln:X.env.kindOf n=some .local) (hc:Names X c (.ref Cc)) (tk:Takes X W)
  (hb:∀(W:WX) (pn:List (Addr×Obj)) (xe:Value→Shared→Prop),Takes (X.tr pn xe) W→PassesOwn (model X.prog X.w) X.A X.env xe→SSs (X.tr pn xe) W body fb)
  (hh:∀x∈hits,∀C,PySem.W.nsIn X.K mainGlobals x=some (some (.ref C))→PySem.W.exmOne X.K (.ref C) (.ref Cc)=some true)
  (hsu:∀(a:Addr) (oe:Obj) (cls:Value) (d:Option Addr) (pn:List (Addr×Obj)),Zc cls d oe→(∃vs,oe.data=.fields vs)→PSs (X.suite a ((a,oe)::pn)) (b₀::suite) (tsH X.K i h hits a cls d)) :
  SS X W (.Try body [.ExceptHandler (some (.Name c np)) (some n) (b₀::suite) pos'] [] [] pos) (fun ρ st=>match fb ρ st with
  |.ex x ρ' st'=>if hits.contains x.cls then hdl h x ρ' st' else .no
  |r=>r):=by
 refine (ps_try_as hs hf hN hi hln hc tk (tb:=fun W=>sD X.K W fb) (fun W pn xe tk pa=>hb W pn xe tk pa) hsu).imp fun D σ H ⟨ρ,m,st,er,rl,p⟩=>⟨ρ,m,st,er,rl,?_⟩
 simp only at p
 cases e1:fb ρ st with
|no=>rw[e1] at p;exact p
|ok cc st'=>
  rw[e1] at p
  cases cc <;> exact p
|ex x ρ' st'=>
  rw[e1] at p
  simp only at p
  intro cls dd σ' m' H' f' er' rl' xr
  by_cases hx:hits.contains x.cls=true
  ·rw[if_pos hx] at p
   have hx':x.cls∈hits:=by simpa using hx
   obtain⟨C,h1,h2,h3⟩:=xr
   refine⟨true,by rw[h2];exact hh _ hx' C h1,fun _ a ha => ?_,fun z=>nomatch z⟩
   rcases hdl_rt (h:=h) (x:=x) (ρ:=ρ') (st:=st') with z|⟨d,z⟩
   ·rw[z] at p;exact p.elim
   ·rw[z] at p
    refine⟨fun hl => ?_,ha,ρ',m',st',x,d,hx',?_,rl',⟨C,h1,h2,h3⟩,z,fun v m2 H2 f2 r2 hv=>p v m2 H2 (f'.trans f2) r2 hv⟩
    ·rw[List.length_set] at hl
     exact List.getElem?_set_self hl
    ·rw[List.length_set];exact er'.len
  ·rw[if_neg hx] at p;exact p.elim
theorem ss_tryOn (hs:X.stack=X.env::X.outer) (hf:X.env.frame=some X.env.locals) (hc:Names X c (.ref Cc)) (tk:Takes X W)
  (hb:∀(W:WX) (pn:List (Addr×Obj)) (xe:Value→Shared→Prop),Takes (X.tr pn xe) W→PassesOwn (model X.prog X.w) X.A X.env xe→SSs (X.tr pn xe) W body fb)
  (hh:∀x∈hits,∀C,PySem.W.nsIn X.K mainGlobals x=some (some (.ref C))→PySem.W.exmOne X.K (.ref C) (.ref Cc)=some true) {d0:D}
  (hsu:∀(a:Addr) (oe:Obj) (cls:Value) (d:Option Addr) (pn:List (Addr×Obj)),Zc cls d oe→(∃vs,oe.data=.fields vs)→PSs (X.suite a ((a,oe)::pn)) (b₀::suite) (fun D σ H=>∃m st,Rl X.K m H st∧∀v m' H',Fut m H m' H'→Rl X.K m' H' st→VR X.K m' H' d0 v→D.rt v H')) :
  SS X W (.Try body [.ExceptHandler (some (.Name c np)) none (b₀::suite) pos'] [] [] pos) (fun ρ st=>match fb ρ st with
  |.ex x ρ' st'=>if hits.contains x.cls then hdl (.con d0) x ρ' st' else .no
  |r=>r):=by
 refine (ps_try_only hs hf hc tk (tb:=fun W=>sD X.K W fb) (fun W pn xe tk pa=>hb W pn xe tk pa) (ts:=fun _ _ _ D σ H=>∃m st,Rl X.K m H st∧∀v m' H',Fut m H m' H'→Rl X.K m' H' st→VR X.K m' H' d0 v→D.rt v H') hsu).imp fun D σ H ⟨ρ,m,st,er,rl,p⟩=>⟨ρ,m,st,er,rl,?_⟩
 simp only at p
 cases e1:fb ρ st with
|no=>rw[e1] at p;exact p
|ok cc st'=>
  rw[e1] at p
  cases cc <;> exact p
|ex x ρ' st'=>
  rw[e1] at p
  simp only at p
  intro cls dd σ' m' H' f' er' rl' xr
  by_cases hx:hits.contains x.cls=true
  ·rw[if_pos hx] at p
   have hx':x.cls∈hits:=by simpa using hx
   obtain⟨C,h1,h2,h3⟩:=xr
   exact⟨true,by rw[h2];exact hh _ hx' C h1,fun _ a ha=>⟨m',st',rl',fun v m2 H2 f2 r2 hv=>p v m2 H2 (f'.trans f2) r2 hv⟩,fun z=>nomatch z⟩
  ·rw[if_neg hx] at p;exact p.elim
end
def conE:Expr→Option D
|.Constant c _ _=>(match c with
 |.none=>some .non
 |.bool b=>some (.bl b)
 |.int i=>some (.int i)
 |_=>none)
|_=>none
theorem conE_pe {X:Cx} {e:Expr} {d:D} (h:conE e=some d):∃v,PE X e (tC v)∧∀K m H,VR K m H d v:=by
 unfold conE at h
 repeat' (split at h)
 all_goals first
 |(cases h;exact⟨_,pe_non,fun _ _ _=>.non⟩)
 |(cases h;exact⟨_,pe_bl,fun _ _ _=>.bl _⟩)
 |(cases h;exact⟨_,pe_int,fun _ _ _=>.int _⟩)
 |cases h
theorem con_suite {X:Cx} {K:PySem.W.Frag} {e:Expr} {d:D} {p:Pos} (h:conE e=some d):PSs X [.Return (some e) p] (fun D σ H=>∃m st,Rl K m H st∧∀v m' H',Fut m H m' H'→Rl K m' H' st→VR K m' H' d v→D.rt v H'):=by
 obtain⟨v,hp,hv⟩:=conE_pe (X:=X) h
 exact (pss_one (ps_ret hp)).imp fun D σ H ⟨m,st,rl,q⟩=>q v m H .refl rl (hv K m H)
theorem call_isP {X:Cx} {a D:Addr} {oe:Obj} (C:ExcC X.K D) (hz:Zc (.ref D) none oe) (hf:∃vs,oe.data=.fields vs) (hm:(a,oe)∈X.pn):CallR X (.builtin "isinstance") (rIsE X.K D a):=by
 intro pins s σ H xs us Q I r h
 obtain⟨c,cv,b,rfl,hcv,e,q⟩:=h
 cases r with
|cons rx rr=>
  cases rr with
 |cons rt rr=>
   cases rr
   cases rx
   have ec:=hcv _ rt
   subst ec
   obtain⟨hget,_⟩:=I.pin (a,oe) (List.mem_append_left _ hm)
   obtain⟨vs,hv⟩:=hf
   have J:PySem.W.InstAt s.heap a oe D none:=by
    obtain⟨oc,od,oda,osl⟩:=oe
    obtain⟨h1,h2⟩:=hz
    dsimp only at h1 h2 hv
    subst h1 h2 hv
    exact⟨hget,rfl,rfl,trivial⟩
   exact PySem.W.kia_one (PySem.W.handS_kitx_exc C.hg C.hk C.hs C.hd C.ha C.hn C.ht C.hm) I.kIn J e (fun z=>nomatch z) fun tk=>⟨.bl b,H,I.kept (t':=tk) fun _ _ z=>z,rfl,q⟩
theorem mt_countB {X:Cx}:MtR X "list.count" (fun x xs H Q=>∃(p:Addr) (bs:List Bool),x=.ref p∧xs=[.bl true]∧H p=some (.lst (bs.map V.bl))∧Q (.int (bs.count true:Nat)) H):=by
 intro pins s σ H x xs v us Q I rx rxs h
 obtain⟨p,bs,rfl,rfl,hs,q⟩:=h
 cases rx
 obtain⟨u,rfl,ru⟩:=rxs.one
 obtain rfl:u=Value.bool true:=ru
 obtain⟨its,rv,⟨⟨cls,dd,data,sl⟩,n,ho,hc,hdn,hd⟩,hlen⟩:=I.list (.inl (.inl hs))
 simp only at hc hd
 subst hc hd
 have fl:(bs.map V.bl).all flatV=true:=by
  rw[List.all_map]
  exact List.all_eq_true.mpr fun b _=>rfl
 refine call_meets PySem.F.slot_list_count ⟨_,ho,rfl⟩ PySem.F.entry_list_count (PySem.F.args_list_count_2 _ _)
  (SeqAt.list_countAt p its.toArray n dd sl (.bool true) (eqU (.bl true))) ⟨ho,fun y hy=>mem_eqAt (x:=.bl true) rfl rfl rv fl y (by simpa using hy),?_⟩
 have ec:its.toArray.toList.countP (eqU (.bl true))=bs.count true:=by
  rw[List.toList_toArray]
  clear fl q ho hdn hlen hs
  induction bs generalizing its with
 |nil=>cases rv;rfl
 |cons b bs ih=>
   cases rv with
  |cons r1 r2=>
    rename_i u us
    obtain rfl:u=Value.bool b:=r1
    rw[List.countP_cons,ih _ r2,List.count_cons]
    cases b <;> rfl
 refine⟨.int (bs.count true:Nat),H,I.tok _,⟨s.toks,?_⟩,q⟩
 show Value.int ((its.toArray.toList.countP (eqU (.bl true)):Nat):Int) s.toks=Value.int ((bs.count true:Nat):Int) s.toks
 rw[ec]
end Dn
namespace Dn
open PySem L2 PyProof.Rows
structure WC (X:Cx) (ie io:Nat) (ev ow:Str) (a:Addr) (oe:Obj) (x:Str) (C:Addr) (names:List Str):Prop where
 nd:X.N.Nodup
 e:X.N[ie]?=some ev
 o:X.N[io]?=some ow
 ve:Vis X.env.scope ev
 vo:Vis X.env.scope ow
 lo:Loc X.env.scope ow
 lf:X.fn ow=true∨X.env.scope.names.lookup ow=some .local
 de:(ev == ("__debug__":Str))=false∧(ev == ("__classdict__":Str))=false
 dw:(ow == ("__debug__":Str))=false∧(ow == ("__classdict__":Str))=false
 pin:(a,oe)∈X.pn
 z:Zc (.ref C) none oe
 f:∃vs,oe.data=.fields vs
 c:ExcC X.K C
 isi:X.mg "isinstance"=none
 ver:X.mg "ValueError"=none
 cls:∀n∈names,∃Cn,X.mg n=some (.ref Cn)∧PySem.W.kitOne X.K (.ref C) (.ref Cn)=some (decide (n=x))
 vek:PySem.W.kitOne X.K (.ref C) (.type "ValueError")=some true
section
variable {X:Cx} {ie io:Nat} {ev ow:Str} {a:Addr} {oe:Obj} {x:Str} {C:Addr} {names:List Str} (w:WC X ie io ev ow a oe x C names)
include w
theorem WC.isi_pe {n:Str} {p p1 p2 pos:Pos} (hn:n∈names) (hg:Gl X "isinstance") (hgn:Gl X n) (hd:(n == ("__debug__":Str))=false) :
  PE X (.Call (.Name "isinstance" p) [.Name ev p1,.Name n p2] [] pos) (fun σ H Q=>σ[ie]?=some (some (.ref a))∧Q (.bl (decide (n=x))) H):=by
 obtain⟨Cn,h1,h2⟩:=w.cls n hn
 exact (pe_callB (call_isP w.c w.z w.f w.pin) hg w.isi (by decide +kernel) (pa_cons (pe_var w.e w.ve w.de.1 w.de.2) (pa_cons (pe_glob (v:=.ref Cn) hgn h1 rfl hd) pa_nil))).imp fun σ H Q ⟨h,q⟩=>
  ⟨.ref a,h,.ref Cn,.ref Cn,_,rfl,fun u r=>r,h2,q⟩
theorem WC.ver_pe {p p1 p2 pos:Pos} (hg:Gl X "isinstance") (hgn:Gl X "ValueError") :
  PE X (.Call (.Name "isinstance" p) [.Name ev p1,.Name "ValueError" p2] [] pos) (fun σ H Q=>σ[ie]?=some (some (.ref a))∧Q (.bl true) H):=
 (pe_callB (call_isP w.c w.z w.f w.pin) hg w.isi (by decide +kernel) (pa_cons (pe_var w.e w.ve w.de.1 w.de.2) (pa_cons (pe_bltn (v:=.ty "ValueError") (u:=.type "ValueError") hgn w.ver (by decide +kernel) rfl) pa_nil))).imp fun σ H Q ⟨h,q⟩=>
  ⟨.ref a,h,.ty "ValueError",.type "ValueError",_,rfl,fun u r=>r,w.vek,q⟩
end
def isiN (sc:Scope) (ev:Str) (e:Expr):Option Str:=match e with
|.Call fn es kw _=>(match fn with
 |.Name f _=>(match kw with
  |[]=>(match es with
   |[e1,e2]=>(match e1 with
    |.Name y _=>(match e2 with
     |.Name n _=>whenB (decide (f = "isinstance")&&decide (y=ev)&&glB sc f&&glB sc n && !(n == ("__debug__":Str))) n
     |_=>none)
    |_=>none)
   |_=>none)
  |_=>none)
 |_=>none)
|_=>none
where
 whenB {α:Type} (b:Bool) (a:α):Option α:=if b=true then some a else none
 glB (sc:Scope) (x:Str):Bool:=match sc.names.lookup x with
 |some .globalImplicit=>true
 |_=>false
theorem whenB_ok {α:Type} {b:Bool} {a c:α} (h:isiN.whenB b a=some c):b=true∧a=c:=by
 unfold isiN.whenB at h
 by_cases e:b=true
 ·rw[if_pos e] at h;cases h;exact⟨e,rfl⟩
 ·rw[if_neg e] at h;cases h
theorem glB_ok {sc:Scope} {x:Str} (h:isiN.glB sc x=true):sc.names.lookup x=some .globalImplicit:=by
 unfold isiN.glB at h
 split at h
 ·assumption
 ·cases h
theorem isiN_ok {sc:Scope} {ev n:Str} {e:Expr} (h:isiN sc ev e=some n):∃p p1 p2 pos,e=.Call (.Name "isinstance" p) [.Name ev p1,.Name n p2] [] pos∧sc.names.lookup ("isinstance":Str)=some .globalImplicit∧sc.names.lookup n=some .globalImplicit∧(n == ("__debug__":Str))=false:=by
 unfold isiN at h
 repeat' (split at h)
 all_goals first|cases h;done|skip
 obtain⟨h1,h2⟩:=whenB_ok h
 subst h2
 obtain⟨h1,h5⟩:=and3 h1
 obtain⟨h1,h4⟩:=and3 h1
 obtain⟨h1,h3⟩:=and3 h1
 obtain⟨h1,h2⟩:=and3 h1
 have h1:=of_decide_eq_true h1
 have h2:=of_decide_eq_true h2
 subst h1 h2
 exact⟨_,_,_,_,rfl,glB_ok h3,glB_ok h4,by simpa using h5⟩
def isiL (sc:Scope) (ev:Str):List Expr→Option (List Str)
|[]=>some []
|e::r=>(isiN sc ev e).bind fun n=>(isiL sc ev r).bind fun ns=>some (n::ns)
def ownM (ow:Str) (e:Expr):Option (Str×Expr):=match e with
|.Call fn es kw pos=>(match fn with
 |.Attribute o m apos=>(match o with
  |.Name y _=>(match kw with
   |[]=>(match es with
    |[e1]=>isiN.whenB (decide (y=ow)&&(apos.endLine == pos.line)) (m,e1)
    |_=>none)
   |_=>none)
  |_=>none)
 |_=>none)
|_=>none
theorem ownM_ok {ow m:Str} {e e1:Expr} (h:ownM ow e=some (m,e1)):∃p apos pos,e=.Call (.Attribute (.Name ow p) m apos) [e1] [] pos∧(apos.endLine == pos.line)=true:=by
 unfold ownM at h
 repeat' (split at h)
 all_goals first|cases h;done|skip
 obtain⟨h1,h2⟩:=whenB_ok h
 cases h2
 obtain⟨h1,h3⟩:=and3 h1
 have h1:=of_decide_eq_true h1
 subst h1
 exact⟨_,_,_,rfl,h3⟩
def isTrueC (e:Expr):Bool:=match e with
|.Constant c _ _=>(match c with
 |.bool b=>b
 |_=>false)
|_=>false
theorem isTrueC_ok {e:Expr} (h:isTrueC e=true):∃j p,e=.Constant (.bool true) j p:=by
 unfold isTrueC at h
 repeat' (split at h)
 all_goals first|cases h;done|skip
 subst h
 exact⟨_,_,rfl⟩
def isIntC (i:Int) (e:Expr):Bool:=match e with
|.Constant c _ _=>(match c with
 |.int j=>decide (j=i)
 |_=>false)
|_=>false
theorem isIntC_ok {i:Int} {e:Expr} (h:isIntC i e=true):∃j p,e=.Constant (.int i) j p:=by
 unfold isIntC at h
 repeat' (split at h)
 all_goals first|cases h;done|skip
 have e:=of_decide_eq_true h
 subst e
 exact⟨_,_,rfl⟩
def isStrC (x:List Nat) (e:Expr):Bool:=match e with
|.Constant c _ _=>(match c with
 |.str s=>decide (s.cps.toList=x)
 |_=>false)
|_=>false
theorem isStrC_ok {x:List Nat} {e:Expr} (h:isStrC x e=true):∃s j p,e=.Constant (.str s) j p∧s.cps.toList=x:=by
 unfold isStrC at h
 repeat' (split at h)
 all_goals first|cases h;done|skip
 exact⟨_,_,_,rfl,of_decide_eq_true h⟩
def whStep (sc:Scope) (ev ow:Str) (s:Stmt):Option (List Str):=match s with
|.Expr e _=>(ownM ow e).bind fun q=>if q.1 = "extend" then (match q.2 with
  |.List es _=>isiL sc ev es
  |_=>none)
  else if q.1 = "append" then (isiN sc ev q.2).bind fun n=>some [n]
  else none
|_=>none
def whTest (sc:Scope) (ev ow:Str) (c:Expr):Bool:=match c with
|.BoolOp op es _=>(match op with
 |.Or=>(match es with
  |[c1,c2]=>(match c1 with
   |.Compare l os rs _=>(match os with
    |[o]=>(match o with
     |.NotEq=>(match rs with
      |[r]=>(match ownM ow l with
       |some (m,e1)=>decide (m = "count")&&isTrueC e1&&isIntC 1 r&&(match c2 with
        |.UnaryOp uo i _=>(match uo with
         |.Not=>decide (isiN sc ev i=some "ValueError")
         |_=>false)
        |_=>false)
       |none=>false)
      |_=>false)
     |_=>false)
    |_=>false)
   |_=>false)
  |_=>false)
 |_=>false)
|_=>false
theorem whTest_ok {sc:Scope} {ev ow:Str} {c:Expr} (h:whTest sc ev ow c=true):∃l r i p1 p2 p3 e1,c=.BoolOp .Or [.Compare l [.NotEq] [r] p1,.UnaryOp .Not i p2] p3∧ownM ow l=some (("count":Str),e1)∧isTrueC e1=true∧isIntC 1 r=true∧isiN sc ev i=some "ValueError":=by
 unfold whTest at h
 repeat' (split at h)
 all_goals first|cases h;done|skip
 all_goals first|(simp at h;done)|skip
 obtain⟨h,h4⟩:=and3 h
 obtain⟨h,h3⟩:=and3 h
 obtain⟨h1,h2⟩:=and3 h
 have h1:=of_decide_eq_true h1
 subst h1
 exact⟨_,_,_,_,_,_,_,rfl,by assumption,h2,h3,of_decide_eq_true h4⟩
def whRet (ow:Str) (s:Stmt):Bool:=match s with
|.Return v _=>(match v with
 |some e=>(match e with
  |.Tuple es _ _=>(match es with
   |[e1,e2]=>isStrC refused e1&&(match ownM ow e2 with
    |some (m,k)=>decide (m = "index")&&isTrueC k
    |none=>false)
   |_=>false)
  |_=>false)
 |none=>false)
|_=>false
theorem whRet_ok {ow:Str} {s:Stmt} (h:whRet ow s=true):∃e1 e2 j p q k,s=.Return (some (.Tuple [e1,e2] j p)) q∧isStrC refused e1=true∧ownM ow e2=some (("index":Str),k)∧isTrueC k=true:=by
 unfold whRet at h
 repeat' (split at h)
 all_goals first|cases h;done|skip
 all_goals first|(simp at h;done)|skip
 obtain⟨h1,h2⟩:=and3 h
 obtain⟨h2,h3⟩:=and3 h2
 have h2:=of_decide_eq_true h2
 subst h2
 exact⟨_,_,_,_,_,_,rfl,h1,by assumption,h3⟩
def whEnd (sc:Scope) (ev ow:Str) (ss:List Stmt):Bool:=match ss with
|[s1,s2]=>(match s1 with
 |.If c _ b _=>whTest sc ev ow c&&b.isEmpty&&whRet ow s2
 |_=>false)
|_=>false
def whRest (sc:Scope) (ev ow:Str):List Stmt→Option (List Str)
|[]=>none
|s::r=>if whEnd sc ev ow (s::r)=true then some [] else (whStep sc ev ow s).bind fun ns=>(whRest sc ev ow r).bind fun ms=>some (ns++ms)
def whBody (sc:Scope) (ev ow:Str) (ss:List Stmt):Option (List Str):=match ss with
|s::r=>(match s with
 |.Assign ts v _=>(match ts with
  |[t]=>(match t with
   |.Name y _=>(match v with
    |.List es _=>if y=ow then (isiL sc ev es).bind fun ns=>(whRest sc ev ow r).bind fun ms=>some (ns++ms) else none
    |_=>none)
   |_=>none)
  |_=>none)
 |_=>none)
|[]=>none
theorem bindO' {α β:Type} {o:Option α} {f:α→Option β} {b:β} (h:o.bind f=some b):∃a,o=some a∧f a=some b:=Option.bind_eq_some_iff.mp h
def wJ (ie io:Nat) (a:Addr) (H0:Hp) (bs:List Bool) (σ:L2.St) (H:Hp):Prop:=σ[ie]?=some (some (.ref a))∧∃q,σ[io]?=some (some (.ref q))∧H0 q=none∧H q=some (.lst (bs.map V.bl))∧∀b u,H0 b=some u→H b=some u
section
variable {X:Cx} {ie io:Nat} {ev ow:Str} {a:Addr} {oe:Obj} {x:Str} {C:Addr} {names:List Str} (w:WC X ie io ev ow a oe x C names)
include w
theorem WC.isiL_pa:∀{es:List Expr} {ns:List Str},isiL X.env.scope ev es=some ns→(∀n∈ns,n∈names)→PA X es (fun σ H Q=>σ[ie]?=some (some (.ref a))∧Q ((ns.map fun n=>decide (n=x)).map V.bl) H)
|[],ns,h,hn=>by
  cases h
  exact pa_nil.imp fun σ H Q ⟨_,q⟩=>q
|e::es,ns,h,hn=>by
  rw[isiL] at h
  obtain⟨n,h1,h⟩:=bindO' h
  obtain⟨ms,h2,h⟩:=bindO' h
  cases h
  obtain⟨p,p1,p2,pos,rfl,g1,g2,g3⟩:=isiN_ok h1
  exact (pa_cons (w.isi_pe (hn n (by simp)) g1 g2 g3) (WC.isiL_pa h2 fun m hm=>hn m (by simp[hm])) (starEach_cons rfl)).imp fun σ H Q ⟨h,q⟩=>⟨h,h,q⟩
theorem WC.own_pe {p:Pos}:PE X (.Name ow p) (tVar io):=pe_var w.o w.vo w.dw.1 w.dw.2
theorem WC.meth_pe {m:Str} {id:String} {r:V→List V→Hp→VK→Prop} {e1:Expr} {t1:TE} {p apos pos:Pos} (slot:Slot "list" m id) (hty:typeOf (.builtin id)=pure (.type "method_descriptor")) (hm:MtR X id r) (hl:(apos.endLine == pos.line)=true) (hs:noStar e1=true) (h1:PE X e1 t1) :
  PE X (.Call (.Attribute (.Name ow p) m apos) [e1] [] pos) (tBM X.K "list" r (tVar io) (tCons t1 tNil)):=
 pe_bm PySem.F.plainAttrs_list slot hty hm w.own_pe (pa_cons h1 pa_nil (starEach_cons hs)) rfl (by
  have e:=backTo_all (pos:=pos) (env:=X.env) (es:=[e1]) (by rw[List.all_cons,hs];rfl)
  rw[e];rfl) hl (starEach_cons hs) rfl
theorem WC.step {H0:Hp} {s:Stmt} {ns:List Str} (h:whStep X.env.scope ev ow s=some ns) (hn:∀n∈ns,n∈names) :
  PS X s (fun D σ H=>∃bs,wJ ie io a H0 bs σ H∧bs.length+ns.length≤1000∧∀σ' H',wJ ie io a H0 (bs++ns.map fun n=>decide (n=x)) σ' H'→D.nx σ' H'):=by
 unfold whStep at h
 split at h
 ·rename_i e pos
  obtain⟨⟨m,e1⟩,hm,h2⟩:=bindO' h
  clear h
  obtain⟨p,apos,pos2,rfl,hl⟩:=ownM_ok hm
  have h:=h2
  clear h2
  simp only at h
  split at h
  ·rename_i he
   subst he
   split at h
   ·rename_i es pe
    have ha:=w.isiL_pa h hn
    refine (ps_expr (w.meth_pe PySem.F.slot_list_extend PySem.F.type_list_extend mt_extend hl rfl (pe_lst ha)) rfl).imp fun D σ H ⟨bs,⟨j1,q,j2,j3,j4,j5⟩,hb,k⟩ => ?_
    refine⟨.ref q,j2,.inl ⟨rfl,_,.inl (.inl j4)⟩,j1,?_,fun l hl => ?_⟩
    ·rw[List.length_map,List.length_map,sizeLine_eq];omega
    ·have nq:q≠l:=fun z=>by rw[z,hl] at j4;cases j4
     refine⟨q,l,bs.map V.bl,(ns.map fun n=>decide (n=x)).map V.bl,rfl,rfl,by rw[upd_ne nq];exact j4,upd_same,?_,k σ _ ⟨j1,q,j2,j3,?_,fun b u hb => ?_⟩⟩
     ·rw[List.length_map,List.length_map,List.length_map,sizeLine_eq];omega
     ·rw[upd_same,List.map_append]
     ·have nb:b≠q:=fun z=>by rw[z,j3] at hb;cases hb
      have nl:b≠l:=fun z=>by
       have:=j5 b u hb
       rw[z,hl] at this;cases this
      rw[upd_ne nb,upd_ne nl]
      exact j5 b u hb
   ·cases h
  ·split at h
   ·rename_i he
    subst he
    obtain⟨n,h1,h⟩:=bindO' h
    cases h
    obtain⟨p5,p1,p2,pos5,rfl,g1,g2,g3⟩:=isiN_ok h1
    refine (ps_expr (w.meth_pe PySem.F.slot_list_append PySem.F.type_list_append mt_append hl rfl (w.isi_pe (hn n (by simp)) g1 g2 g3)) rfl).imp fun D σ H ⟨bs,⟨j1,q,j2,j3,j4,j5⟩,hb,k⟩ => ?_
    refine⟨.ref q,j2,.inl ⟨rfl,_,.inl (.inl j4)⟩,j1,q,bs.map V.bl,_,rfl,rfl,j4,?_,k σ _ ⟨j1,q,j2,j3,?_,fun b u hb => ?_⟩⟩
    ·rw[List.length_map,sizeLine_eq];simp at hb;omega
    ·rw[upd_same,List.map_append];rfl
    ·have nb:b≠q:=fun z=>by rw[z,j3] at hb;cases hb
     rw[upd_ne nb]
     exact j5 b u hb
   ·cases h
 ·cases h
end
end Dn
namespace Dn
open PySem L2 PyProof.Rows
theorem count_dec {x:Str}:∀(ns:List Str),(ns.map fun n=>decide (n=x)).count true=ns.count x
|[]=>rfl
|n::ns=>by
  rw[List.map_cons,List.count_cons,List.count_cons,count_dec ns]
  by_cases h:n=x
  ·subst h;simp
  ·simp[h]
def wK (K:PySem.W.Frag) (m:List Addr) (st:Sto) (H0:Hp) (j:Nat) (D:Ends):Prop:=Rl K m H0 st∧∀v m' H',Fut m H0 m' H'→Rl K m' H' st→VR K m' H' (.tup [.str refused,.int j]) v→D.rt v H'
section
variable {X:Cx} {ie io:Nat} {ev ow:Str} {a:Addr} {oe:Obj} {x:Str} {C:Addr} {names:List Str} (w:WC X ie io ev ow a oe x C names)
include w
theorem WC.fin {H0:Hp} {ss:List Stmt} {m:List Addr} {st:Sto} {j:Nat} (h:whEnd X.env.scope ev ow ss=true) (hj:whIx names x=some j) (hlen:names.length≤1000) :
  PSs X ss (fun D σ H=>wJ ie io a H0 (names.map fun n=>decide (n=x)) σ H∧wK X.K m st H0 j D):=by
 unfold whEnd at h
 repeat' (split at h)
 all_goals first|cases h;done|skip
 rename_i s1 s2 c a' b p
 obtain⟨h,h3⟩:=and3 h
 obtain⟨h1,h2⟩:=and3 h
 have hb:b=[]:=by simpa using h2
 subst hb
 obtain⟨l,r,i,p1,p2,p3,e1,rfl,t1,t2,t3,t4⟩:=whTest_ok h1
 obtain⟨q1,q2,q3,rfl,ql⟩:=ownM_ok t1
 obtain⟨q4,q5,rfl⟩:=isTrueC_ok t2
 obtain⟨q6,q7,rfl⟩:=isIntC_ok t3
 obtain⟨q8,q9,q10,q11,rfl,g1,g2,g3⟩:=isiN_ok t4
 obtain⟨e2,e3,r1,r2,r3,e4,rfl,u1,u2,u3⟩:=whRet_ok h3
 obtain⟨sx,r4,r5,rfl,hsx⟩:=isStrC_ok u1
 obtain⟨r6,r7,r8,rfl,rl⟩:=ownM_ok u2
 obtain⟨r9,r10,rfl⟩:=isTrueC_ok u3
 have hcnt:names.count x=1:=by
  unfold whIx at hj
  by_cases q:decide (names.count x=1)=true
  ·exact of_decide_eq_true q
  ·rw[if_neg q] at hj;cases hj
 have hfi:names.findIdx? (fun y=>decide (y=x))=some j:=by
  unfold whIx at hj
  rw[if_pos (decide_eq_true hcnt)] at hj
  exact hj
 obtain⟨hjl,hje,hjn⟩:=List.findIdx?_eq_some_iff_getElem.mp hfi
 have pc:=pt_cmpR (pos:=p1) (b:=.Constant (.int 1) q6 q7) op_ne (w.meth_pe (p:=q1) (e1:=.Constant (.bool true) q4 q5) PySem.F.slot_list_count PySem.F.type_list_count mt_countB ql rfl pe_bl) pe_int rfl
 have pv:=pt_not (pos:=p2) (pt_truth (w.ver_pe (p:=q8) (p1:=q9) (p2:=q10) (pos:=q11) g1 g2) fun _=>rfl)
 have pt:=PW.pt (pw_or (pos:=p3) pc (pw_or1 pv))
 have pr:=ps_ret (pos:=r3) (DnU.pe_tupF (x1:=r1) (pos:=r2) (pa_cons (e:=.Constant (.str sx) r4 r5) pe_str (pa_cons (w.meth_pe (p:=r6) (e1:=.Constant (.bool true) r9 r10) PySem.F.slot_list_index PySem.F.type_list_index mt_index rl rfl pe_bl) pa_nil (starEach_cons rfl)) (starEach_cons rfl)))
 refine (pss_cons (ps_if (pos:=p) pt (sss_no (W:=W0) (ss:=a')) pss_nil) (pss_one pr)).imp fun D σ H ⟨⟨j1,q,j2,j3,j4,j5⟩,rl0,k⟩ => ?_
 have fl:((names.map fun n=>decide (n=x)).map V.bl).all flatV=true:=by
  rw[List.all_map]
  exact List.all_eq_true.mpr fun b _=>rfl
 refine⟨.ref q,j2,.inl ⟨rfl,_,.inl (.inl j4)⟩,q,_,rfl,rfl,j4,rfl,false,?_,iteF ⟨j1,true,rfl,iteF ⟨.ref q,j2,.inl ⟨rfl,_,.inl (.inl j4)⟩,?_⟩⟩⟩
 ·rw[count_dec,hcnt];rfl
 ·refine⟨q,_,.bl true,j,.bl true,rfl,rfl,.inl (.inl j4),rfl,fl,?_,rfl,fun mm z' hm hz => ?_,by show 2≤sizeLine;decide,fun t us ht => ?_⟩
  ·rw[List.getElem?_map,List.getElem?_map,List.getElem?_eq_getElem hjl]
   have e:names[j]=x:=of_decide_eq_true hje
   rw[e]
   simp
  ·rw[List.getElem?_map,List.getElem?_map,List.getElem?_eq_getElem (Nat.lt_trans hm hjl)] at hz
   have e:=hjn mm hm
   simp at hz e
   rw[←hz]
   simp[e] <;> rfl
  ·have fu:Fut m H0 m (upd H t (DnU.tf us [.str sx,.int (j:Nat)])):=⟨⟨[],by simp⟩,fun _ z=>.inl z,fun b u hb e=>by
    have:=j5 b u e
    rw[upd_ne (ne_of_none this ht)]
    exact this⟩
   have rl1:Rl X.K m (upd H t (DnU.tf us [.str sx,.int (j:Nat)])) st:=rl0.grow fu fun b hb=>by
    cases e:H0 b with
   |none=>exact absurd e (rl0.there hb)
   |some u=>
     have:=j5 b u e
     rw[upd_ne (ne_of_none this ht)]
     exact this
   have nt:t ∉ m:=fun z=>by
    cases e:H0 t with
   |none=>exact rl0.there z e
   |some u=>rw[j5 t u e] at ht;cases ht
   refine k (.ref t) m _ fu rl1 (.tup upd_same rfl nt (.cons ?_ (.cons (.int _) .nil)))
   have es:sx=tx refused:=by
    obtain⟨⟨l⟩⟩:=sx
    show Str.mk _=Str.mk _
    simp at hsx
    rw[hsx]
   rw[es]
   exact .str _
theorem WC.rest {H0:Hp} {m:List Addr} {st:Sto} {j:Nat} (hj:whIx names x=some j) (hlen:names.length≤1000):∀{ss:List Stmt} {ns pre:List Str},whRest X.env.scope ev ow ss=some ns→pre++ns=names →
  PSs X ss (fun D σ H=>wJ ie io a H0 (pre.map fun n=>decide (n=x)) σ H∧wK X.K m st H0 j D)
|[],ns,pre,h,hp=>by simp[whRest] at h
|s::r,ns,pre,h,hp=>by
  rw[whRest] at h
  by_cases he:whEnd X.env.scope ev ow (s::r)=true
  ·rw[if_pos he] at h
   cases h
   rw[List.append_nil] at hp
   subst hp
   exact w.fin he hj hlen
  ·rw[if_neg he] at h
   obtain⟨n1,h1,h⟩:=bindO' h
   obtain⟨n2,h2,h⟩:=bindO' h
   cases h
   have hs:=w.step (H0:=H0) h1 fun n hn=>by rw[←hp];simp[hn]
   have hr:=WC.rest (H0:=H0) (m:=m) (st:=st) (pre:=pre++n1) hj hlen h2 (by rw[List.append_assoc];exact hp)
   refine (pss_cons hs hr).imp fun D σ H ⟨hJ,k⟩=>⟨_,hJ,?_,fun σ' H' J'=>⟨by rw[List.map_append];exact J',k⟩⟩
   have:=congrArg List.length hp
   simp at this ⊢
   omega
theorem WC.body {H0:Hp} {m:List Addr} {st:Sto} {j:Nat} (hne:ie≠io) (hj:whIx names x=some j) (hlen:names.length≤1000) {ss:List Stmt} (h:whBody X.env.scope ev ow ss=some names) (hlen2:∀σ:L2.St,True) :
  PSs X ss (fun D σ H=>(σ[ie]?=some (some (.ref a))∧io<σ.length∧H=H0)∧wK X.K m st H0 j D):=by
 unfold whBody at h
 repeat' (split at h)
 all_goals first|cases h;done|skip
 rename_i r _ _ y py _ es pe hy
 subst hy
 obtain⟨n1,h1,h⟩:=bindO' h
 obtain⟨n2,h2,h⟩:=bindO' h
 have hp:n1++n2=names:=by simpa using h
 have ha:=w.isiL_pa h1 fun n hn=>by rw[←hp];simp[hn]
 refine (pss_cons (ps_set w.nd w.o w.lo (pe_lst ha) rfl w.lf) (w.rest (H0:=H0) (m:=m) (st:=st) (pre:=n1) hj hlen h2 hp)).imp fun D σ H ⟨⟨h3,h4,h5⟩,k⟩ => ?_
 subst h5
 refine⟨h3,?_,fun l hl=>⟨⟨?_,l,?_,hl,upd_same,fun b u e=>by rw[upd_ne (ne_of_none e hl)];exact e⟩,k⟩⟩
 ·have:=congrArg List.length hp
  simp at this
  rw[List.length_map,List.length_map,sizeLine_eq];omega
 ·rw[List.getElem?_set_ne (Ne.symm hne)];exact h3
 ·exact List.getElem?_set_self h4
end
structure WF (K:PySem.W.Frag) (mg:Str→Option Value) (names exs:List Str):Prop where
 isi:mg "isinstance"=none
 ver:mg "ValueError"=none
 c:∀x∈exs,∀C,PySem.W.nsIn K mainGlobals x=some (some (.ref C))→ExcC K C∧PySem.W.kitOne K (.ref C) (.type "ValueError")=some true∧∀n∈names,∃Cn,mg n=some (.ref Cn)∧PySem.W.kitOne K (.ref C) (.ref Cn)=some (decide (n=x))
structure FnP (P:Program) (w:World) (K:PySem.W.Frag) (mg:Str→Option Value) (base:Heap) (CX:CXT) (k:Nat) (f:Addr) (fd:FuncData) (ps:List Str) (names exs:List Str):Prop where
 len:ps.length=1
 run:∀(A:Around) (outer:List PySem.Env) (s:Shared) (H:Hp) (args:Args) (p:Addr×Obj) (x:Str) (C:Addr) (m:List Addr) (st:Sto) (j:Nat) (Q:VK) (E:XK),L2H.RoomH k A→L2H.PinOk outer H s p→Zc (.ref C) none p.2→(∃vs,p.2.data=.fields vs) →
  PySem.W.nsIn K mainGlobals x=some (some (.ref C))→x∈exs→whIx names x=some j→Env0 P w K mg base A outer s H→BindsTo s fd args (ps.zip [.ref p.1])→Rl K m H st→(∀v m' H',Fut m H m' H'→Rl K m' H' st→VR K m' H' (.tup [.str refused,.int j]) v→Q v H') →
  codeAny (model P w) A (.call (.ref f) args) (CR CX outer P w H s Q E) s
theorem fn_ofP {CX:CXT} {P:Program} {w:World} {K:PySem.W.Frag} {mg:Str→Option Value} {base:Heap} {k:Nat} {f:Addr} {fd:FuncData} {name qual:Str} {params:Arguments} {body:List Stmt} {scope:Scope} {dvs:List V} {kws:List (Str×V)} {ev ow:Str} {names exs:List Str}
  (F:FunD K name qual params body scope dvs kws f fd) (S:FnScope [ev,ow] [ev] scope) (hb:whBody scope ev ow body=some names) (hl:names.length≤1000) (hlo:scope.names.lookup ow=some .local) (hle:scope.names.lookup ev=some .local)
  (de:(ev == ("__debug__":Str))=false∧(ev == ("__classdict__":Str))=false) (dw:(ow == ("__debug__":Str))=false∧(ow == ("__classdict__":Str))=false) (wf:WF K mg names exs) :
  FnP P w K mg base CX (k+1) f fd [ev] names exs:=by
 obtain⟨oc,od,dV,kV,doc,pm,an,cdv,ct,osl,rfl,lk,hcd,_,_⟩:=F.ex
 refine⟨rfl,fun A outer s H args p x C m st j Q E hr hpin hz hfv hns hx hj e0 hbn rl hq => ?_⟩
 have KX:K.In s.heap:=e0.mod.kin.keeps fun b o e=>(e0.bs b o e).1
 have lim:s.heap.NoLimit:=e0.mod.nolimit.keeps fun b o e=>(e0.bs b o e).1
 have hkind:∀y∈[ev].zip [Value.ref p.1],scope.names.lookup y.1=some .local∨(scope.names.lookup y.1=some .cell∧((cellsFrom (s.heap.objs.size+1) scope.names []).lookup y.1).isSome=true):=fun ⟨n,v⟩ hy=>by
  rcases S.par n (List.of_mem_zip hy).1 with q|q
  ·exact .inl q
  ·exact .inr ⟨q,PySem.W.cellsFrom_some _ _ _ (.inl q)⟩
 refine codeAny_call_function hr.depth (KX _ _ lk) rfl S.co S.gen rfl (PySem.W.codeRec_of KX hcd) (hbn _ _ _ _ ?_)
 refine wpAny_newFunctionEnv_cells S.kind hkind fun env he s1 xx => ?_
 subst he
 refine⟨lim.keeps xx.toInCall.keep,codeAny_func ?_⟩
 obtain⟨ec,ek,en⟩:=wf.c x hx C hns
 have I:Inv (L2H.cxH CX P w K mg base [ev,ow] qual scope f cdv A outer s H E p) [] (L2.start [ev,ow] [.ref p.1]) H s1:=L2H.inv_startH (us:=[.ref p.1]) (vs:=[.ref p.1]) S hpin e0 rfl (.cons rfl .nil) xx
 have wc:WC (L2H.cxH CX P w K mg base [ev,ow] qual scope f cdv A outer s H E p) 0 1 ev ow p.1 p.2 x C names:=
  {nd:=S.nd,e:=rfl,o:=rfl,ve:=.inl hle,vo:=.inl hlo,lo:=.inl hlo,lf:=.inr hlo,de:=de,dw:=dw,pin:=List.mem_singleton.mpr rfl,z:=hz,f:=hfv,c:=ec,isi:=wf.isi,ver:=wf.ver,cls:=en,vek:=ek}
 have hbd:=wc.body (H0:=H) (m:=m) (st:=st) (by decide) hj hl hb (fun _=>trivial)
 refine wpAny_mono (hbd.run [] s1 (L2.start [ev,ow] [.ref p.1]) H {nx:=fun _ H'=>Q .non H',rt:=Q} I ⟨⟨rfl,by show 1<2;decide,rfl⟩,rl,hq⟩) (fun fl s' hs => ?_) fun e s' hs=>hs
 have fin:∀{σ':L2.St} {H':Hp} {v:V} {u:Value},Inv (L2H.cxH CX P w K mg base [ev,ow] qual scope f cdv A outer s H E p) [] σ' H' s'→RelV v u→Q v H'→CE outer P w H s Q u s':=
  fun {σ' H' v u} J rv q=>⟨v,H',J.os,J.bare,J.base,J.hok,rv,q⟩
 cases fl with
|ret u=>
  obtain⟨v,σ',H',J,rv,q⟩:=hs
  exact fin J rv q
|next=>
  obtain⟨σ',H',J,q⟩:=hs
  exact fin (v:=V.non) (u:=Value.none) J rfl q
|brk=>
  obtain⟨_,_,_,q⟩:=hs
  exact False.elim q
|cont=>
  obtain⟨_,_,_,q⟩:=hs
  exact False.elim q
structure FW (X:Cx) (k:Nat) (f:Str) (names exs:List Str):Prop where
 ex:∃(fa:Addr) (fd:FuncData) (ps:List Str),X.mg f=some (.ref fa)∧PySem.W.keepIn X.K (.ref fa)=true∧Binds X.K fd ps []∧FnP X.prog X.w X.K X.mg X.base (L2.CX X.prog X.w) k fa fd ps names exs
section
variable {X:Cx} {f n:Str} {i k:Nat} {names exs hits:List Str} {a:Addr} {oe:Obj} {cls:Value} {dd:Option Addr} {pn:List (Addr×Obj)} {p q pos r:Pos}
theorem pe_which (F:FW X k f names exs) (hr:Room k X.A) (hi:X.N[i]?=some n) (hv:Vis X.env.scope n) (dn:(n == ("__debug__":Str))=false∧(n == ("__classdict__":Str))=false) (hg:Gl X f) (hdb:(f == ("__debug__":Str))=false) (hh:∀x∈hits,x∈exs) (hz:Zc cls dd oe) (hf:∃vs,oe.data=.fields vs) :
  PE (X.suite a ((a,oe)::pn)) (.Call (.Name f p) [.Name n q] [] pos) (fun σ H Q=>σ[i]?=some (some (.ref a))∧H a=none∧∃(m:List Addr) (st:Sto) (x:Xc) (j:Nat),x.cls∈hits∧x.fld=none∧Rl X.K m H st∧XR X.K m H x cls dd∧whIx names x.cls=some j ∧
   ∀v m' H',Fut m H m' H'→Rl X.K m' H' st→VR X.K m' H' (.tup [.str refused,.int j]) v→Q v H'):=by
 obtain⟨fa,fd,ps,hm,hk,hb,F⟩:=F.ex
 have pvn:PE (X.suite a ((a,oe)::pn)) (.Name n q) (tVar i):=pe_var hi hv dn.1 dn.2
 have ha:PA (X.suite a ((a,oe)::pn)) [.Name n q] (tCons (tVar i) tNil):=pa_cons pvn pa_nil (starEach_cons rfl)
 refine⟨fun pins s σ H Q I ⟨h1,h2,m,st,x,j,hx,hfl,rl,xr,hj,hq⟩ => ?_⟩
 refine wpAny_Call_Name_kw (ld_glob I hg hm ?_ hdb)
 refine PySem.W.callWith_K (h₀:=X.base) I.ok.mod.kin hk (thn (ha.run pos pins s σ H (fun vs H'=>vs=[.ref a]∧H'=H) I ⟨.ref a,h1,rfl,rfl⟩) fun us s1 ⟨vs,H1,I1,rv,e1,e2⟩=>⟨I1.kIn,?_⟩) (starEach_cons rfl) rfl
 subst e1 e2
 obtain⟨u,rfl,ru⟩:=rv.one
 obtain rfl:u=Value.ref a:=ru
 have b:=hb s1 [.ref a] I1.kIn (by rw[List.append_nil,F.len];rfl)
 rw[List.append_nil] at b
 have P1:=I1.pin (a,oe) (List.mem_append_left _ List.mem_cons_self)
 have hpin:L2H.PinOk X.stack H1 s1 (a,oe):=⟨P1.1,P1.2.1,fun hm=>(List.mem_cons.mp (I1.stkSub a hm)).elim P1.2.2.1 P1.2.2.2.1,P1.2.2.2.2⟩
 obtain⟨C,x1,x2,x3⟩:=xr
 rw[hfl] at x3
 simp only at x3
 subst x2 x3
 show wpAny _ _ (call (.ref fa) [.ref a]) _ _ _
 refine wpAny_call (codeAny_mono (F.run _ X.stack s1 H1 ⟨[.ref a],[]⟩ (a,oe) x.cls C m st j Q (fun _ _ _=>False) ⟨hr.dp,hr.un⟩ hpin hz hf x1 (hh _ hx) hj I1.env0 b rl hq) fun r s' hq' => ?_)
 cases r with
|error e=>
  obtain⟨_,_,_,_,_,_,_,_,_,_,_,_,z⟩:=hq'
  exact z.elim
|ok fl=>
  cases fl with
 |ret u=>exact I1.after hq'
 |next=>exact False.elim hq'
 |brk=>exact False.elim hq'
 |cont=>exact False.elim hq'
theorem wh_suite (F:FW X k f names exs) (hr:Room k X.A) (hi:X.N[i]?=some n) (hv:Vis X.env.scope n) (dn:(n == ("__debug__":Str))=false∧(n == ("__classdict__":Str))=false) (hg:Gl X f) (hdb:(f == ("__debug__":Str))=false) (hh:∀x∈hits,x∈exs) (hz:Zc cls dd oe) (hf:∃vs,oe.data=.fields vs) :
  PSs (X.suite a ((a,oe)::pn)) [.Return (some (.Call (.Name f p) [.Name n q] [] pos)) r] (tsH X.K i (.wh i names false) hits a cls dd):=by
 refine (pss_one (ps_ret (pe_which F hr hi hv dn hg hdb hh hz hf))).imp fun D σ H ⟨h1,h2,ρ,m,st,x,d,hx,hl,rl,xr,hd,hq⟩ => ?_
 unfold hdl at hd
 simp only at hd
 cases e1:x.fld with
|some z=>rw[e1] at hd;cases hd
|none=>
  rw[e1] at hd
  simp only at hd
  cases e2:whIx names x.cls with
 |none=>rw[e2] at hd;cases hd
 |some j=>
   rw[e2] at hd
   simp only at hd
   by_cases h3:decide (i<ρ.length)=true
   ·rw[if_pos h3,if_neg (by decide)] at hd
    cases hd
    have h3:=of_decide_eq_true h3
    exact⟨h1 (by rw[←hl];exact h3),h2,m,st,x,j,hx,e1,rl,xr,e2,hq⟩
   ·rw[if_neg h3] at hd;cases hd
theorem wh_suite1 {k1:Nat} {pk ps:Pos} (F:FW X k f names exs) (hr:Room k X.A) (hi:X.N[i]?=some n) (hv:Vis X.env.scope n) (dn:(n == ("__debug__":Str))=false∧(n == ("__classdict__":Str))=false) (hg:Gl X f) (hdb:(f == ("__debug__":Str))=false) (hh:∀x∈hits,x∈exs) (hz:Zc cls dd oe) (hf:∃vs,oe.data=.fields vs) :
  PSs (X.suite a ((a,oe)::pn)) [.Return (some (.Subscript (.Call (.Name f p) [.Name n q] [] pos) (.Constant (.int 1) k1 pk) ps)) r] (tsH X.K i (.wh i names true) hits a cls dd):=by
 refine (pss_one (ps_ret (pe_ix ix_seq (pe_which F hr hi hv dn hg hdb hh hz hf) pe_int (fun _ _=>rfl)))).imp fun D σ H ⟨h1,h2,ρ,m,st,x,d,hx,hl,rl,xr,hd,hq⟩ => ?_
 unfold hdl at hd
 simp only at hd
 cases e1:x.fld with
|some z=>rw[e1] at hd;cases hd
|none=>
  rw[e1] at hd
  simp only at hd
  cases e2:whIx names x.cls with
 |none=>rw[e2] at hd;cases hd
 |some j=>
   rw[e2] at hd
   simp only at hd
   by_cases h3:decide (i<ρ.length)=true
   ·rw[if_pos h3,if_pos trivial] at hd
    cases hd
    have h3:=of_decide_eq_true h3
    refine⟨h1 (by rw[←hl];exact h3),h2,m,st,x,j,hx,e1,rl,xr,e2,fun v m' H' f' r' hv' => ?_⟩
    refine ix_ok (fun _ _ _ _=>False) σ m' H' st (.tup [.str refused,.int j]) (.int 1) v (.int 1) D.rt r' hv' (.int 1) ?_
    exact fun b m2 H2 f2 r2 ab=>hq b m2 H2 (f'.trans f2) r2 ab.1
   ·rw[if_neg h3] at hd;cases hd
end
end Dn
namespace Dn
open PySem L2
structure Gx where
 at_:Str→List Str
 cn:Str→Option (Str×Nat)
 mt:Str→List (Str×Str)
 mn:Str→Nat
 exs:Str→Bool
 sub:Str→List Str
 wh:Str→Option (List Str×List Str)
structure TC where
 N:List Str
 sc:Scope
 fnc:Str→Bool
 con:Str→Option D
 fns:Str→Option Nat
 dfl:Str→List D
 g:Gx
 dn:Str→Bool
 kw:Str→Option (Nat×List Str)
 kd:Str→Option (Nat×List D)
def vis (sc:Scope) (x:Str):Bool:=match sc.names.lookup x with
|some .local=>true
|some .cell=>true
|some .free=>true
|_=>false
def gl (sc:Scope) (x:Str):Bool:=match sc.names.lookup x with
|some .globalImplicit=>true
|_=>false
def slotAt (N:List Str) (x:Str):Option Nat:=N.findIdx? fun y=>decide (y=x)
def dbg (x:Str):Bool := !(x == ("__debug__":Str)) && !(x == ("__classdict__":Str))
def whenO {α:Type} (b:Bool) (k:Option α):Option α:=if b=true then k else none
theorem whenO_some {α:Type} {b:Bool} {k:Option α} {a:α} (h:whenO b k=some a):b=true∧k=some a:=by
 unfold whenO at h
 by_cases e:b=true
 ·rw[if_pos e] at h;exact⟨e,h⟩
 ·rw[if_neg e] at h;cases h
theorem bindO {α β:Type} {o:Option α} {f:α→Option β} {b:β} (h:o.bind f=some b):∃a,o=some a∧f a=some b:=Option.bind_eq_some_iff.mp h
def biOf (x:Str):Option Bi:=if x = "len" then some .len else if x = "sum" then some .sum else if x = "all" then some .all else if x = "any" then some .any else if x = "min" then some .min else if x = "max" then some .max
 else if x = "str" then some .str else if x = "int" then some .int else if x = "list" then some .list else if x = "tuple" then some .tuple else if x = "sorted" then some .sorted else none
theorem biOf_name {x:Str} {b:Bi} (h:biOf x=some b):x=b.name:=by
 unfold biOf at h
 repeat' (split at h)
 all_goals first|(cases h;assumption)|cases h
def meOf (x:Str):Option Me:=if x = "append" then some .append else if x = "extend" then some .extend else if x = "join" then some .join else if x = "count" then some .count else if x = "pop" then some .pop else if x = "index" then some .index else none
theorem meOf_name {x:Str} {b:Me} (h:meOf x=some b):x=b.name:=by
 unfold meOf at h
 repeat' (split at h)
 all_goals first|(cases h;assumption)|cases h
def tyOf (x:Str):Option Ty:=if x = "int" then some .int else if x = "bool" then some .bool else if x = "str" then some .str else if x = "tuple" then some .tuple else if x = "list" then some .list else none
theorem tyOf_name {x:Str} {b:Ty} (h:tyOf x=some b):x=b.name:=by
 unfold tyOf at h
 repeat' (split at h)
 all_goals first|(cases h;assumption)|cases h
def bltNames:List Str:=["len", "sum", "all", "any", "min", "max", "str", "int", "list", "tuple", "bool", "isinstance", "range", "enumerate", "zip", "dict", "set", "sorted", "ValueError"]
theorem Bi.mem (b:Bi):b.name∈bltNames:=by cases b <;> decide +kernel
theorem Ty.mem (b:Ty):b.name∈bltNames:=by cases b <;> decide +kernel
def trL (f:Expr→Option E):List Expr→Option (List E)
|[]=>some []
|e::r=>whenO (noStar e) ((f e).bind fun x=>(trL f r).bind fun xs=>some (x::xs))
def trB (op:BoolOp) (f:Expr→Option E):List Expr→Option E
|[]=>none
|[a]=>f a
|a::b::r=>(f a).bind fun x=>(trB op f (b::r)).bind fun y=>some (match op with
 |.And=>.and x y
 |.Or=>.or x y)
def trO (f:Expr→Option E):Option Expr→Option (List E)
|none=>some []
|some e=>(f e).bind fun x=>some [x]
def notSlice:Expr→Bool
|.Slice _ _ _ _=>false
|_=>true
def notSet:Expr→Bool
|.Set _ _ _=>false
|_=>true
def isTupE:Expr→Bool
|.Tuple _ _ _=>true
|_=>false
def plainBase:Expr→Bool
|.Call _ es _ _ => !es.isEmpty
|_=>true
def locOk (C:TC) (x:Str):Bool:=match C.sc.names.lookup x with
|some .local=>true
|some .cell=>C.fnc x
|_=>false
def trGs (f:Expr→Option G):List Expr→Option (List G)
|[]=>some []
|e::r=>whenO (noStar e) ((f e).bind fun x=>(trGs f r).bind fun xs=>some (x::xs))
def trG (C:TC) (n:Nat) (e:Expr):Option G:=match n with
|0=>none
|n+1=>match e with
 |.Name x _=>whenO (locOk C x) ((slotAt C.N x).bind fun i=>some (.nm i))
 |.Tuple es _ _=>(trGs (trG C n) es).bind fun gs=>some (.tp gs)
 |_=>none
def trIc (C:TC) (f:Expr→Option E) (tg:Expr) (x:Str) (args:List Expr):Option (Option (Ik×List E)):=
 if gl C.sc x=true then
  (if x = "range" then (match args with
  |[_]=>some ((trL f args).bind fun es=>some (.rng1,es))
  |[_,_]=>some ((trL f args).bind fun es=>some (.rng2,es))
  |[_,_,_]=>some ((trL f args).bind fun es=>some (.rng3,es))
  |_=>some none)
  else if x = "enumerate" then (match args with
  |[_]=>some (whenO (isTupE tg) ((trL f args).bind fun es=>some (.enu,es)))
  |_=>some none)
  else if x = "zip" then (match args with
  |[_,_]=>some (whenO (isTupE tg) ((trL f args).bind fun es=>some (.zip,es)))
  |_=>some none)
  else none)
 else none
def trIh (C:TC) (f:Expr→Option E) (tg:Expr) (fn:Expr) (args:List Expr) (kw:List Keyword):Option (Option (Ik×List E)):=match kw with
|[]=>(match fn with
 |.Name x _=>trIc C f tg x args
 |_=>none)
|_=>none
def trI (C:TC) (f:Expr→Option E) (tg e:Expr):Option (Ik×List E):=
 match (match e with
 |.Call fn args kw _=>trIh C f tg fn args kw
 |_=>none) with
|some r=>r
|none=>(f e).bind fun e=>some (.seq,[e])
def ownOf (N:List Str) (scope:Scope):List (Str×Nat):=scope.names.filterMap fun p=>match p.2 with
|.local=>(slotAt N p.1).map fun i=>(p.1,i)
|.cell=>(slotAt N p.1).map fun i=>(p.1,i)
|_=>none
def TC.blk (C:TC) (scope:Scope):TC:={C with sc:=relS scope C.sc,fnc:=fun x=>scope.names.lookup x == some .cell}
def trConst:Const→Option E
|.int i=>some (.k (.int i))
|.bool i=>some (.k (.bl i))
|.none=>some (.k .non)
|.str x=>some (.k (.str x.cps.toList))
|_=>none
def trUn (f:Expr→Option E) (a:Expr):UnaryOp→Option E
|.USub=>(f a).bind fun x=>some (.neg x)
|.Not=>(f a).bind fun x=>some (.not x)
|_=>none
def trCmp (f:Expr→Option E) (a:Expr) (os:List CmpOp) (bs:List Expr):Option E:=match os with
|[o]=>(match bs with
 |[b]=>whenO (!behindInMarks o b) ((f a).bind fun x=>(f b).bind fun y=>some (.cmp o x y))
 |_=>none)
|[o,p]=>(match bs with
 |[b,c]=>whenO (!behindInMarks p c) ((f a).bind fun x=>(f b).bind fun y=>(f c).bind fun z=>some (.cmp2 o p x y z))
 |_=>none)
|_=>none
def isM1 (lo hi:Option Expr) (st:Expr):Bool:=match lo with
|none=>(match hi with
 |none=>(match st with
  |.UnaryOp op c _=>(match op with
   |.USub=>(match c with
    |.Constant k _ _=>(match k with
     |.int i=>decide (i=1)
     |_=>false)
    |_=>false)
   |_=>false)
  |_=>false)
 |some _=>false)
|some _=>false
theorem isM1_ok {lo hi:Option Expr} {st:Expr} (h:isM1 lo hi st=true):lo=none∧hi=none∧∃k p1 p2,st=.UnaryOp .USub (.Constant (.int 1) k p1) p2:=by
 unfold isM1 at h
 repeat' (split at h)
 all_goals first|(have e:=of_decide_eq_true h;subst e;exact⟨rfl,rfl,_,_,_,rfl⟩)|cases h
def trSub (f:Expr→Option E) (a b:Expr):Option E:=match b with
|.Slice lo hi st _=>(match st with
 |none=>(f a).bind fun x=>(trO f lo).bind fun l=>(trO f hi).bind fun h=>some (.sl x l h)
 |some st=>whenO (isM1 lo hi st) ((f a).bind fun x=>some (.rv x)))
|b=>whenO (notSlice b) ((f a).bind fun x=>(f b).bind fun y=>some (.ix x y))
def trIsi (C:TC) (f:Expr→Option E) (e:Expr) (es:List Expr):Option E:=match es with
|[t]=>(match t with
 |.Name t _=>whenO (noStar e&&gl C.sc t) ((tyOf t).bind fun ty=>(f e).bind fun y=>some (.isi ty y))
 |_=>none)
|_=>none
def trFn (C:TC) (f:Expr→Option E) (x:Str) (e:Expr) (es:List Expr):Option E:=match C.fns x with
|some np=>if (e::es).length=np then (trL f (e::es)).bind fun es=>some (.call x es)
  else whenO (decide ((e::es).length<np)&&decide (np - (e::es).length≤(C.dfl x).length)) ((trL f (e::es)).bind fun xs=>some (.call x (xs++((C.dfl x).drop ((C.dfl x).length - (np - (e::es).length))).map E.k)))
|none=>match C.kd x with
 |some w=>whenO (decide ((e::es).length=w.1)) ((trL f (e::es)).bind fun xs=>some (.call x (xs++w.2.map E.k)))
 |none=>if x = "isinstance" then trIsi C f e es else (biOf x).bind fun b=>(trL f (e::es)).bind fun es=>some (.bi b es)
def trMe (f:Expr→Option E) (o:Expr) (a:Str) (apos:Pos) (es:List Expr) (pos:Pos):Option E:=
 whenO (plainBase o&&(apos.endLine == pos.line)&&decide (es.length<29)) ((meOf a).bind fun m=>(f o).bind fun y=>(trL f es).bind fun es=>some (.me m y es))
def trCall (C:TC) (f:Expr→Option E) (fn:Expr) (es:List Expr) (kw:List Keyword) (pos:Pos):Option E:=match kw with
|[]=>(match fn with
 |.Name x _=>(match es with
  |e::es=>whenO (gl C.sc x&&dbg x) (trFn C f x e es)
  |[]=>none)
 |.Attribute o a apos=>trMe f o a apos es pos
 |_=>none)
|_=>none
def trIfs (f:Expr→Option E):List Expr→Option (List E)
|[]=>some []
|[c]=>(f c).bind fun c=>some [c]
|_=>none
def trLc1 (C:TC) (f f':Expr→Option E) (g:Expr→Option G) (elt tg iter:Expr) (ifs:List Expr) (as:Int) (scope:Scope):Option E:=
 whenO (decide (as=0)&&notSet iter&&blkC C.N C.sc scope (ownOf C.N scope)) ((trI C f tg iter).bind fun w=>(g tg).bind fun t=>
  whenO (t.slots.all fun i=>((ownOf C.N scope).map (·.2)).contains i) ((trIfs f' ifs).bind fun cs=>(f' elt).bind fun e=>some (.lc ((ownOf C.N scope).map (·.2)) t w.1 w.2 cs e)))
def trLc2 (C:TC) (f f':Expr→Option E) (g:Expr→Option G) (elt tg iter tg1 iter1:Expr) (ifs ifs1:List Expr) (as as1:Int) (scope:Scope):Option E:=
 whenO (decide (as=0)&&notSet iter&&decide (as1=0)&&notSet iter1&&blkC C.N C.sc scope (ownOf C.N scope)) ((trI C f tg iter).bind fun w=>(g tg).bind fun t=>
  (trI (C.blk scope) f' tg1 iter1).bind fun w1=>(g tg1).bind fun t1=>
  whenO ((t.slots.all fun i=>((ownOf C.N scope).map (·.2)).contains i)&&(t1.slots.all fun i=>((ownOf C.N scope).map (·.2)).contains i))
   ((trIfs f' ifs).bind fun cs=>(trIfs f' ifs1).bind fun cs1=>(f' elt).bind fun e=>some (.lc2 ((ownOf C.N scope).map (·.2)) t1.slots t w.1 w.2 cs t1 w1.1 w1.2 cs1 e)))
def trLc (C:TC) (f f':Expr→Option E) (g:Expr→Option G) (elt:Expr) (gens:List Comprehension) (scope:Scope):Option E:=match gens with
|[⟨tg,iter,ifs,as⟩]=>trLc1 C f f' g elt tg iter ifs as scope
|[⟨tg,iter,ifs,as⟩,⟨tg1,iter1,ifs1,as1⟩]=>trLc2 C f f' g elt tg iter tg1 iter1 ifs ifs1 as as1 scope
|_=>none
def noLst:D→Bool
|.lst _=>false
|_=>true
def trName (C:TC) (x:Str):Option E:=whenO (dbg x) (if vis C.sc x=true then (slotAt C.N x).bind fun i=>some (.v i) else whenO (gl C.sc x) ((C.con x).bind fun d=>whenO (noLst d) (some (.k d))))
def isCall1 (e:Expr):Option (Str×Expr):=match e with
|.Call fn es kw _=>(match fn with
 |.Name x _=>(match kw with
  |[]=>(match es with
   |[a]=>some (x,a)
   |_=>none)
  |_=>none)
 |_=>none)
|_=>none
theorem isCall1_ok {e:Expr} {x:Str} {a:Expr} (h:isCall1 e=some (x,a)):∃p q,e=.Call (.Name x p) [a] [] q:=by
 unfold isCall1 at h
 repeat' (split at h)
 all_goals first|(cases h;exact⟨_,_,rfl⟩)|cases h
def isKey:Option Expr→Option (List Nat)
|some e=>(match e with
 |.Constant c _ _=>(match c with
  |.str x=>some x.cps.toList
  |_=>none)
 |_=>none)
|none=>none
theorem isKey_ok {o:Option Expr} {x:List Nat} (h:isKey o=some x):∃s k p,o=some (.Constant (.str s) k p)∧s.cps.toList=x:=by
 unfold isKey at h
 repeat' (split at h)
 all_goals first|(cases h;exact⟨_,_,_,rfl,rfl⟩)|cases h
def trKs:List (Option Expr)→Option (List (List Nat))
|[]=>some []
|k::ks=>(isKey k).bind fun x=>(trKs ks).bind fun xs=>some (x::xs)
def trDisp (f:Expr→Option E) (e:Expr):Option (List (List Nat)×List E):=match e with
|.Dict keys values _=>(trKs keys).bind fun ks=>(trL f values).bind fun vs=>whenO (decide (ks.length=vs.length)&&decide (ks.length≤15)&&decide (0<ks.length)) (some (ks,vs))
|_=>none
def isDict:Expr→Bool
|.Dict _ _ _=>true
|_=>false
def isMeth (e:Expr):Option (Expr×Str×List Expr×Pos×Pos):=match e with
|.Call fn es kw pos=>(match fn with
 |.Attribute o a apos=>(match kw with
  |[]=>some (o,a,es,apos,pos)
  |_=>none)
 |_=>none)
|_=>none
theorem isMeth_ok {e o:Expr} {a:Str} {es:List Expr} {apos pos:Pos} (h:isMeth e=some (o,a,es,apos,pos)):e=.Call (.Attribute o a apos) es [] pos:=by
 unfold isMeth at h
 repeat' (split at h)
 all_goals first|(cases h;rfl)|cases h
def isSub (e:Expr):Option (Expr×Expr):=match e with
|.Subscript a b _=>some (a,b)
|_=>none
def trX (C:TC) (f:Expr→Option E) (e:Expr):Option (Option E):=
 match isSub e with
|some (a,b)=>if isDict a=true then some (whenO (notSlice b) ((trDisp f a).bind fun d=>(f b).bind fun y=>some (.dg .sub d.1 d.2 y [])))
  else match isCall1 a with
  |some (x,c)=>if x = "dict" then some (whenO (gl C.sc x&&noStar c&&notSlice b) ((f c).bind fun z=>(f b).bind fun y=>some (.dsub z y))) else none
  |none=>none
|none=>match isCall1 e with
 |some (x,a)=>(match isCall1 a with
  |some (y,b)=>if (decide (x = "len")&&decide (y = "set"))=true then some (whenO (gl C.sc x&&gl C.sc y&&noStar b) ((f b).bind fun z=>some (.lset z)))
    else if (decide (x = "list")&&decide (y = "range"))=true then some (whenO (gl C.sc x&&gl C.sc y&&noStar b) ((f b).bind fun z=>some (.rngL [z]))) else none
  |none=>if x = "dict" then some (whenO (gl C.sc x&&noStar a) ((f a).bind fun z=>some (.dof z))) else none)
 |none=>match isMeth e with
  |some (o,a,es,apos,pos)=>if (isDict o&&decide (a = "get"))=true then (match es with
    |[k]=>some (whenO ((apos.endLine == pos.line)&&noStar k) ((trDisp f o).bind fun d=>(f k).bind fun y=>some (.dg .get1 d.1 d.2 y [])))
    |[k,c]=>some (whenO ((apos.endLine == pos.line)&&noStar k&&noStar c) ((trDisp f o).bind fun d=>(f k).bind fun y=>(f c).bind fun z=>some (.dg .get2 d.1 d.2 y [z])))
    |_=>none) else none
  |none=>none
def trE0 (C:TC) (f:Expr→Option E) (fb:Scope→Expr→Option E) (fg:Scope→Expr→Option G) (e:Expr):Option E:=match e with
|.Constant c _ _=>trConst c
|.Name x _=>trName C x
|.Tuple es _ _=>(trL f es).bind fun es=>some (.tup es)
|.List es _=>(trL f es).bind fun es=>some (.lst es)
|.BinOp a o b _=>(f a).bind fun x=>(f b).bind fun y=>some (.bin o x y)
|.UnaryOp op a _=>trUn f a op
|.BoolOp op es _=>trB op f es
|.Compare a os bs _=>trCmp f a os bs
|.IfExp c a b _=>(f c).bind fun z=>(f a).bind fun x=>(f b).bind fun y=>some (.ite z x y)
|.Subscript a b _=>trSub f a b
|.Call fn es kw pos=>trCall C f fn es kw pos
|.ListComp elt gens scope _=>trLc C f (fb scope) (fg scope) elt gens scope
|_=>none
def trNew (C:TC) (f:Expr→Option E) (x:Str) (es:List Expr):Option (Option E):=match C.g.cn x with
|some (g,np)=>some (whenO (gl C.sc x&&dbg x&&decide (es.length+1=np)) ((trL f es).bind fun xs=>some (.new x g xs)))
|none=>if es.isEmpty=true then some (whenO (gl C.sc x&&dbg x&&decide (C.fns x=some 0)) (some (.call x []))) else none
def trMc (C:TC) (f:Expr→Option E) (o:Expr) (m:Str) (apos:Pos) (es:List Expr) (pos:Pos):Option (Option E):=match (C.g.mt m).filter (fun q=>decide (es.length+1=C.g.mn q.2)) with
|[]=>none
|c::cs=>some (whenO (plainBase o&&(apos.endLine == pos.line)&&decide (es.length<29)) ((f o).bind fun y=>(trL f es).bind fun xs=>some (.mc m (c::cs) y xs)))
def trY (C:TC) (f:Expr→Option E) (e:Expr):Option (Option E):=match e with
|.Attribute o a _=>some (whenO (plainBase o) ((f o).bind fun y=>some (.attr (C.g.at_ a) y a)))
|.Call fn es kw pos=>(match kw with
 |[]=>(match fn with
  |.Name x _=>trNew C f x es
  |.Attribute o m apos=>trMc C f o m apos es pos
  |_=>none)
 |_=>none)
|_=>none
def trFl (f:Expr→Option E):List (Option Expr)→List Expr→Option (List E)
|[],[]=>some []
|some k::ks,v::vs=>(f k).bind fun x=>(f v).bind fun y=>(trFl f ks vs).bind fun r=>some (x::y::r)
|_,_=>none
def dnm (C:TC) (e:Expr):Bool:=match e with
|.Name x _=>C.dn x
|_=>false
def trDm (f:Expr→Option E) (o:Expr) (a:Str) (apos:Pos) (es:List Expr) (pos:Pos):Option (Option E):=match es with
|[k]=>if a = "get" then some (whenO (plainBase o&&(apos.endLine == pos.line)&&noStar k) ((f o).bind fun x=>(f k).bind fun y=>some (.dm .get x [y])))
  else if a = "update" then some (whenO (plainBase o&&(apos.endLine == pos.line)&&noStar k) ((f o).bind fun x=>(f k).bind fun y=>some (.dm .upd x [y]))) else none
|[k,c]=>if a = "get" then some (whenO (plainBase o&&(apos.endLine == pos.line)&&noStar k&&noStar c) ((f o).bind fun x=>(f k).bind fun y=>(f c).bind fun z=>some (.dm .get x [y,z]))) else none
|_=>none
def trDc (f:Expr→Option E) (a:Expr) (os:List CmpOp) (o:Expr):Option (Option E):=match os with
|[.In]=>some (whenO (!behindInMarks .In o) ((f a).bind fun y=>(f o).bind fun x=>some (.din false y x)))
|[.NotIn]=>some (whenO (!behindInMarks .NotIn o) ((f a).bind fun y=>(f o).bind fun x=>some (.din true y x)))
|_=>none
def isTup:D→Option (List D)
|.tup xs=>some xs
|_=>none
def trKx (C:TC) (f:Expr→Option E) (o:Expr) (a:Str) (apos:Pos) (es:List Expr) (pos:Pos):Option (Option E):=match o with
|.Name x _=>if (gl C.sc x&&decide (a = "index"))=true then (match (C.con x).bind isTup,es with
 |some xs,[e]=>some (whenO (dbg x&&(apos.endLine == pos.line)&&noStar e) ((f e).bind fun y=>some (.kix xs y)))
 |_,_=>none) else none
|_=>none
def isNames:List Expr→Option (List Str)
|[]=>some []
|.Name x _::r=>(isNames r).bind fun xs=>some (x::xs)
|_=>none
def trFx (C:TC) (f:Expr→Option E) (ns:List Expr) (i:Expr) (es:List Expr):Option (Option E):=
 some (whenO (notSlice i&&es.all noStar && !es.isEmpty) ((isNames ns).bind fun fs=>whenO (decide (fs.length≤1000)&&fs.all fun x=>gl C.sc x&&dbg x&&decide (C.fns x=some es.length)) ((f i).bind fun y=>(trL f es).bind fun xs=>some (.callX fs y xs))))
def trKv (f:Expr→Option E):List Keyword→Option (List E)
|[]=>some []
|k::r=>(f k.value).bind fun x=>(trKv f r).bind fun xs=>some (x::xs)
def isNm:Expr→Option Str
|.Name x _=>some x
|_=>none
def trKw (C:TC) (f:Expr→Option E) (fn:Expr) (es:List Expr) (kws:List Keyword):Option (Option E):=match isNm fn with
|some x=>(match C.kw x with
 |some w=>some (whenO (gl C.sc x&&dbg x&&decide (es.length=w.1)&&decide (w.1≤w.2.length) && !es.isEmpty&&es.all noStar&&decide (kwNames kws=some (w.2.drop w.1))) ((trL f es).bind fun xs=>(trKv f kws).bind fun ys=>some (.call x (xs++ys))))
 |none=>none)
|none=>none
def trFxK (C:TC) (f:Expr→Option E) (ns:List Expr) (i:Expr) (es:List Expr) (kws:List Keyword):Option (Option E):=
 some ((isNames ns).bind fun fs=>match fs with
 |[]=>none
 |x::r=>(match C.kw x with
  |some w=>whenO (notSlice i&&es.all noStar && !es.isEmpty&&decide (es.length=w.1)&&decide (w.1≤w.2.length)&&decide (kwNames kws=some (w.2.drop w.1))&&decide ((x::r).length≤1000)&&(x::r).all fun x=>gl C.sc x&&dbg x&&decide (C.kw x=some w))
     ((f i).bind fun y=>(trL f es).bind fun xs=>(trKv f kws).bind fun ys=>some (.callX (x::r) y (xs++ys)))
  |none=>none))
def isFl:Expr→Option (List Expr×Expr)
|.Subscript (.List ns _) i _=>some (ns,i)
|_=>none
theorem isFl_ok {e:Expr} {w:List Expr×Expr} (h:isFl e=some w):∃p q,e=.Subscript (.List w.1 p) w.2 q:=by
 unfold isFl at h
 split at h
 ·cases h;exact⟨_,_,rfl⟩
 ·cases h
def trD (C:TC) (f:Expr→Option E) (e:Expr):Option (Option E):=match e with
|.Dict keys values _=>if (keys.isEmpty&&values.isEmpty)=true then some (some .dnew) else some (whenO (decide (keys.length=values.length)&&decide (keys.length≤15) && !keys.isEmpty&&keys.all (·.isSome)) ((trFl f keys values).bind fun xs=>some (.dlit xs)))
|.Subscript o k _=>if dnm C o=true then some (whenO (notSlice k) ((f o).bind fun x=>(f k).bind fun y=>some (.dm .ix x [y]))) else none
|.Call fn es kw pos=>(match kw with
 |[]=>(match fn with
  |.Attribute o a apos=>if dnm C o=true then trDm f o a apos es pos else trKx C f o a apos es pos
  |fn=>(match isFl fn with
   |some w=>trFx C f w.1 w.2 es
   |none=>none))
 |kw=>(match isFl fn with
  |some w=>trFxK C f w.1 w.2 es kw
  |none=>trKw C f fn es kw))
|.Compare a os bs _=>(match bs with
 |[o]=>if dnm C o=true then trDc f a os o else none
 |_=>none)
|_=>none
def trE (C:TC) (n:Nat) (e:Expr):Option E:=match n with
|0=>none
|n+1=>match trD C (trE C n) e with
 |some r=>r
 |none=>match trY C (trE C n) e with
 |some r=>r
 |none=>match trX C (trE C n) e with
 |some r=>r
 |none=>trE0 C (trE C n) (fun s=>trE (C.blk s) n) (fun s=>trG (C.blk s) n) e
def fr:E→Bool
|.v _=>false
|.dsub _ _=>false
|.dg _ _ _ _ _=>false
|.ix _ _=>false
|.call _ _=>false
|.me _ _ _=>false
|.and _ _=>false
|.or _ _=>false
|.ite _ _ _=>false
|.box _=>false
|.attr _ _ _=>false
|.new _ _ _=>false
|.mc _ _ _ _=>false
|.dnew=>false
|.dof _=>false
|.dlit _=>false
|.dm _ _ _=>false
|.din _ _ _=>false
|.kix _ _=>false
|.callX _ _ _=>false
|_=>true
structure Ok (X:Cx) (C:TC) (cf:Cf) (k:Nat) (W:WX):Prop where
 hN:X.N=C.N
 nd:C.N.Nodup
 hsc:X.env.scope=C.sc
 kind:C.sc.kind=.function
 fn_:∀x,X.fn x=C.fnc x
 calm:X.calm=true
 room1:Room (k+1) X.A
 tk:Takes X W
 blt:∀x∈bltNames,X.mg x=none
 con:∀x d,C.con x=some d→∃u v,X.mg x=some u∧RelV v u∧∀m H,VR X.K m H d v
 fns:∀x np,C.fns x=some np→FL X k x np (cf.fn x)
 dfl:∀x np j,C.fns x=some np→j<(C.dfl x).length→FLD X k x np (cf.fn x) ((C.dfl x).drop j)
 at_:∀f c,c∈C.g.at_ f→CA X c f
 cn:∀c g np,C.g.cn c=some (g,np)→MKL X k c np (cf.fn g)
 mt:∀m c g,(c,g)∈C.g.mt m→ML X k c m (C.g.mn g) (cf.fn g)
 kw:∀x n ps,C.kw x=some (n,ps)→KFL X k x ps n (cf.fn x)
 kd:∀x n ds,C.kd x=some (n,ds)→FLD X k x (n+ds.length) (cf.fn x) ds
theorem Ok.room {X:Cx} {C:TC} {cf:Cf} {k:Nat} {W:WX} (o:Ok X C cf k W):Room k X.A:=o.room1.mono (Nat.le_succ _)
theorem Ok.blk {X:Cx} {C:TC} {cf:Cf} {k:Nat} {W:WX} (o:Ok X C cf k W) {scope:Scope} (hk:scope.kind=.function) (s:Shared) (H:Hp) (Cc:Addr) (cl:List (Str×Addr)) (fp:List Addr) :
  Ok (X.blk s H scope (compEnvC scope cl Cc X.env) fp) (C.blk scope) cf k W0:=by
 refine⟨o.hN,o.nd,?_,hk,fun x=>rfl,o.calm,o.room1,takes0,o.blt,o.con,fun x np h=>⟨(o.fns x np h).ex⟩,fun x np j h hj=>⟨(o.dfl x np j h hj).ex⟩,o.at_,fun c g np h=>⟨(o.cn c g np h).ex⟩,fun m c g h=>⟨(o.mt m c g h).ex⟩,fun x n ps h=>⟨(o.kw x n ps h).ex⟩,fun x n ds h=>⟨(o.kd x n ds h).ex⟩⟩
 show relabel scope X.env=relS scope C.sc
 rw[←o.hsc] <;> rfl
theorem slotAt_ok {N:List Str} {x:Str} {i:Nat} (h:slotAt N x=some i):N[i]?=some x:=by
 unfold slotAt at h
 obtain⟨hi,h1,_⟩:=List.findIdx?_eq_some_iff_getElem.mp h
 rw[List.getElem?_eq_getElem hi,of_decide_eq_true h1]
theorem vis_ok {sc:Scope} {x:Str} (h:vis sc x=true):Vis sc x:=by
 unfold vis at h
 split at h
 ·exact .inl (by assumption)
 ·exact .inr (.inl (by assumption))
 ·exact .inr (.inr (by assumption))
 ·cases h
section
variable {X:Cx} {C:TC} {cf:Cf} {k:Nat} {W:WX} (ok:Ok X C cf k W)
include ok
theorem Ok.gl {x:Str} (h:Dn.gl C.sc x=true):Gl X x:=by
 show X.env.scope.names.lookup x=_
 rw[ok.hsc]
 unfold Dn.gl at h
 split at h
 ·assumption
 ·cases h
theorem Ok.loc {x:Str} (h:locOk C x=true):Loc X.env.scope x∧(X.fn x=true∨X.env.scope.names.lookup x=some .local):=by
 rw[ok.hsc,ok.fn_]
 unfold locOk at h
 split at h
 ·exact⟨.inl (by assumption),.inr (by assumption)⟩
 ·exact⟨.inr (by assumption),.inl h⟩
 ·cases h
theorem Ok.units:X.A.units+64<cLine:=ok.room.units
end
theorem assignEach_cons {e:Expr} {es:List Expr} {env:PySem.Env} (h:noStar e=true):assignEach (e::es) env=(false,assign e env)::assignEach es env:=by
 cases e <;> first|rfl|exact nomatch h
theorem trG_ok {cf:Cf} {k:Nat} {W:WX}:∀(n:Nat) {X:Cx} {C:TC} (ok:Ok X C cf k W) (tg:Expr) (t:G),trG C n tg=some t→PG X tg (t.tg X.K)
|0,X,C,ok,tg,t,h=>by simp[trG] at h
|n+1,X,C,ok,tg,t,h=>by
  cases tg with
 |Name x p=>
   rw[trG] at h
   obtain⟨hl,h⟩:=whenO_some h
   obtain⟨i,hi,h⟩:=bindO h
   cases h
   obtain⟨h1,h2⟩:=ok.loc hl
   rw[G.tg]
   exact pg_name (by rw[ok.hN];exact ok.nd) (by rw[ok.hN];exact slotAt_ok hi) h1 h2
 |Tuple es j p=>
   rw[trG] at h
   obtain⟨gs,hg,h⟩:=bindO h
   cases h
   have key:∀(es:List Expr) (gs:List G),trGs (trG C n) es=some gs→PGs X es (G.tgs X.K gs)∧(assignEach es X.env).length=gs.length∧(assignEach es X.env).findIdx? (·.1)=none:=by
    intro es
    induction es with
   |nil=>
     intro gs hg
     cases hg
     rw[G.tgs]
     exact⟨pgs_nil,rfl,rfl⟩
   |cons e es ih=>
     intro gs hg
     rw[trGs] at hg
     obtain⟨hs,hg⟩:=whenO_some hg
     obtain⟨x,hx,hg⟩:=bindO hg
     obtain⟨xs,hxs,hg⟩:=bindO hg
     cases hg
     obtain⟨h1,h2,h3⟩:=ih xs hxs
     rw[G.tgs,assignEach_cons hs]
     refine⟨pgs_cons (trG_ok n ok e x hx) h1 (by rw[assignEach_cons hs];rfl),by rw[List.length_cons,List.length_cons,h2],?_⟩
     rw[List.findIdx?_cons,h3] <;> rfl
   obtain⟨h1,h2,h3⟩:=key es gs hg
   rw[G.tg]
   have p1:=pg_tup (pos:=p) (k:=j) ok.calm h1 h2 h3
   have p2:=pg_lst (pos:=p) (k:=j) ok.calm h1 h2 h3
   exact⟨fun pins s σ H v u Q I r q=>q.elim (fun q=>p1.run pins s σ H v u Q I r q) (fun q=>p2.run pins s σ H v u Q I r q)⟩
 |_=>simp[trG] at h
theorem dens_len {cf:Cf}:∀(es:List E) {ρ:Env} {st st1:Sto} {ds:List D},dens cf es ρ st=.ok ds st1→ds.length=es.length
|[],ρ,st,st1,ds,h=>by
  simp only[dens,M.pure] at h
  cases h
  rfl
|e::es,ρ,st,st1,ds,h=>by
  rw[dens] at h
  cases q:den cf e ρ st with
 |no=>rw[bindM_no q] at h;cases h
 |ex x s=>rw[bindM_ex q] at h;cases h
 |ok d s=>
   rw[bindM_ok q] at h
   cases q2:dens cf es ρ s with
  |no=>rw[bindM_no q2] at h;cases h
  |ex x s=>rw[bindM_ex q2] at h;cases h
  |ok ds' s2=>
    rw[bindM_ok q2] at h
    cases h
    rw[List.length_cons,List.length_cons,dens_len es q2]
def Good (X:Cx) (W:WX) (cf:Cf) (e:Expr) (e':E):Prop:=SE X W e (den cf e') (fr e')∧ST X W e (tst cf e')
theorem trL_ok {X:Cx} {W:WX} {cf:Cf} {f:Expr→Option E} (ih:∀e e',f e=some e'→Good X W cf e e'):∀(es:List Expr) (es':List E),trL f es=some es'→SA X W es (dens cf es')∧es.all noStar=true∧es.length=es'.length
|[],es',h=>by
  cases h
  refine⟨?_,rfl,rfl⟩
  have e:dens cf []=fun _=>M.pure []:=by funext ρ;rw[dens]
  rw[e]
  exact sa_nil
|e::es,es',h=>by
  rw[trL] at h
  obtain⟨hs,h⟩:=whenO_some h
  obtain⟨x,hx,h⟩:=bindO h
  obtain⟨xs,hxs,h⟩:=bindO h
  cases h
  obtain⟨h1,h2,h3⟩:=trL_ok ih es xs hxs
  refine⟨?_,by rw[List.all_cons,hs,h2];rfl,by rw[List.length_cons,List.length_cons,h3]⟩
  have e1:dens cf (x::xs)=fun ρ=>M.bind (den cf x ρ) fun d=>M.bind (dens cf xs ρ) fun ds=>M.pure (d::ds):=by funext ρ;rw[dens]
  rw[e1]
  exact sa_cons hs (ih e x hx).1.any h1
end Dn
namespace Dn
open PySem L2
section
variable {X:Cx} {C:TC} {cf:Cf} {k:Nat} {W:WX} {e a b:Expr} {e' x y z:E} {pos:Pos}
def plainE:E→Bool
|.not _=>false
|.and _ _=>false
|.or _ _=>false
|.ite _ _ _=>false
|_=>true
theorem tst_pl {cf:Cf} {e':E} (h:plainE e'=true):tst cf e'=fun ρ=>M.bind (den cf e' ρ) truth:=by
 funext ρ
 cases e' <;> first|(simp[plainE] at h;done)|(rw[tst] <;> (intros;contradiction))
theorem good_of (he:∀whole,isTrue e X.env whole=(do let v ←whole;standAt e.pos;holding [v] (truthy v))) (ht:tst cf e'=fun ρ=>M.bind (den cf e' ρ) truth) (h:SE X W e (den cf e') (fr e')):Good X W cf e e':=
 ⟨h,by rw[ht];exact st_tru he h.any⟩
theorem and_ok {f:Expr→Option E} (ih:∀e e',f e=some e'→Good X W cf e e'):∀(es:List Expr) (e':E),trB .And f es=some e'→SE X W (.BoolOp .And es pos) (den cf e') false∧SW X W (.BoolOp .And es pos) (tst cf e')
|[],e',h=>by cases h
|[a],e',h=>⟨se_one (ih a e' h).1.any,sw_and1 (ih a e' h).2⟩
|a::b::r,e',h=>by
  rw[trB] at h
  obtain⟨x,hx,h⟩:=bindO h
  obtain⟨y,hy,h⟩:=bindO h
  cases h
  obtain⟨h1,h2⟩:=and_ok ih (b::r) y hy
  refine⟨?_,?_⟩
  ·have e1:den cf (.and x y)=fun ρ=>M.bind (den cf x ρ) fun v=>M.bind (truth v) fun t=>if t then den cf y ρ else M.pure v:=by funext ρ;rw[den]
   rw[e1]
   exact se_and (ih a x hx).1.any h1
  ·have e1:tst cf (.and x y)=fun ρ=>M.bind (tst cf x ρ) fun t=>if t then tst cf y ρ else M.pure false:=by funext ρ;rw[tst]
   rw[e1]
   exact sw_and (ih a x hx).2 h2
theorem or_ok {f:Expr→Option E} (ih:∀e e',f e=some e'→Good X W cf e e'):∀(es:List Expr) (e':E),trB .Or f es=some e'→SE X W (.BoolOp .Or es pos) (den cf e') false∧SW X W (.BoolOp .Or es pos) (tst cf e')
|[],e',h=>by cases h
|[a],e',h=>⟨se_one (ih a e' h).1.any,sw_or1 (ih a e' h).2⟩
|a::b::r,e',h=>by
  rw[trB] at h
  obtain⟨x,hx,h⟩:=bindO h
  obtain⟨y,hy,h⟩:=bindO h
  cases h
  obtain⟨h1,h2⟩:=or_ok ih (b::r) y hy
  refine⟨?_,?_⟩
  ·have e1:den cf (.or x y)=fun ρ=>M.bind (den cf x ρ) fun v=>M.bind (truth v) fun t=>if t then M.pure v else den cf y ρ:=by funext ρ;rw[den]
   rw[e1]
   exact se_or (ih a x hx).1.any h1
  ·have e1:tst cf (.or x y)=fun ρ=>M.bind (tst cf x ρ) fun t=>if t then M.pure true else tst cf y ρ:=by funext ρ;rw[tst]
   rw[e1]
   exact sw_or (ih a x hx).2 h2
theorem trO_ok {f:Expr→Option E} (ih:∀e e',f e=some e'→Good X W cf e e') {o:Option Expr} {l:List E} (h:trO f o=some l):SO X W o (part cf l):=by
 cases o with
|none=>
  cases h
  have e1:part cf []=fun _=>M.pure none:=by funext ρ;rw[part]
  rw[e1]
  exact so_none
|some e=>
  obtain⟨x,hx,h⟩:=bindO h
  cases h
  have e1:part cf [x]=fun ρ=>M.bind (den cf x ρ) fun d=>M.bind (asInt? d) fun i=>M.pure (some i):=by funext ρ;rw[part]
  rw[e1]
  exact so_some (ih e x hx).1.any
theorem plainIx_of {b:Expr} (h:notSlice b=true):PlainIx b:=by
 intro o i
 cases b <;> first|rfl|exact nomatch h
theorem attrBase_of {o:Expr} {x:Str} {env:PySem.Env} (h:plainBase o=true):attributeBase o x env (eval o env)=eval o env:=by
 cases o with
|Call fn es kw p=>
  cases es with
 |nil=>cases h
 |cons e1 es=>cases fn <;> rfl
|_=>rfl
theorem fold_of {e:Expr} {env:PySem.Env} (h:notSet e=true) (x:Value):foldedSetIterable e env x=pure x:=by
 cases e <;> first|rfl|exact nomatch h
theorem _root_.L2.PTs.imp {X:Cx} {es:List Expr} {t t':TT} (h:PTs X es t) (hi:∀σ H Q,t' σ H Q→t σ H Q):PTs X es t':=⟨fun pins s σ H Q I q=>h.run pins s σ H Q I (hi _ _ _ q)⟩
theorem trIfs_ok {f:Expr→Option E} (ih:∀e e',f e=some e'→Good X W cf e e') {cs:List Expr} {cs':List E} (h:trIfs f cs=some cs'):PTs X cs (rd aB X.K W (tsts cf cs')):=by
 match cs,h with
|[],h=>
  cases h
  rw[show tsts cf []=fun _=>M.pure true by funext ρ;rw[tsts]]
  exact pts_nil.imp fun σ H Q ⟨ρ,m,st,er,rl,p⟩=>p true m H .refl rl rfl
|[c],h=>
  obtain⟨x,hx,h⟩:=bindO h
  cases h
  have e1:tsts cf [x]=fun ρ=>M.bind (tst cf x ρ) fun t=>if t then M.pure true else M.pure false:=by funext ρ;rw[tsts,tsts]
  rw[e1]
  refine (pts_one (ih c x hx).2).imp fun σ H Q h=>rd_bind laterB h fun ρ t u st1 m m1 H1 f1 r1 er ab p => ?_
  cases ab
  cases t with
 |true=>exact p true m1 H1 .refl r1 rfl
 |false=>exact p false m1 H1 .refl r1 rfl
|_::_::_,h=>cases h
theorem dens_ks {cf:Cf} {cs:List D}:∀(xs:List E) (ρ:Env),dens cf (xs++cs.map E.k) ρ=M.bind (dens cf xs ρ) fun ds=>M.pure (ds++cs)
|[],ρ=>by
  rw[List.nil_append]
  have h:dens cf (cs.map E.k) ρ=M.pure cs:=by
   induction cs with
  |nil=>rw[List.map_nil,dens]
  |cons c cs ih=>rw[List.map_cons,dens,ih,den];rfl
  rw[h,dens] <;> rfl
|x::xs,ρ=>by
  rw[List.cons_append,dens,dens_ks xs ρ,dens]
  simp only[M.bind_assoc] <;> rfl
theorem call_ok {f:Expr→Option E} (ok:Ok X C cf k W) (ih:∀e e',f e=some e'→Good X W cf e e') {fn:Expr} {es:List Expr} {kw:List Keyword} (h:trCall C f fn es kw pos=some e'):SE X W (.Call fn es kw pos) (den cf e') (fr e')∧tst cf e'=fun ρ=>M.bind (den cf e' ρ) truth:=by
 cases kw with
|cons q r=>simp[trCall] at h
|nil=>
  cases fn with
 |Name x p=>
   cases es with
  |nil=>simp[trCall] at h
  |cons e1 es=>
    replace h:whenO (gl C.sc x&&dbg x) (trFn C f x e1 es)=some e':=h
    obtain⟨hg,hh⟩:=whenO_some h
    clear h
    have h:=hh
    clear hh
    obtain⟨hg,hd⟩:=and3 hg
    have hg':=ok.gl hg
    obtain⟨hd1,hd2⟩:=and3 hd
    have hd1:(x == ("__debug__":Str))=false:=by simpa using hd1
    unfold trFn at h
    cases hf:C.fns x with
   |some np=>
     rw[hf] at h
     simp only at h
     by_cases hn:(e1::es).length=np
     ·rw[if_pos hn] at h
      obtain⟨xs,hx,h⟩:=bindO h
      cases h
      obtain⟨h1,h2,h3⟩:=trL_ok ih _ _ hx
      have e2:den cf (.call x xs)=fun ρ=>M.bind (dens cf xs ρ) fun ds=>callV false (cf.fn x ds):=by funext ρ;rw[den]
      refine⟨?_,tst_pl rfl⟩
      rw[e2]
      exact se_call (ok.fns x np hf) ok.room ok.tk hg' hd1 h2 hn (fun ρ st ds st1 q=>by rw[dens_len xs q,←h3];exact hn) h1
     ·rw[if_neg hn] at h
      obtain⟨hl,h⟩:=whenO_some h
      obtain⟨hl1,hl2⟩:=and3 hl
      have hl1:=of_decide_eq_true hl1
      have hl2:=of_decide_eq_true hl2
      obtain⟨xs,hx,h⟩:=bindO h
      cases h
      obtain⟨h1,h2,h3⟩:=trL_ok ih _ _ hx
      refine⟨?_,tst_pl rfl⟩
      rw[show den cf (.call x (xs++((C.dfl x).drop ((C.dfl x).length - (np - (e1::es).length))).map E.k))=fun ρ=>M.bind (dens cf xs ρ) fun ds=>callV false (cf.fn x (ds++(C.dfl x).drop ((C.dfl x).length - (np - (e1::es).length)))) by
       funext ρ;rw[den,dens_ks,M.bind_assoc];rfl]
      exact se_callD (ok.dfl x np _ hf (by omega)) ok.room ok.tk hg' hd1 h2 (fun ρ st ds st1 q=>by rw[dens_len xs q,←h3,List.length_drop];omega) h1
   |none=>
     rw[hf] at h
     simp only at h
     cases hkd:C.kd x with
    |some w=>
      obtain⟨kn,cs⟩:=w
      rw[hkd] at h
      obtain⟨hl,h⟩:=whenO_some h
      have hl:=of_decide_eq_true hl
      obtain⟨xs,hx,h⟩:=bindO h
      cases h
      obtain⟨h1,h2,h3⟩:=trL_ok ih _ _ hx
      refine⟨?_,tst_pl rfl⟩
      rw[show den cf (.call x (xs++cs.map E.k))=fun ρ=>M.bind (dens cf xs ρ) fun ds=>callV false (cf.fn x (ds++cs)) by
       funext ρ;rw[den,dens_ks,M.bind_assoc];rfl]
      exact se_callD (ok.kd x kn cs hkd) ok.room ok.tk hg' hd1 h2 (fun ρ st ds st1 q=>by rw[dens_len xs q,←h3,hl]) h1
    |none=>
     rw[hkd] at h
     simp only at h
     by_cases hi:x = "isinstance"
     ·rw[if_pos hi] at h
      subst hi
      replace h:trIsi C f e1 es=some e':=h
      unfold trIsi at h
      split at h
      ·split at h
       ·rename_i t pt
        obtain⟨hc,h⟩:=whenO_some h
        obtain⟨hs,ht⟩:=and3 hc
        obtain⟨ty,hty,h⟩:=bindO h
        obtain⟨y,hy,h⟩:=bindO h
        cases h
        have e2:den cf (.isi ty y)=fun ρ=>M.bind (den cf y ρ) fun v=>isiM ty v:=by funext ρ;rw[den]
        have ht':=ok.gl ht
        have hnm:=tyOf_name hty
        subst hnm
        refine⟨?_,tst_pl rfl⟩
        rw[e2]
        exact se_isi hg' (ok.blt _ (by decide +kernel)) ht' (ok.blt _ ty.mem) hs (ih _ y hy).1.any
       ·cases h
      ·cases h
     ·rw[if_neg hi] at h
      obtain⟨b,hb,h⟩:=bindO h
      obtain⟨xs,hx,h⟩:=bindO h
      cases h
      obtain⟨h1,h2,h3⟩:=trL_ok ih _ _ hx
      have hnm:=biOf_name hb
      subst hnm
      have e2:den cf (.bi b xs)=fun ρ=>M.bind (dens cf xs ρ) fun ds=>biOp b ds:=by funext ρ;rw[den]
      refine⟨?_,tst_pl rfl⟩
      rw[e2]
      exact se_bi ok.calm hg' (ok.blt _ b.mem) h2 h1
 |Attribute o at_ apos=>
   simp only[trCall,trMe] at h
   obtain⟨hc,h⟩:=whenO_some h
   obtain⟨hc,hl⟩:=and3 hc
   obtain⟨hb,hline⟩:=and3 hc
   obtain⟨mm,hm,h⟩:=bindO h
   obtain⟨y,hy,h⟩:=bindO h
   obtain⟨xs,hx,h⟩:=bindO h
   cases h
   obtain⟨h1,h2,h3⟩:=trL_ok ih _ _ hx
   have hnm:=meOf_name hm
   subst hnm
   have e2:den cf (.me mm y xs)=fun ρ=>M.bind (den cf y ρ) fun v=>M.bind (rtM mm v) fun _=>M.bind (dens cf xs ρ) fun ds=>meOp mm v ds:=by funext ρ;rw[den]
   refine⟨?_,tst_pl rfl⟩
   rw[e2]
   cases es with
  |nil=>
    cases hx
    have e3:(fun ρ=>M.bind (den cf y ρ) fun v=>M.bind (rtM mm v) fun _=>M.bind (dens cf [] ρ) fun ds=>meOp mm v ds)=fun ρ=>M.bind (den cf y ρ) fun v=>M.bind (rtM mm v) fun _=>M.bind (M.pure []) fun ds=>meOp mm v ds:=by funext ρ;rw[dens]
    rw[e3]
    exact se_me0 ok.calm ok.units (attrBase_of hb) hline (ih o y hy).1.any
  |cons e1 es=>exact se_me ok.calm ok.units (attrBase_of hb) hline h2 (of_decide_eq_true hl) (ih o y hy).1.any h1
 |_=>simp[trCall] at h
theorem iter_ok {f:Expr→Option E} (ok:Ok X C cf k W) (ih:∀e e',f e=some e'→Good X W cf e e') {tg iter:Expr} {w:Ik×List E} (h:trI C f tg iter=some w):SI X W tg iter (fun ρ=>M.bind (dens cf w.2 ρ) fun ds=>walk w.1 ds):=by
 have seq:∀{e:Expr},((f e).bind fun e=>some (Ik.seq,[e]))=some w→SI X W tg e (fun ρ=>M.bind (dens cf w.2 ρ) fun ds=>walk w.1 ds):=by
  intro e h
  obtain⟨y,hy,h⟩:=bindO h
  cases h
  have e3:(fun ρ=>M.bind (dens cf [y] ρ) fun ds=>walk .seq ds)=fun ρ=>M.bind (M.bind (den cf y ρ) fun d=>M.bind (M.pure []) fun ds=>M.pure (d::ds)) fun ds=>walk .seq ds:=by
   funext ρ;rw[dens,dens]
  show SI X W tg e (fun ρ=>M.bind (dens cf [y] ρ) fun ds=>walk .seq ds)
  rw[e3]
  exact si_seq (ih e y hy).1.any
 unfold trI at h
 split at h
 ·rename_i r hr
  subst h
  split at hr
  ·rename_i fn args kw pos
   unfold trIh at hr
   split at hr
   ·split at hr
    ·rename_i x p
     unfold trIc at hr
     by_cases hg:gl C.sc x=true
     ·rw[if_pos hg] at hr
      have hg':=ok.gl hg
      by_cases h1:x = "range"
      ·rw[if_pos h1] at hr
       subst h1
       have hm:X.mg "range"=none:=ok.blt _ (by decide +kernel)
       split at hr
       ·have hr:=Option.some.inj hr
        obtain⟨xs,hx,hr⟩:=bindO hr
        cases hr
        obtain⟨s1,s2,s3⟩:=trL_ok ih _ _ hx
        rw[List.all_cons] at s2
        exact si_rng1 hg' hm (and3 s2).1 s1 (fun ρ st ds st1 q=>by rw[dens_len xs q,←s3];rfl)
       ·have hr:=Option.some.inj hr
        obtain⟨xs,hx,hr⟩:=bindO hr
        cases hr
        obtain⟨s1,s2,s3⟩:=trL_ok ih _ _ hx
        rw[List.all_cons,List.all_cons] at s2
        exact si_rng2 hg' hm (and3 s2).1 (and3 (and3 s2).2).1 s1
       ·have hr:=Option.some.inj hr
        obtain⟨xs,hx,hr⟩:=bindO hr
        cases hr
        obtain⟨s1,s2,s3⟩:=trL_ok ih _ _ hx
        exact si_rng3 hg' hm s2 s1
       ·cases hr
      ·rw[if_neg h1] at hr
       by_cases h2:x = "enumerate"
       ·rw[if_pos h2] at hr
        subst h2
        have hm:X.mg "enumerate"=none:=ok.blt _ (by decide +kernel)
        split at hr
        ·have hr:=Option.some.inj hr
         obtain⟨ht,hr⟩:=whenO_some hr
         obtain⟨xs,hx,hr⟩:=bindO hr
         cases hr
         obtain⟨s1,s2,s3⟩:=trL_ok ih _ _ hx
         rw[List.all_cons] at s2
         cases tg with
        |Tuple elts kk tpos=>exact si_enu hg' hm (and3 s2).1 s1
        |_=>exact nomatch ht
        ·cases hr
       ·rw[if_neg h2] at hr
        by_cases h3:x = "zip"
        ·rw[if_pos h3] at hr
         subst h3
         have hm:X.mg "zip"=none:=ok.blt _ (by decide +kernel)
         split at hr
         ·have hr:=Option.some.inj hr
          obtain⟨ht,hr⟩:=whenO_some hr
          obtain⟨xs,hx,hr⟩:=bindO hr
          cases hr
          obtain⟨s1,s2,s3⟩:=trL_ok ih _ _ hx
          rw[List.all_cons,List.all_cons] at s2
          cases tg with
         |Tuple elts kk tpos=>exact si_zip hg' hm (and3 s2).1 (and3 (and3 s2).2).1 s1
         |_=>exact nomatch ht
         ·cases hr
        ·rw[if_neg h3] at hr;cases hr
     ·rw[if_neg hg] at hr;cases hr
    ·cases hr
   ·cases hr
  ·cases hr
 ·exact seq h
theorem all_mem {t:G} {vs:List Nat} (h:(t.slots.all fun i=>vs.contains i)=true):∀i∈t.slots,i∈vs:=fun i hi=>by
 have:=List.all_eq_true.mp h i hi
 exact List.contains_iff_mem.mp this
end
section
variable {X:Cx} {C:TC} {cf:Cf} {k:Nat} {W:WX}
theorem trKs_len:∀{keys:List (Option Expr)} {ks:List (List Nat)},trKs keys=some ks→keys.length=ks.length∧keys.all (·.isSome)=true
|[],ks,h=>by cases h;exact⟨rfl,rfl⟩
|k::keys,ks,h=>by
  rw[trKs] at h
  obtain⟨x,hx,h⟩:=bindO h
  obtain⟨xs,hxs,h⟩:=bindO h
  cases h
  obtain⟨h1,h2⟩:=trKs_len hxs
  obtain⟨s,q,p,rfl,_⟩:=isKey_ok hx
  exact⟨by rw[List.length_cons,List.length_cons,h1],by rw[List.all_cons,h2];rfl⟩
theorem trPP {f:Expr→Option E} (ih:∀e e',f e=some e'→Good X W cf e e') {dpos:Pos}:∀{keys:List (Option Expr)} {values:List Expr} {ks:List (List Nat)} {vs:List E},trKs keys=some ks→trL f values=some vs→ks.length=vs.length→PPs X dpos keys values (trsOf X.K W cf ks vs)
|[],values,ks,vs,h1,h2,hl=>by
  cases h1
  have:vs=[]:=List.eq_nil_of_length_eq_zero hl.symm
  subst this
  cases values with
 |nil=>exact pps_nil
 |cons v r=>
   rw[trL] at h2
   obtain⟨_,h2⟩:=whenO_some h2
   obtain⟨_,_,h2⟩:=bindO h2
   obtain⟨_,_,h2⟩:=bindO h2
   cases h2
|k::keys,values,ks,vs,h1,h2,hl=>by
  rw[trKs] at h1
  obtain⟨x,hx,h1⟩:=bindO h1
  obtain⟨xs,hxs,h1⟩:=bindO h1
  cases h1
  cases values with
 |nil=>cases h2;simp at hl
 |cons v r=>
   rw[trL] at h2
   obtain⟨_,h2⟩:=whenO_some h2
   obtain⟨y,hy,h2⟩:=bindO h2
   obtain⟨ys,hys,h2⟩:=bindO h2
   cases h2
   obtain⟨s,q,p,rfl,e1⟩:=isKey_ok hx
   have:tx x=s:=by
    subst e1
    show (⟨s.cps.toList.toArray⟩:Str)=s
    simp
   rw[trsOf,this]
   exact pps_cons pe_str (ih v y hy).1.any (trPP ih hxs hys (by simpa using hl))
theorem trDisp_ok {f:Expr→Option E} (ih:∀e e',f e=some e'→Good X W cf e e') {o:Expr} {d:List (List Nat)×List E} (h:trDisp f o=some d):∃keys values dpos,o=.Dict keys values dpos∧PPr X W cf dpos keys values d.1 d.2∧d.1.length≤15:=by
 unfold trDisp at h
 split at h
 ·rename_i keys values dpos
  obtain⟨ks,hk,h⟩:=bindO h
  obtain⟨vs,hv,h⟩:=bindO h
  obtain⟨hc,h⟩:=whenO_some h
  cases h
  obtain⟨hc,h3⟩:=and3 hc
  obtain⟨h1,h2⟩:=and3 hc
  have h1:=of_decide_eq_true h1
  have h2:=of_decide_eq_true h2
  have h3:=of_decide_eq_true h3
  obtain⟨l1,l2⟩:=trKs_len hk
  obtain⟨_,_,l3⟩:=trL_ok ih values vs hv
  refine⟨keys,values,dpos,rfl,⟨trPP ih hk hv h1,l2,by rw[l1,h1,l3],fun z => ?_,h1,l1⟩,h2⟩
  subst z
  rw[←l1] at h3
  exact absurd h3 (by simp)
 ·cases h
theorem trX_ok {f:Expr→Option E} (ok:Ok X C cf k W) (ih:∀e e',f e=some e'→Good X W cf e e') {e:Expr} {e':E} (h:trX C f e=some (some e')):Good X W cf e e':=by
 have hu:X.A.units+1<cLine:=by have:=ok.units;omega
 unfold trX at h
 cases h1:isSub e with
|some ab=>
  obtain⟨a,b⟩:=ab
  rw[h1] at h
  simp only at h
  have ee:∃p,e=.Subscript a b p:=by
   unfold isSub at h1
   split at h1
   ·cases h1;exact⟨_,rfl⟩
   ·cases h1
  obtain⟨p,rfl⟩:=ee
  by_cases hd:isDict a=true
  ·rw[if_pos hd] at h
   obtain⟨hs,h⟩:=whenO_some (Option.some.inj h)
   obtain⟨d,hdd,h⟩:=bindO h
   obtain⟨y,hy,h⟩:=bindO h
   cases h
   obtain⟨keys,values,dpos,rfl,pr,h15⟩:=trDisp_ok ih hdd
   refine good_of (fun _=>rfl) (tst_pl rfl) ?_
   rw[show den cf (.dg .sub d.1 d.2 y [])=fun ρ=>M.bind (dens cf d.2 ρ) fun ds=>whenM (decide (ds.length=d.1.length)&&decide (d.1.length≤15)) (M.bind (den cf y ρ) fun y=>M.bind (M.pure []) fun zs=>dgOp .sub ((d.1.map Sum.inr).zip ds) y zs) by funext ρ;rw[den,dens]]
   exact se_dgS pr h15 hu (plainIx_of hs) (ih b y hy).1.any
  ·rw[if_neg hd] at h
   cases h2:isCall1 a with
  |none=>rw[h2] at h;cases h
  |some xc=>
    obtain⟨x,c⟩:=xc
    rw[h2] at h
    simp only at h
    obtain⟨p1,q1,rfl⟩:=isCall1_ok h2
    by_cases hx:x = "dict"
    ·rw[if_pos hx] at h
     subst hx
     obtain⟨hs,h⟩:=whenO_some (Option.some.inj h)
     obtain⟨hs,s3⟩:=and3 hs
     obtain⟨s1,s2⟩:=and3 hs
     obtain⟨z,hz,h⟩:=bindO h
     obtain⟨y,hy,h⟩:=bindO h
     cases h
     refine good_of (fun _=>rfl) (tst_pl rfl) ?_
     rw[show den cf (.dsub z y)=fun ρ=>M.bind (den cf z ρ) fun x=>M.bind (orNo (pairsD x)) fun kvs=>M.bind (den cf y ρ) fun y=>dgOp .sub kvs y [] by funext ρ;rw[den]]
     exact se_dsub ok.calm hu (ok.gl s1) (ok.blt _ (by decide +kernel)) s2 (plainIx_of s3) (ih c z hz).1.any (ih b y hy).1.any
    ·rw[if_neg hx] at h;cases h
|none=>
  rw[h1] at h
  simp only at h
  cases h2:isCall1 e with
 |some xa=>
   obtain⟨x,a⟩:=xa
   rw[h2] at h
   simp only at h
   obtain⟨p1,q1,rfl⟩:=isCall1_ok h2
   cases h3:isCall1 a with
  |none=>
    rw[h3] at h
    simp only at h
    by_cases hx:x = "dict"
    ·rw[if_pos hx] at h
     subst hx
     obtain⟨hs,h⟩:=whenO_some (Option.some.inj h)
     obtain⟨s1,s2⟩:=and3 hs
     obtain⟨z,hz,h⟩:=bindO h
     cases h
     refine good_of (fun _=>rfl) (tst_pl rfl) ?_
     rw[show den cf (.dof z)=fun ρ=>M.bind (den cf z ρ) fun x=>M.bind (orNo (pairsD x)) fun kvs=>push (.dic (mergeD [] kvs)) by funext ρ;rw[den]]
     exact se_dof ok.calm (ok.gl s1) (ok.blt _ (by decide +kernel)) s2 (ih a z hz).1.any
    ·rw[if_neg hx] at h;cases h
  |some yb=>
    obtain⟨y,b⟩:=yb
    rw[h3] at h
    simp only at h
    obtain⟨p2,q2,rfl⟩:=isCall1_ok h3
    by_cases c1:(decide (x = "len")&&decide (y = "set"))=true
    ·rw[if_pos c1] at h
     obtain⟨c2,c3⟩:=and3 c1
     have c2:=of_decide_eq_true c2
     have c3:=of_decide_eq_true c3
     subst c2 c3
     obtain⟨hs,h⟩:=whenO_some (Option.some.inj h)
     obtain⟨hs,s3⟩:=and3 hs
     obtain⟨s1,s2⟩:=and3 hs
     obtain⟨z,hz,h⟩:=bindO h
     cases h
     refine good_of (fun _=>rfl) (tst_pl rfl) ?_
     rw[show den cf (.lset z)=fun ρ=>M.bind (den cf z ρ) fun x=>lsetOp x by funext ρ;rw[den]]
     exact se_lset ok.calm (ok.gl s1) (ok.blt _ (by decide +kernel)) (ok.gl s2) (ok.blt _ (by decide +kernel)) s3 (ih b z hz).1.any
    ·rw[if_neg c1] at h
     by_cases c1:(decide (x = "list")&&decide (y = "range"))=true
     ·rw[if_pos c1] at h
      obtain⟨c2,c3⟩:=and3 c1
      have c2:=of_decide_eq_true c2
      have c3:=of_decide_eq_true c3
      subst c2 c3
      obtain⟨hs,h⟩:=whenO_some (Option.some.inj h)
      obtain⟨hs,s3⟩:=and3 hs
      obtain⟨s1,s2⟩:=and3 hs
      obtain⟨z,hz,h⟩:=bindO h
      cases h
      refine good_of (fun _=>rfl) (tst_pl rfl) ?_
      rw[show den cf (.rngL [z])=fun ρ=>M.bind (M.bind (den cf z ρ) fun d=>M.bind (M.pure []) fun ds=>M.pure (d::ds)) fun ds=>rngOp ds by funext ρ;rw[den,dens,dens]]
      exact se_rng1L ok.calm (ok.gl s1) (ok.blt _ (by decide +kernel)) (ok.gl s2) (ok.blt _ (by decide +kernel)) s3 (ih b z hz).1.any
     ·rw[if_neg c1] at h;cases h
 |none=>
   rw[h2] at h
   simp only at h
   cases h3:isMeth e with
  |none=>rw[h3] at h;cases h
  |some w=>
    obtain⟨o,a,es,apos,pos⟩:=w
    rw[h3] at h
    simp only at h
    have:=isMeth_ok h3
    subst this
    by_cases c1:(isDict o&&decide (a = "get"))=true
    ·rw[if_pos c1] at h
     obtain⟨c2,c3⟩:=and3 c1
     have c3:=of_decide_eq_true c3
     subst c3
     split at h
     ·rename_i kx
      obtain⟨hs,h⟩:=whenO_some (Option.some.inj h)
      obtain⟨s1,s2⟩:=and3 hs
      obtain⟨d,hdd,h⟩:=bindO h
      obtain⟨y,hy,h⟩:=bindO h
      cases h
      obtain⟨keys,values,dpos,rfl,pr,h15⟩:=trDisp_ok ih hdd
      refine good_of (fun _=>rfl) (tst_pl rfl) ?_
      rw[show den cf (.dg .get1 d.1 d.2 y [])=fun ρ=>M.bind (dens cf d.2 ρ) fun ds=>whenM (decide (ds.length=d.1.length)&&decide (d.1.length≤15)) (M.bind (den cf y ρ) fun y=>M.bind (M.pure []) fun zs=>dgOp .get1 ((d.1.map Sum.inr).zip ds) y zs) by funext ρ;rw[den,dens]]
      refine se_dg1 pr h15 hu ⟨attrBase_of rfl,?_,s1,?_⟩ (ih kx y hy).1.any
      ·rw[backTo_all (by rw[List.all_cons,s2];rfl)];rfl
      ·rw[starEach_cons s2];rfl
     ·rename_i kx cx
      obtain⟨hs,h⟩:=whenO_some (Option.some.inj h)
      obtain⟨hs,s3⟩:=and3 hs
      obtain⟨s1,s2⟩:=and3 hs
      obtain⟨d,hdd,h⟩:=bindO h
      obtain⟨y,hy,h⟩:=bindO h
      obtain⟨z,hz,h⟩:=bindO h
      cases h
      obtain⟨keys,values,dpos,rfl,pr,h15⟩:=trDisp_ok ih hdd
      refine good_of (fun _=>rfl) (tst_pl rfl) ?_
      rw[show den cf (.dg .get2 d.1 d.2 y [z])=fun ρ=>M.bind (dens cf d.2 ρ) fun ds=>whenM (decide (ds.length=d.1.length)&&decide (d.1.length≤15)) (M.bind (den cf y ρ) fun y=>M.bind (M.bind (den cf z ρ) fun d=>M.bind (M.pure []) fun ds=>M.pure (d::ds)) fun zs=>dgOp .get2 ((d.1.map Sum.inr).zip ds) y zs) by funext ρ;rw[den,dens,dens]]
      refine se_dg2 pr h15 hu ⟨attrBase_of rfl,?_,s1,?_⟩ (ih kx y hy).1.any (ih cx z hz).1.any
      ·rw[backTo_all (by rw[List.all_cons,List.all_cons,s2,s3];rfl)];rfl
      ·rw[starEach_cons s2,starEach_cons s3];rfl
     ·cases h
    ·rw[if_neg c1] at h;cases h
end
theorem all_lookup {l:List (Str×Str)} {a b:Str} (h:l.lookup a=some b):(a,b)∈l:=PySem.mem_of_lookup h
theorem trY_ok {X:Cx} {C:TC} {cf:Cf} {k:Nat} {W:WX} {f:Expr→Option E} (ok:Ok X C cf k W) (ih:∀e e',f e=some e'→Good X W cf e e') {e:Expr} {e':E} (h:trY C f e=some (some e')):Good X W cf e e':=by
 unfold trY at h
 split at h
 ·rename_i o a pa
  have h:=Option.some.inj h
  obtain⟨hp,h⟩:=whenO_some h
  obtain⟨y,hy,h⟩:=bindO h
  cases h
  refine good_of (fun _=>rfl) (tst_pl rfl) ?_
  rw[show den cf (.attr (C.g.at_ a) y a)=fun ρ=>M.bind (den cf y ρ) fun x=>getA (C.g.at_ a) x a by funext ρ;rw[den]]
  exact se_attr (fun c hc=>ok.at_ a c hc) (attrBase_of hp) (ih o y hy).1.any
 ·rename_i fn es kw pos
  split at h
  ·split at h
   ·rename_i x p
    unfold trNew at h
    split at h
    ·rename_i g np hmk
     have h:=Option.some.inj h
     obtain⟨hc,h⟩:=whenO_some h
     obtain⟨hc,hn⟩:=and3 hc
     obtain⟨hg,hd⟩:=and3 hc
     obtain⟨hd1,hd2⟩:=and3 hd
     have hd1:(x == ("__debug__":Str))=false:=by simpa using hd1
     have hn:=of_decide_eq_true hn
     obtain⟨xs,hx,h⟩:=bindO h
     cases h
     obtain⟨h1,h2,h3⟩:=trL_ok ih _ _ hx
     refine good_of (fun _=>rfl) (tst_pl rfl) ?_
     rw[show den cf (.new x g xs)=fun ρ=>M.bind (dens cf xs ρ) fun ds=>newM x fun o=>cf.fn g (o::ds) by funext ρ;rw[den]]
     cases es with
    |nil=>
      cases hx
      rw[show dens cf []=fun _=>M.pure [] by funext ρ;rw[dens]]
      exact se_new0 (ok.cn x g np hmk) ok.room1 ok.tk (ok.gl hg) hd1 hn
    |cons e1 es=>exact se_new (ok.cn x g np hmk) ok.room1 ok.tk (ok.gl hg) hd1 h2 (fun ρ st ds st1 q=>by rw[dens_len xs q,←h3];exact hn) h1
    ·by_cases he:es.isEmpty=true
     ·rw[if_pos he] at h
      have h:=Option.some.inj h
      obtain⟨hc,h⟩:=whenO_some h
      obtain⟨hc,hn⟩:=and3 hc
      obtain⟨hg,hd⟩:=and3 hc
      obtain⟨hd1,hd2⟩:=and3 hd
      have hd1:(x == ("__debug__":Str))=false:=by simpa using hd1
      have hn:=of_decide_eq_true hn
      have he:es=[]:=by simpa using he
      subst he
      cases h
      refine good_of (fun _=>rfl) (tst_pl rfl) ?_
      rw[show den cf (.call x [])=fun ρ=>M.bind (M.pure []) fun ds=>callV false (cf.fn x ds) by funext ρ;rw[den,dens]]
      exact se_call0 (ok.fns x 0 hn) ok.room ok.tk (ok.gl hg) hd1 rfl
     ·rw[if_neg he] at h;cases h
   ·rename_i o m apos
    unfold trMc at h
    split at h
    ·cases h
    ·rename_i c cs hmt
     have h:=Option.some.inj h
     obtain⟨hc,h⟩:=whenO_some h
     obtain⟨hc,hl⟩:=and3 hc
     obtain⟨hp,hline⟩:=and3 hc
     have hl:=of_decide_eq_true hl
     obtain⟨y,hy,h⟩:=bindO h
     obtain⟨xs,hx,h⟩:=bindO h
     cases h
     obtain⟨h1,h2,h3⟩:=trL_ok ih _ _ hx
     have hlen:∀q:MtC (c::cs),es.length+1=C.g.mn q.1.2:=fun q=>of_decide_eq_true (List.mem_filter.mp (by rw[hmt];exact all_lookup q.2:q.1∈(C.g.mt m).filter (fun q=>decide (es.length+1=C.g.mn q.2)))).2
     refine good_of (fun _=>rfl) (tst_pl rfl) ?_
     rw[show den cf (.mc m (c::cs) y xs)=fun ρ=>M.bind (den cf y ρ) fun x=>M.bind (methM m (c::cs) x) fun g=>M.bind (dens cf xs ρ) fun ds=>callV false (cf.fn g (x::ds)) by funext ρ;rw[den]]
     cases es with
    |nil=>
      cases hx
      rw[show dens cf []=fun _=>M.pure [] by funext ρ;rw[dens]]
      exact se_mc0 (nps:=C.g.mn) (List.cons_ne_nil _ _) (fun c' g hg=>ok.mt m c' g (List.mem_filter.mp (by rw[hmt];exact all_lookup hg:(c',g)∈(C.g.mt m).filter (fun q=>decide (_+1=C.g.mn q.2)))).1) ok.room ok.tk (attrBase_of hp) hline hlen (ih o y hy).1.any
    |cons e1 es=>exact se_mc (nps:=C.g.mn) (List.cons_ne_nil _ _) (fun c' g hg=>ok.mt m c' g (List.mem_filter.mp (by rw[hmt];exact all_lookup hg:(c',g)∈(C.g.mt m).filter (fun q=>decide (_+1=C.g.mn q.2)))).1) ok.room ok.tk h2 (attrBase_of hp) hline hl (fun ρ st ds st1 q z=>by rw[dens_len xs q,←h3];exact hlen z) (ih o y hy).1.any h1
   ·cases h
  ·cases h
 ·cases h
theorem st_pc {X:Cx} {W:WX} {op:CmpOp} {a b:Expr} {pos:Pos} {f:Env→M D} (h:PC X op a b (rd (aV X.K false) X.K W f)) (hm:behindInMarks op b=false) (hb:∀ρ st d st',f ρ st=.ok d st'→∃x,d=.bl x):ST X W (.Compare a [op] [b] pos) (fun ρ=>M.bind (f ρ) truth):=
 (pt_cmp h hm).imp fun σ H Q ⟨ρ,m,st,er,rl,p⟩=>⟨ρ,m,st,er,rl,by
  replace p:Post aB X.K W σ m H (M.bind (f ρ) truth st) Q:=p
  cases e:f ρ st with
 |no=>rw[bindM_no e] at p;exact p
 |ex x st1=>rw[bindM_ex e] at p;exact p
 |ok d st1=>
   rw[bindM_ok e] at p
   obtain⟨x,rfl⟩:=hb _ _ _ _ e
   intro v m1 H1 f1 r1 av
   cases av.1
   exact⟨x,rfl,p x m1 H1 f1 r1 rfl⟩⟩
theorem din_bl {neg:Bool} {f g:Env→M D} {ρ:Env} {st st':Sto} {d:D} (h:(M.bind (f ρ) fun y=>M.bind (g ρ) fun x=>dinOp neg y x) st=.ok d st'):∃x,d=.bl x:=by
 cases e1:f ρ st with
|no=>rw[bindM_no e1] at h;cases h
|ex x s=>rw[bindM_ex e1] at h;cases h
|ok y s=>
  rw[bindM_ok e1] at h
  cases e2:g ρ s with
 |no=>rw[bindM_no e2] at h;cases h
 |ex x s=>rw[bindM_ex e2] at h;cases h
 |ok x s=>
   rw[bindM_ok e2] at h
   unfold dinOp at h
   split at h
   ·cases h;exact⟨_,rfl⟩
   ·cases h
section
variable {X:Cx} {C:TC} {cf:Cf} {k:Nat} {W:WX}
theorem trFl_ok {f:Expr→Option E} (ih:∀e e',f e=some e'→Good X W cf e e') {dpos:Pos}:∀{keys:List (Option Expr)} {values:List Expr} {xs:List E},trFl f keys values=some xs→PPs X dpos keys values (trsF X.K W cf xs)∧xs.length % 2=0
|[],[],xs,h=>by cases h;exact⟨pps_nil,rfl⟩
|some k::ks,v::vs,xs,h=>by
  rw[trFl] at h
  obtain⟨x,hx,h⟩:=bindO h
  obtain⟨y,hy,h⟩:=bindO h
  obtain⟨r,hr,h⟩:=bindO h
  cases h
  obtain⟨h1,h2⟩:=trFl_ok ih hr
  rw[trsF]
  exact⟨pps_cons (ih k x hx).1.any (ih v y hy).1.any h1,by simp only[List.length_cons];omega⟩
|none::_,_,xs,h=>by simp[trFl] at h
|[],_::_,xs,h=>by simp[trFl] at h
|some _::_,[],xs,h=>by simp[trFl] at h
theorem isNames_ok:∀{ns:List Expr} {fs:List Str},isNames ns=some fs→ns.length=fs.length∧∀(j:Nat) (g:Str),fs[j]?=some g→∃p,ns[j]?=some (.Name g p)
|[],fs,h=>by cases h;exact⟨rfl,fun j g hj=>by simp at hj⟩
|n::ns,fs,h=>by
  unfold isNames at h
  split at h
  ·rename_i heq;cases heq
  ·rename_i x p r heq
   cases heq
   obtain⟨xs,hx,h⟩:=bindO h
   cases h
   obtain⟨h1,h2⟩:=isNames_ok hx
   refine⟨by rw[List.length_cons,List.length_cons,h1],fun j g hj => ?_⟩
   cases j with
  |zero=>
    have:x=g:=Option.some.inj hj
    subst this
    exact⟨p,rfl⟩
  |succ j=>exact h2 j g (by simpa using hj)
  ·cases h
theorem dens_app {cf:Cf} {ys:List E}:∀(xs:List E) (ρ:Env),dens cf (xs++ys) ρ=M.bind (dens cf xs ρ) fun ds=>M.bind (dens cf ys ρ) fun zs=>M.pure (ds++zs)
|[],ρ=>by
  rw[List.nil_append,dens]
  funext st
  unfold M.bind M.pure
  simp only[List.nil_append]
  cases dens cf ys ρ st <;> rfl
|x::xs,ρ=>by
  rw[List.cons_append,dens,dens,dens_app xs ρ]
  simp only[M.bind_assoc] <;> rfl
theorem trKv_ok {f:Expr→Option E} (ih:∀e e',f e=some e'→Good X W cf e e'):∀{kws:List Keyword} {ys:List E},trKv f kws=some ys→SK X W kws (dens cf ys)∧kws.length=ys.length
|[],ys,h=>by
  cases h
  rw[show dens cf []=fun _=>M.pure [] by funext ρ;rw[dens]]
  exact⟨sk_nil,rfl⟩
|⟨a,v,kp⟩::r,ys,h=>by
  rw[trKv] at h
  obtain⟨x,hx,h⟩:=bindO h
  obtain⟨xs,hxs,h⟩:=bindO h
  cases h
  obtain⟨h1,h2⟩:=trKv_ok ih hxs
  rw[show dens cf (x::xs)=fun ρ=>M.bind (den cf x ρ) fun d=>M.bind (dens cf xs ρ) fun ds=>M.pure (d::ds) by funext ρ;rw[dens]]
  exact⟨sk_cons (ih v x hx).1.any h1,by rw[List.length_cons,List.length_cons,h2]⟩
theorem trKw_ok {f:Expr→Option E} (ok:Ok X C cf k W) (ih:∀e e',f e=some e'→Good X W cf e e') {fn:Expr} {es:List Expr} {kws:List Keyword} {pos:Pos} {e':E} (h:trKw C f fn es kws=some (some e')):Good X W cf (.Call fn es kws pos) e':=by
 unfold trKw at h
 cases hn:isNm fn with
|none=>rw[hn] at h;cases h
|some x=>
  rw[hn] at h
  simp only at h
  have:∃p,fn=.Name x p:=by
   unfold isNm at hn
   split at hn
   ·cases hn;exact⟨_,rfl⟩
   ·cases hn
  obtain⟨p,rfl⟩:=this
  cases hw:C.kw x with
 |none=>rw[hw] at h;cases h
 |some w=>
   rw[hw] at h
   obtain⟨n,ps⟩:=w
   obtain⟨hc,h⟩:=whenO_some (Option.some.inj h)
   obtain⟨hc,c7⟩:=and3 hc
   obtain⟨hc,c6⟩:=and3 hc
   obtain⟨hc,c5⟩:=and3 hc
   obtain⟨hc,c4⟩:=and3 hc
   obtain⟨hc,c3⟩:=and3 hc
   obtain⟨c1,c2⟩:=and3 hc
   have c3:=of_decide_eq_true c3
   have c4:=of_decide_eq_true c4
   have c7:=of_decide_eq_true c7
   obtain⟨d1,d2⟩:=and3 c2
   have d1:(x == ("__debug__":Str))=false:=by simpa using d1
   obtain⟨xs,hx,h⟩:=bindO h
   obtain⟨ys,hy,h⟩:=bindO h
   cases h
   obtain⟨h1,h2,h3⟩:=trL_ok ih _ _ hx
   obtain⟨g1,g2⟩:=trKv_ok ih hy
   have kl:∀{kws:List Keyword} {ks:List Str},kwNames kws=some ks→kws.length=ks.length:=fun {kws}=>by
    induction kws with
   |nil=>intro ks h;cases h;rfl
   |cons a r ih=>
     intro ks h
     rw[kwNames] at h
     cases ea:a.arg with
    |none=>rw[ea] at h;cases h
    |some z=>
      cases er:kwNames r with
     |none=>rw[ea,er] at h;cases h
     |some zs=>rw[ea,er] at h;cases h;rw[List.length_cons,List.length_cons,ih er]
   have hkl:=kl c7
   rw[List.length_drop] at hkl
   refine good_of (fun _=>rfl) (tst_pl rfl) ?_
   rw[show den cf (.call x (xs++ys))=fun ρ=>M.bind (dens cf xs ρ) fun ds=>M.bind (dens cf ys ρ) fun zs=>callV false (cf.fn x (ds++zs)) by
    funext ρ
    rw[den,dens_app]
    simp only[M.bind_assoc]
    rfl]
   cases es with
  |nil=>cases c5
  |cons e1 es=>exact se_callK (ok.kw x n ps hw) c4 ok.room ok.tk (ok.gl c1) d1 c6 c7 (fun ρ st ds st1 q=>by rw[dens_len xs q,←h3];exact c3) (fun ρ st ds st1 q=>by rw[dens_len ys q,←g2];exact hkl) h1 g1
theorem trFxK_ok {f:Expr→Option E} (ok:Ok X C cf k W) (ih:∀e e',f e=some e'→Good X W cf e e') {ns:List Expr} {i:Expr} {p1 p2:Pos} {es:List Expr} {kws:List Keyword} {pos:Pos} {e':E} (h:trFxK C f ns i es kws=some (some e')):Good X W cf (.Call (.Subscript (.List ns p1) i p2) es kws pos) e':=by
 unfold trFxK at h
 obtain⟨fs,hfs,h⟩:=bindO (Option.some.inj h)
 cases fs with
|nil=>cases h
|cons x r=>
  simp only at h
  cases hw:C.kw x with
 |none=>rw[hw] at h;cases h
 |some w=>
   rw[hw] at h
   obtain⟨n,ps⟩:=w
   obtain⟨hc,h⟩:=whenO_some h
   obtain⟨hc,c8⟩:=and3 hc
   obtain⟨hc,c7⟩:=and3 hc
   obtain⟨hc,c6⟩:=and3 hc
   obtain⟨hc,c5⟩:=and3 hc
   obtain⟨hc,c4⟩:=and3 hc
   obtain⟨hc,c3⟩:=and3 hc
   obtain⟨c1,c2⟩:=and3 hc
   have c4:=of_decide_eq_true c4
   have c5:=of_decide_eq_true c5
   have c6:=of_decide_eq_true c6
   have c7:=of_decide_eq_true c7
   obtain⟨y,hy,h⟩:=bindO h
   obtain⟨xs,hx,h⟩:=bindO h
   obtain⟨ys,hys,h⟩:=bindO h
   cases h
   obtain⟨h1,h2,h3⟩:=trL_ok ih _ _ hx
   obtain⟨g1,g2⟩:=trKv_ok ih hys
   have kl:∀{kws:List Keyword} {ks:List Str},kwNames kws=some ks→kws.length=ks.length:=fun {kws}=>by
    induction kws with
   |nil=>intro ks h;cases h;rfl
   |cons a r ih=>
     intro ks h
     rw[kwNames] at h
     cases ea:a.arg with
    |none=>rw[ea] at h;cases h
    |some z=>
      cases er:kwNames r with
     |none=>rw[ea,er] at h;cases h
     |some zs=>rw[ea,er] at h;cases h;rw[List.length_cons,List.length_cons,ih er]
   have hkl:=kl c6
   rw[List.length_drop] at hkl
   refine good_of (fun _=>rfl) (tst_pl rfl) ?_
   rw[show den cf (.callX (x::r) y (xs++ys))=fun ρ=>M.bind (den cf y ρ) fun d=>M.bind (fixM (x::r) d) fun f=>M.bind (dens cf xs ρ) fun ds=>M.bind (dens cf ys ρ) fun zs=>callV false (cf.fn f (ds++zs)) by
    funext ρ
    rw[den,dens_app]
    simp only[M.bind_assoc]
    rfl]
   obtain⟨nl,nn⟩:=isNames_ok hfs
   have hA:∀(j:Nat) (g:Str),(x::r)[j]?=some g→KFL X k g ps n (cf.fn g)∧Gl X g∧(g == ("__debug__":Str))=false∧∃p,ns[j]?=some (.Name g p):=fun j g hj=>by
    have hg:=List.all_eq_true.mp c8 g (List.mem_of_getElem? hj)
    obtain⟨hg,hg3⟩:=and3 hg
    obtain⟨hg1,hg2⟩:=and3 hg
    obtain⟨d1,d2⟩:=and3 hg2
    have d1:(g == ("__debug__":Str))=false:=by simpa using d1
    exact⟨ok.kw g n ps (of_decide_eq_true hg3),ok.gl hg1,d1,nn j g hj⟩
   have hy':=(ih i y hy).1.any
   clear hx
   cases es with
  |nil=>cases c3
  |cons e1 es=>exact se_callXK nl c7 hA c5 ok.room ok.tk (plainIx_of c1) c2 c6 (fun ρ st ds st1 q=>by rw[dens_len xs q,←h3];exact c4) (fun ρ st ds st1 q=>by rw[dens_len ys q,←g2];exact hkl) hy' h1 g1
theorem trD_ok {f:Expr→Option E} (ok:Ok X C cf k W) (ih:∀e e',f e=some e'→Good X W cf e e') {e:Expr} {e':E} (h:trD C f e=some (some e')):Good X W cf e e':=by
 have hu:X.A.units+1<cLine:=by have:=ok.units;omega
 unfold trD at h
 split at h
 ·rename_i keys values dpos
  by_cases c1:(keys.isEmpty&&values.isEmpty)=true
  ·rw[if_pos c1] at h
   cases h
   obtain⟨c1,c2⟩:=and3 c1
   have c1:keys=[]:=by simpa using c1
   have c2:values=[]:=by simpa using c2
   subst c1 c2
   refine good_of (fun _=>rfl) (tst_pl rfl) ?_
   rw[show den cf .dnew=fun _=>push (.dic []) by funext ρ;rw[den]]
   exact se_dnew
  ·rw[if_neg c1] at h
   obtain⟨hc,h⟩:=whenO_some (Option.some.inj h)
   obtain⟨hc,c4⟩:=and3 hc
   obtain⟨hc,c3⟩:=and3 hc
   obtain⟨c1,c2⟩:=and3 hc
   have c1:=of_decide_eq_true c1
   have c2:=of_decide_eq_true c2
   obtain⟨xs,hx,h⟩:=bindO h
   cases h
   obtain⟨h1,h2⟩:=trFl_ok (dpos:=dpos) ih hx
   refine good_of (fun _=>rfl) (tst_pl rfl) ?_
   rw[show den cf (.dlit xs)=fun ρ=>M.bind (push (.dic [])) fun x=>M.bind (dens cf xs ρ) fun ds=>dsetM x ds by funext ρ;rw[den]]
   exact se_dlit h1 c4 c1 (by simpa using c3) c2 h2
 ·rename_i o kx p
  by_cases c1:dnm C o=true
  ·rw[if_pos c1] at h
   obtain⟨hs,h⟩:=whenO_some (Option.some.inj h)
   obtain⟨x,hx,h⟩:=bindO h
   obtain⟨y,hy,h⟩:=bindO h
   cases h
   refine good_of (fun _=>rfl) (tst_pl rfl) ?_
   rw[show den cf (.dm .ix x [y])=fun ρ=>M.bind (den cf x ρ) fun x=>M.bind (dicM x) fun _=>M.bind (M.bind (den cf y ρ) fun d=>M.bind (M.pure []) fun ds=>M.pure (d::ds)) fun ds=>dmOp .ix x ds by funext ρ;rw[den,dens,dens]]
   exact se_dix hu (plainIx_of hs) (ih o x hx).1.any (ih kx y hy).1.any
  ·rw[if_neg c1] at h;cases h
 ·split at h
  ·split at h
   ·rename_i o a apos
    by_cases c1:dnm C o=true
    ·rw[if_pos c1] at h
     unfold trDm at h
     split at h
     ·rename_i kx
      by_cases c2:a = "get"
      ·rw[if_pos c2] at h
       subst c2
       obtain⟨hs,h⟩:=whenO_some (Option.some.inj h)
       obtain⟨hs,s2⟩:=and3 hs
       obtain⟨hp,s1⟩:=and3 hs
       obtain⟨x,hx,h⟩:=bindO h
       obtain⟨y,hy,h⟩:=bindO h
       cases h
       refine good_of (fun _=>rfl) (tst_pl rfl) ?_
       rw[show den cf (.dm .get x [y])=fun ρ=>M.bind (den cf x ρ) fun x=>M.bind (dicM x) fun _=>M.bind (M.bind (den cf y ρ) fun d=>M.bind (M.pure []) fun ds=>M.pure (d::ds)) fun ds=>dmOp .get x ds by funext ρ;rw[den,dens,dens]]
       refine se_dget1 hu ⟨attrBase_of hp,?_,s1,?_⟩ (ih o x hx).1.any (ih kx y hy).1.any
       ·rw[backTo_all (by rw[List.all_cons,s2];rfl)];rfl
       ·rw[starEach_cons s2];rfl
      ·rw[if_neg c2] at h
       by_cases c3:a = "update"
       ·rw[if_pos c3] at h
        subst c3
        obtain⟨hs,h⟩:=whenO_some (Option.some.inj h)
        obtain⟨hs,s2⟩:=and3 hs
        obtain⟨hp,s1⟩:=and3 hs
        obtain⟨x,hx,h⟩:=bindO h
        obtain⟨y,hy,h⟩:=bindO h
        cases h
        refine good_of (fun _=>rfl) (tst_pl rfl) ?_
        rw[show den cf (.dm .upd x [y])=fun ρ=>M.bind (den cf x ρ) fun x=>M.bind (dicM x) fun _=>M.bind (M.bind (den cf y ρ) fun d=>M.bind (M.pure []) fun ds=>M.pure (d::ds)) fun ds=>dmOp .upd x ds by funext ρ;rw[den,dens,dens]]
        refine se_dupd hu ⟨attrBase_of hp,?_,s1,?_⟩ (ih o x hx).1.any (ih kx y hy).1.any
        ·rw[backTo_all (by rw[List.all_cons,s2];rfl)];rfl
        ·rw[starEach_cons s2];rfl
       ·rw[if_neg c3] at h;cases h
     ·rename_i kx cx
      by_cases c2:a = "get"
      ·rw[if_pos c2] at h
       subst c2
       obtain⟨hs,h⟩:=whenO_some (Option.some.inj h)
       obtain⟨hs,s3⟩:=and3 hs
       obtain⟨hs,s2⟩:=and3 hs
       obtain⟨hp,s1⟩:=and3 hs
       obtain⟨x,hx,h⟩:=bindO h
       obtain⟨y,hy,h⟩:=bindO h
       obtain⟨z,hz,h⟩:=bindO h
       cases h
       refine good_of (fun _=>rfl) (tst_pl rfl) ?_
       rw[show den cf (.dm .get x [y,z])=fun ρ=>M.bind (den cf x ρ) fun x=>M.bind (dicM x) fun _=>M.bind (M.bind (den cf y ρ) fun d=>M.bind (M.bind (den cf z ρ) fun d=>M.bind (M.pure []) fun ds=>M.pure (d::ds)) fun ds=>M.pure (d::ds)) fun ds=>dmOp .get x ds by funext ρ;rw[den,dens,dens,dens]]
       refine se_dget2 hu ⟨attrBase_of hp,?_,s1,?_⟩ (ih o x hx).1.any (ih kx y hy).1.any (ih cx z hz).1.any
       ·rw[backTo_all (by rw[List.all_cons,List.all_cons,s2,s3];rfl)];rfl
       ·rw[starEach_cons s2,starEach_cons s3];rfl
      ·rw[if_neg c2] at h;cases h
     ·cases h
    ·rw[if_neg c1] at h
     unfold trKx at h
     split at h
     ·rename_i x p
      by_cases c2:(gl C.sc x&&decide (a = "index"))=true
      ·rw[if_pos c2] at h
       obtain⟨c4,c3⟩:=and3 c2
       have c3:=of_decide_eq_true c3
       subst c3
       split at h
       ·rename_i xs e1 hx
        obtain⟨d,hd,hx⟩:=bindO hx
        have hx:d=.tup xs:=by
         unfold isTup at hx
         split at hx
         ·cases hx;rfl
         ·cases hx
        subst hx
        obtain⟨hs,h⟩:=whenO_some (Option.some.inj h)
        obtain⟨hs,s3⟩:=and3 hs
        obtain⟨s1,s2⟩:=and3 hs
        obtain⟨d1,d2⟩:=and3 s1
        have d1:(x == ("__debug__":Str))=false:=by simpa using d1
        obtain⟨y,hy,h⟩:=bindO h
        cases h
        obtain⟨u,v,q2,q3,q4⟩:=ok.con x _ hd
        refine good_of (fun _=>rfl) (tst_pl rfl) ?_
        rw[show den cf (.kix xs y)=fun ρ=>M.bind (den cf y ρ) fun y=>kixOp xs y by funext ρ;rw[den]]
        exact se_kix (ok.gl c4) q2 q3 q4 d1 (attrBase_of rfl) s2 s3 (ih e1 y hy).1.any
       ·cases h
      ·rw[if_neg c2] at h;cases h
     ·cases h
   ·rename_i _ fn es pos _ _ _
    cases hw:isFl fn with
   |none=>rw[hw] at h;cases h
   |some w=>
     rw[hw] at h
     obtain⟨ns,i⟩:=w
     obtain⟨p2,p1,rfl⟩:=isFl_ok hw
     unfold trFx at h
     obtain⟨hs,h⟩:=whenO_some (Option.some.inj h)
     obtain⟨hs,s3⟩:=and3 hs
     obtain⟨s1,s2⟩:=and3 hs
     obtain⟨fs,hfs,h⟩:=bindO h
     obtain⟨hc,h⟩:=whenO_some h
     obtain⟨hz,hc⟩:=and3 hc
     have hz:=of_decide_eq_true hz
     obtain⟨y,hy,h⟩:=bindO h
     obtain⟨xs,hx,h⟩:=bindO h
     cases h
     obtain⟨h1,h2,h3⟩:=trL_ok ih _ _ hx
     refine good_of (fun _=>rfl) (tst_pl rfl) ?_
     rw[show den cf (.callX fs y xs)=fun ρ=>M.bind (den cf y ρ) fun d=>M.bind (fixM fs d) fun f=>M.bind (dens cf xs ρ) fun ds=>callV false (cf.fn f ds) by funext ρ;rw[den]]
     obtain⟨nl,nn⟩:=isNames_ok hfs
     have hA:∀(j:Nat) (g:Str),fs[j]?=some g→FL X k g es.length (cf.fn g)∧Gl X g∧(g == ("__debug__":Str))=false∧∃p,ns[j]?=some (.Name g p):=fun j g hj=>by
      have hg:=List.all_eq_true.mp hc g (List.mem_of_getElem? hj)
      obtain⟨hg,hg3⟩:=and3 hg
      obtain⟨hg1,hg2⟩:=and3 hg
      obtain⟨d1,d2⟩:=and3 hg2
      have d1:(g == ("__debug__":Str))=false:=by simpa using d1
      exact⟨ok.fns g _ (of_decide_eq_true hg3),ok.gl hg1,d1,nn j g hj⟩
     have hy':=(ih i y hy).1.any
     clear hx hc
     cases es with
    |nil=>cases s3
    |cons e1 es=>exact se_callX nl hz hA ok.room ok.tk (plainIx_of s1) s2 (fun ρ st ds st1 q=>by rw[dens_len xs q,←h3]) hy' h1
  ·rename_i fn es kws pos _ _
   cases hw:isFl fn with
  |none=>rw[hw] at h;exact trKw_ok ok ih h
  |some w=>
    rw[hw] at h
    obtain⟨ns,i⟩:=w
    obtain⟨p2,p1,rfl⟩:=isFl_ok hw
    exact trFxK_ok ok ih h
 ·split at h
  ·rename_i a os bs pos o
   by_cases c1:dnm C o=true
   ·rw[if_pos c1] at h
    unfold trDc at h
    split at h
    ·obtain⟨hm,h⟩:=whenO_some (Option.some.inj h)
     have hm:behindInMarks .In o=false:=by simpa using hm
     obtain⟨y,hy,h⟩:=bindO h
     obtain⟨x,hx,h⟩:=bindO h
     cases h
     have e1:den cf (.din false y x)=fun ρ=>M.bind (den cf y ρ) fun y=>M.bind (den cf x ρ) fun x=>dinOp false y x:=by funext ρ;rw[den]
     have pc:=se_din hu (ih _ y hy).1.any (ih o x hx).1.any
     refine⟨?_,?_⟩
     ·rw[e1];exact pe_cmp pc hm
     ·rw[show tst cf (.din false y x)=fun ρ=>M.bind (den cf (.din false y x) ρ) truth from tst_pl rfl,e1]
      exact st_pc pc hm fun ρ st d st' q=>din_bl q
    ·obtain⟨hm,h⟩:=whenO_some (Option.some.inj h)
     have hm:behindInMarks .NotIn o=false:=by simpa using hm
     obtain⟨y,hy,h⟩:=bindO h
     obtain⟨x,hx,h⟩:=bindO h
     cases h
     have e1:den cf (.din true y x)=fun ρ=>M.bind (den cf y ρ) fun y=>M.bind (den cf x ρ) fun x=>dinOp true y x:=by funext ρ;rw[den]
     have pc:=se_dnin hu (ih _ y hy).1.any (ih o x hx).1.any
     refine⟨?_,?_⟩
     ·rw[e1];exact pe_cmp pc hm
     ·rw[show tst cf (.din true y x)=fun ρ=>M.bind (den cf (.din true y x) ρ) truth from tst_pl rfl,e1]
      exact st_pc pc hm fun ρ st d st' q=>din_bl q
    ·cases h
   ·rw[if_neg c1] at h;cases h
  ·cases h
 ·cases h
end
theorem trE_ok {cf:Cf} {k:Nat}:∀(n:Nat) {X:Cx} {C:TC} {W:WX} (ok:Ok X C cf k W) (e:Expr) (e':E),trE C n e=some e'→Good X W cf e e'
|0,X,C,W,ok,e,e',h=>by simp[trE] at h
|n+1,X,C,W,ok,e,e',h=>by
  have ih:∀e e',trE C n e=some e'→Good X W cf e e':=fun e e' h=>trE_ok n ok e e' h
  have hN:X.N.Nodup:=by rw[ok.hN];exact ok.nd
  rw[trE] at h
  cases hD:trD C (trE C n) e with
 |some r=>rw[hD] at h;exact trD_ok ok ih (hD.trans (congrArg some h))
 |none=>
  rw[hD] at h
  clear hD
  replace h:(match trY C (trE C n) e with
  |some r=>r
  |none=>match trX C (trE C n) e with
  |some r=>r
  |none=>trE0 C (trE C n) (fun s=>trE (C.blk s) n) (fun s=>trG (C.blk s) n) e)=some e':=h
  cases hY:trY C (trE C n) e with
 |some r=>rw[hY] at h;exact trY_ok ok ih (hY.trans (congrArg some h))
 |none=>
  rw[hY] at h
  clear hY
  replace h:(match trX C (trE C n) e with
  |some r=>r
  |none=>trE0 C (trE C n) (fun s=>trE (C.blk s) n) (fun s=>trG (C.blk s) n) e)=some e':=h
  cases hX:trX C (trE C n) e with
 |some r=>rw[hX] at h;exact trX_ok ok ih (hX.trans (congrArg some h))
 |none=>
  rw[hX] at h
  clear hX
  replace h:trE0 C (trE C n) (fun s=>trE (C.blk s) n) (fun s=>trG (C.blk s) n) e=some e':=h
  cases e with
 |Constant c j p=>
   rw[trE0] at h
   cases c with
  |int i=>cases h;exact good_of (fun _=>rfl) (tst_pl rfl) (by rw[show den cf (.k (.int i))=fun _=>M.pure (.int i) by funext ρ;rw[den]];exact se_int)
  |bool i=>cases h;exact good_of (fun _=>rfl) (tst_pl rfl) (by rw[show den cf (.k (.bl i))=fun _=>M.pure (.bl i) by funext ρ;rw[den]];exact se_bl)
  |none=>cases h;exact good_of (fun _=>rfl) (tst_pl rfl) (by rw[show den cf (.k .non)=fun _=>M.pure .non by funext ρ;rw[den]];exact se_non)
  |str i=>cases h;exact good_of (fun _=>rfl) (tst_pl rfl) (by rw[show den cf (.k (.str i.cps.toList))=fun _=>M.pure (.str i.cps.toList) by funext ρ;rw[den]];exact se_str)
  |_=>simp[trConst] at h
 |Name x p=>
   rw[trE0,trName] at h
   obtain⟨hd,h⟩:=whenO_some h
   obtain⟨hd1,hd2⟩:=and3 hd
   have hd1:(x == ("__debug__":Str))=false:=by simpa using hd1
   have hd2:(x == ("__classdict__":Str))=false:=by simpa using hd2
   by_cases hv:vis C.sc x=true
   ·rw[if_pos hv] at h
    obtain⟨i,hi,h⟩:=bindO h
    cases h
    refine good_of (fun _=>rfl) (tst_pl rfl) ?_
    rw[show den cf (.v i)=fun ρ=>orNo (ρ[i]?.join) by funext ρ;rw[den]]
    exact se_var (by rw[ok.hN];exact slotAt_ok hi) (by rw[ok.hsc];exact vis_ok hv) hd1 hd2
   ·rw[if_neg hv] at h
    obtain⟨hg,h⟩:=whenO_some h
    obtain⟨d,hd,h⟩:=bindO h
    obtain⟨hn,h⟩:=whenO_some h
    cases h
    obtain⟨u,v,q2,q3,q4⟩:=ok.con x d hd
    refine good_of (fun _=>rfl) (tst_pl rfl) ?_
    rw[show den cf (.k d)=fun _=>M.pure d by funext ρ;rw[den]]
    exact se_glob (ok.gl hg) q2 q3 q4 (fun ds z=>by subst z;cases hn) hd1
 |Tuple es j p=>
   rw[trE0] at h
   obtain⟨xs,hx,h⟩:=bindO h
   cases h
   obtain⟨h1,h2,h3⟩:=trL_ok ih _ _ hx
   refine good_of (fun _=>rfl) (tst_pl rfl) ?_
   rw[show den cf (.tup xs)=fun ρ=>M.bind (dens cf xs ρ) fun ds=>whenM (szOk ds.length) (M.pure (.tup ds)) by funext ρ;rw[den]]
   exact se_tup h1
 |List es p=>
   rw[trE0] at h
   obtain⟨xs,hx,h⟩:=bindO h
   cases h
   obtain⟨h1,h2,h3⟩:=trL_ok ih _ _ hx
   refine good_of (fun _=>rfl) (tst_pl rfl) ?_
   rw[show den cf (.lst xs)=fun ρ=>M.bind (dens cf xs ρ) fun ds=>whenM (szOk ds.length) (M.pure (.lst ds)) by funext ρ;rw[den]]
   exact se_lst h1
 |BinOp a o b p=>
   rw[trE0] at h
   obtain⟨x,hx,h⟩:=bindO h
   obtain⟨y,hy,h⟩:=bindO h
   cases h
   refine good_of (fun _=>rfl) (tst_pl rfl) ?_
   rw[show den cf (.bin o x y)=fun ρ=>M.bind (den cf x ρ) fun u=>M.bind (den cf y ρ) fun v=>binOp o u v by funext ρ;rw[den]]
   exact se_bin (ih a x hx).1.any (ih b y hy).1.any
 |UnaryOp op a p=>
   rw[trE0] at h
   cases op with
  |USub=>
    obtain⟨x,hx,h⟩:=bindO (show ((trE C n a).bind fun x=>some (E.neg x))=some e' from h)
    cases h
    refine good_of (fun _=>rfl) (tst_pl rfl) ?_
    rw[show den cf (.neg x)=fun ρ=>M.bind (den cf x ρ) fun u=>M.bind (asInt? u) fun i=>M.pure (.int (-i)) by funext ρ;rw[den]]
    exact se_neg (ih a x hx).1.any
  |Not=>
    obtain⟨x,hx,h⟩:=bindO (show ((trE C n a).bind fun x=>some (E.not x))=some e' from h)
    cases h
    refine⟨?_,?_⟩
    ·rw[show den cf (.not x)=fun ρ=>M.bind (den cf x ρ) fun u=>M.bind (truth u) fun b=>M.pure (.bl (!b)) by funext ρ;rw[den]]
     exact se_not (ih a x hx).1.any
    ·rw[show tst cf (.not x)=fun ρ=>M.bind (tst cf x ρ) fun b=>M.pure (!b) by funext ρ;rw[tst]]
     exact st_not (ih a x hx).2
  |_=>simp[trUn] at h
 |BoolOp op es p=>
   rw[trE0] at h
   cases op with
  |And=>
    obtain⟨h1,h2⟩:=and_ok ih es e' h (pos:=p)
    match es,h with
   |[a],h=>exact⟨se_one (ih a e' h).1,h2.pt⟩
   |a::b::r,h=>
     rw[trB] at h
     obtain⟨x,hx,h⟩:=bindO h
     obtain⟨y,hy,h⟩:=bindO h
     cases h
     exact⟨h1,h2.pt⟩
  |Or=>
    obtain⟨h1,h2⟩:=or_ok ih es e' h (pos:=p)
    match es,h with
   |[a],h=>exact⟨se_one (ih a e' h).1,h2.pt⟩
   |a::b::r,h=>
     rw[trB] at h
     obtain⟨x,hx,h⟩:=bindO h
     obtain⟨y,hy,h⟩:=bindO h
     cases h
     exact⟨h1,h2.pt⟩
 |Compare a os bs p=>
   rw[trE0] at h
   unfold trCmp at h
   split at h
   ·split at h
    ·rename_i o _ b
     obtain⟨hm,h⟩:=whenO_some h
     have hm:behindInMarks o b=false:=by simpa using hm
     obtain⟨x,hx,h⟩:=bindO h
     obtain⟨y,hy,h⟩:=bindO h
     cases h
     have e1:den cf (.cmp o x y)=fun ρ=>M.bind (den cf x ρ) fun u=>M.bind (den cf y ρ) fun v=>cmpOp o u v:=by funext ρ;rw[den]
     refine⟨?_,?_⟩
     ·rw[e1];exact se_cmp ok.units hm (ih a x hx).1.any (ih b y hy).1.any
     ·rw[show tst cf (.cmp o x y)=fun ρ=>M.bind (den cf (.cmp o x y) ρ) truth from tst_pl rfl,e1]
      exact st_cmp ok.units hm (ih a x hx).1.any (ih b y hy).1.any
    ·cases h
   ·split at h
    ·rename_i o o2 _ b c
     obtain⟨hm,h⟩:=whenO_some h
     have hm:behindInMarks o2 c=false:=by simpa using hm
     obtain⟨x,hx,h⟩:=bindO h
     obtain⟨y,hy,h⟩:=bindO h
     obtain⟨z,hz,h⟩:=bindO h
     cases h
     have e1:den cf (.cmp2 o o2 x y z)=fun ρ=>M.bind (den cf x ρ) fun u=>M.bind (den cf y ρ) fun v=>M.bind (cmpOp o u v) fun t=>M.bind (orNo (isBl t)) fun t=>if t then M.bind (den cf z ρ) fun w=>cmpOp o2 v w else M.pure (.bl false):=by funext ρ;rw[den]
     refine⟨?_,?_⟩
     ·rw[e1];exact se_cmp2 ok.units hm (ih a x hx).1.any (ih b y hy).1.any (ih c z hz).1.any
     ·rw[show tst cf (.cmp2 o o2 x y z)=fun ρ=>M.bind (den cf (.cmp2 o o2 x y z) ρ) truth from tst_pl rfl,e1]
      exact st_cmp2 ok.units hm (ih a x hx).1.any (ih b y hy).1.any (ih c z hz).1.any
    ·cases h
   ·cases h
 |IfExp c a b p=>
   rw[trE0] at h
   obtain⟨z,hz,h⟩:=bindO h
   obtain⟨x,hx,h⟩:=bindO h
   obtain⟨y,hy,h⟩:=bindO h
   cases h
   refine⟨?_,?_⟩
   ·rw[show den cf (.ite z x y)=fun ρ=>M.bind (tst cf z ρ) fun t=>if t then den cf x ρ else den cf y ρ by funext ρ;rw[den]]
    exact se_ite (ih c z hz).2 (ih a x hx).1.any (ih b y hy).1.any
   ·rw[show tst cf (.ite z x y)=fun ρ=>M.bind (tst cf z ρ) fun t=>if t then tst cf x ρ else tst cf y ρ by funext ρ;rw[tst]]
    exact st_ite (ih c z hz).2 (ih a x hx).2 (ih b y hy).2
 |Subscript a b p=>
   rw[trE0] at h
   unfold trSub at h
   split at h
   ·split at h
    ·obtain⟨x,hx,h⟩:=bindO h
     obtain⟨l,hl,h⟩:=bindO h
     obtain⟨u,hu,h⟩:=bindO h
     cases h
     refine good_of (fun _=>rfl) (tst_pl rfl) ?_
     rw[show den cf (.sl x l u)=fun ρ=>M.bind (den cf x ρ) fun d=>M.bind (part cf l ρ) fun l=>M.bind (part cf u ρ) fun h=>slOp d l h by funext ρ;rw[den]]
     exact se_sl (ih a x hx).1.any (trO_ok ih hl) (trO_ok ih hu)
    ·obtain⟨hm,h⟩:=whenO_some h
     obtain⟨x,hx,h⟩:=bindO h
     cases h
     obtain⟨rfl,rfl,k1,q1,q2,rfl⟩:=isM1_ok hm
     refine good_of (fun _=>rfl) (tst_pl rfl) ?_
     rw[show den cf (.rv x)=fun ρ=>M.bind (den cf x ρ) fun d=>rvOp d by funext ρ;rw[den]]
     exact se_rv (ih a x hx).1.any
   ·obtain⟨hs,h⟩:=whenO_some h
    obtain⟨x,hx,h⟩:=bindO h
    obtain⟨y,hy,h⟩:=bindO h
    cases h
    refine good_of (fun _=>rfl) (tst_pl rfl) ?_
    rw[show den cf (.ix x y)=fun ρ=>M.bind (den cf x ρ) fun u=>M.bind (den cf y ρ) fun v=>ixOp u v by funext ρ;rw[den]]
    exact se_ix (plainIx_of hs) (ih a x hx).1.any (ih _ y hy).1.any
 |Call fn es kw p=>
   rw[trE0] at h
   obtain⟨h1,h2⟩:=call_ok ok ih h
   exact good_of (fun _=>rfl) h2 h1
 |ListComp elt gens scope p=>
   rw[trE0] at h
   unfold trLc at h
   split at h
   ·rename_i tg iter ifs as
    unfold trLc1 at h
    obtain⟨hc,h⟩:=whenO_some h
    obtain⟨hc,hb⟩:=and3 hc
    obtain⟨has,hset⟩:=and3 hc
    have has:=of_decide_eq_true has
    obtain⟨w,hw,h⟩:=bindO h
    obtain⟨t,ht,h⟩:=bindO h
    obtain⟨hsl,h⟩:=whenO_some h
    obtain⟨cs,hcs,h⟩:=bindO h
    obtain⟨e1,he1,h⟩:=bindO h
    cases h
    subst has
    have bo:=blkOk_by hb
    have bk:=ok.blk (scope:=scope) bo.kind
    refine good_of (fun _=>rfl) (tst_pl rfl) ?_
    rw[show den cf (.lc ((ownOf C.N scope).map (·.2)) t w.1 w.2 cs e1)=fun ρ=>M.bind (M.bind (dens cf w.2 ρ) fun ds=>walk w.1 ds) fun w=>compM w.2 (lcT (tsts cf cs) (den cf e1) t ((ownOf C.N scope).map (·.2)) ρ) w.1 by
     funext ρ;rw[den,M.bind_assoc];rfl]
    refine se_lc ok.calm hN (iter_ok ok ih hw) (by rw[ok.hN,ok.hsc];exact bo) (all_mem hsl) (fun s H Cc cl fp => ?_) (fun s H Cc cl fp => ?_) (fun s H Cc cl fp => ?_) (fold_of hset)
    ·exact trG_ok n (bk s H Cc cl fp) tg t ht
    ·exact trIfs_ok (fun e e' h=>trE_ok n (bk s H Cc cl fp) e e' h) hcs
    ·exact (trE_ok n (bk s H Cc cl fp) elt e1 he1).1.any
   ·rename_i tg iter ifs as tg1 iter1 ifs1 as1
    unfold trLc2 at h
    obtain⟨hc,h⟩:=whenO_some h
    obtain⟨hc,hb⟩:=and3 hc
    obtain⟨hc,hset1⟩:=and3 hc
    obtain⟨hc,has1⟩:=and3 hc
    obtain⟨has,hset⟩:=and3 hc
    have has:=of_decide_eq_true has
    have has1:=of_decide_eq_true has1
    obtain⟨w,hw,h⟩:=bindO h
    obtain⟨t,ht,h⟩:=bindO h
    obtain⟨w1,hw1,h⟩:=bindO h
    obtain⟨t1,ht1,h⟩:=bindO h
    obtain⟨hsl,h⟩:=whenO_some h
    obtain⟨hsl,hsl1⟩:=and3 hsl
    obtain⟨cs,hcs,h⟩:=bindO h
    obtain⟨cs1,hcs1,h⟩:=bindO h
    obtain⟨e1,he1,h⟩:=bindO h
    cases h
    subst has
    subst has1
    have bo:=blkOk_by hb
    have bk:=ok.blk (scope:=scope) bo.kind
    refine good_of (fun _=>rfl) (tst_pl rfl) ?_
    rw[show den cf (.lc2 ((ownOf C.N scope).map (·.2)) t1.slots t w.1 w.2 cs t1 w1.1 w1.2 cs1 e1)=fun ρ=>M.bind (M.bind (dens cf w.2 ρ) fun ds=>walk w.1 ds) fun w=>compM w.2 (lcT2 (tsts cf cs) (fun ρ=>M.bind (dens cf w1.2 ρ) fun ds=>walk w1.1 ds) (tsts cf cs1) (den cf e1) t t1 ((ownOf C.N scope).map (·.2)) t1.slots ρ) w.1 by
     funext ρ
     rw[den,M.bind_assoc]
     unfold lcT2
     simp only[M.bind_assoc]
     rfl]
    refine se_lc2 ok.calm hN (iter_ok ok ih hw) (by rw[ok.hN,ok.hsc];exact bo) (all_mem hsl1) (all_mem hsl) (fun i hi=>hi) (fun s H Cc cl fp => ?_) (fun s H Cc cl fp => ?_) (fun s H Cc cl fp => ?_) (fun s H Cc cl fp => ?_) (fun s H Cc cl fp => ?_) (fun s H Cc cl fp => ?_) (fold_of hset) (fun env=>fold_of hset1)
    ·exact trG_ok n (bk s H Cc cl fp) tg t ht
    ·exact trIfs_ok (fun e e' h=>trE_ok n (bk s H Cc cl fp) e e' h) hcs
    ·exact iter_ok (bk s H Cc cl fp) (fun e e' h=>trE_ok n (bk s H Cc cl fp) e e' h) hw1
    ·exact trG_ok n (bk s H Cc cl fp) tg1 t1 ht1
    ·exact trIfs_ok (fun e e' h=>trE_ok n (bk s H Cc cl fp) e e' h) hcs1
    ·exact (trE_ok n (bk s H Cc cl fp) elt e1 he1).1.any
   ·cases h
 |_=>simp[trE0] at h
end Dn
namespace Dn
open PySem L2
def noComp:Expr→Bool
|.ListComp _ _ _ _=>false
|.SetComp _ _ _ _=>false
|.DictComp _ _ _ _ _=>false
|_=>true
theorem noComp_sw {e:Expr} {t:Option Expr} {l:Nat} {env:PySem.Env} (h:noComp e=true):swapsWith e t l env=pure false:=by
 cases e <;> first|rfl|exact nomatch h
theorem tup_sw {e:Expr} {ts:List Expr} {kt:Nat} {pt:Pos} {l:Nat} {env:PySem.Env}:swapsWith e (some (.Tuple ts kt pt)) l env=pure false:=by
 cases e <;> rfl
def trBx (C:TC) (n:Nat) (e:Expr):Option E:=match n with
|0=>none
|n+1=>match e with
 |.Call fn es kw pos=>(match trY C (trE C n) (.Call fn es kw pos) with
  |some r=>r.bind fun e'=>(match e' with
   |.call f []=>some (.box (.callB f []))
   |e'=>whenO (fr e') (some (.box e')))
  |none=>match trX C (trE C n) (.Call fn es kw pos) with
  |some r=>r.bind fun e'=>whenO (fr e') (some (.box e'))
  |none=>(trCall C (trE C n) fn es kw pos).bind fun e'=>(match e' with
   |.call f xs=>some (.box (.callB f xs))
   |e'=>whenO (fr e') (some (.box e'))))
 |.IfExp c a b _=>(trE C n c).bind fun z=>(trBx C n a).bind fun x=>(trBx C n b).bind fun y=>some (.ite z x y)
 |e=>(trE C (n+1) e).bind fun e'=>whenO (fr e') (some (.box e'))
def noneTup:Expr→Bool
|.Tuple _ _ _=>false
|_=>true
def lcSw (C:TC) (x:Str) (px:Pos):Expr→Bool
|.ListComp _ _ scope pos=>(C.sc.names.lookup x == some .local)&&(px.line == pos.line) && !(scope.names.any fun (n,k)=>n == x&&(k == .local||k == .cell))
|_=>false
def lcCell (C:TC) (x:Str):Expr→Bool
|.ListComp _ _ _ _=>C.sc.names.lookup x == some .cell
|_=>false
def trAsgN (C:TC) (mb:Str→Bool) (n:Nat) (x:Str) (px:Pos) (e:Expr):Option S:=
 whenO (locOk C x) ((slotAt C.N x).bind fun i=>if noComp e=true then (if mb x=true then (trBx C n e).bind fun e'=>some (.asg (.nm i) e') else (trE C n e).bind fun e'=>some (.asg (.nm i) e'))
  else if lcCell C x e=true then (if mb x=true then (trBx C n e).bind fun e'=>some (.asg (.nm i) e') else (trE C n e).bind fun e'=>some (.asg (.nm i) e'))
  else whenO (lcSw C x px e) ((trE C n e).bind fun e'=>some (.asg (.nm i) (if mb x=true then .box e' else e'))))
def parOk (C:TC) (x:Str) (px:Pos) (y:Str) (py:Pos) (a b:Expr):Bool := !(decide (x=y))&&(C.sc.names.lookup x == some .local)&&(C.sc.names.lookup y == some .local)&&(px.line == py.line)&&noStar a&&noStar b
 && !(foldedForSure 8 a&&foldedForSure 8 b) && !(constantsAlone 8 a&&constantsAlone 8 b)
def trBn (C:TC) (mb:Str→Bool) (n:Nat) (x:Str) (e:Expr):Option E:=if mb x=true then trBx C n e else trE C n e
def objE:Expr→Bool
|.Constant _ _ _=>false
|.Name _ _=>false
|.Tuple _ _ _=>false
|_=>true
def trRt (C:TC) (mb:Str→Bool) (n:Nat) (e:Expr):Option E:=if (mb "return"&&objE e)=true then trBx C n e else trE C n e
def trPar (C:TC) (mb:Str→Bool) (n:Nat) (x:Str) (px:Pos) (y:Str) (py:Pos) (a b:Expr):Option S:=
 whenO (parOk C x px y py a b) ((slotAt C.N x).bind fun i=>(slotAt C.N y).bind fun j=>(trBn C mb n x a).bind fun a'=>(trBn C mb n y b).bind fun b'=>some (.par i j a' b'))
def isPar (ts:List Expr) (e:Expr):Option (Str×Pos×Str×Pos×Expr×Expr):=match ts with
|[t1,t2]=>(match t1 with
 |.Name x px=>(match t2 with
  |.Name y py=>(match e with
   |.Tuple es _ _=>(match es with
    |[a,b]=>some (x,px,y,py,a,b)
    |_=>none)
   |_=>none)
  |_=>none)
 |_=>none)
|_=>none
def par3Ok (C:TC) (x:Str) (px:Pos) (y:Str) (py:Pos) (z:Str) (pz:Pos) (a b c:Expr):Bool := !(decide (x=y)) && !(decide (x=z)) && !(decide (y=z))&&(C.sc.names.lookup x == some .local)&&(C.sc.names.lookup y == some .local)&&(C.sc.names.lookup z == some .local)&&(px.line == py.line)&&(px.line == pz.line)&&noStar a&&noStar b&&noStar c
 && !(foldedForSure 8 a&&foldedForSure 8 b&&foldedForSure 8 c) && !(constantsAlone 8 a&&constantsAlone 8 b&&constantsAlone 8 c)
def trPar3 (C:TC) (mb:Str→Bool) (n:Nat) (x:Str) (px:Pos) (y:Str) (py:Pos) (z:Str) (pz:Pos) (a b c:Expr):Option S:=
 whenO (par3Ok C x px y py z pz a b c) ((slotAt C.N x).bind fun i=>(slotAt C.N y).bind fun j=>(slotAt C.N z).bind fun l=>(trBn C mb n x a).bind fun a'=>(trBn C mb n y b).bind fun b'=>(trBn C mb n z c).bind fun c'=>some (.par3 i j l a' b' c'))
def isPar3 (ts:List Expr) (e:Expr):Option (Str×Pos×Str×Pos×Str×Pos×Expr×Expr×Expr):=match ts with
|[t1,t2,t3]=>(match t1 with
 |.Name x px=>(match t2 with
  |.Name y py=>(match t3 with
   |.Name z pz=>(match e with
    |.Tuple es _ _=>(match es with
     |[a,b,c]=>some (x,px,y,py,z,pz,a,b,c)
     |_=>none)
    |_=>none)
   |_=>none)
  |_=>none)
 |_=>none)
|_=>none
def swNames (C:TC) (ts:List Expr):List Str:=ts.filterMap fun
|.Name id pos=>if C.sc.names.lookup id == some .local&&pos.line == (ts.head?.map (·.pos.line)).getD 0 then some id else none
|_=>none
def swNone (C:TC) (ts vs:List Expr):Bool:=(!(ts.length == 2||ts.length == 3)||vs.length != ts.length)||((swNames C ts).length != ts.length)||vs.all (foldedForSure 8)
def trTs (C:TC) (mb:Str→Bool) (n:Nat):List Expr→List Expr→Option (List E)
|[],[]=>some []
|t::ts,v::vs=>whenO (noStar v) ((match t with
 |.Name x _=>trBn C mb n x v
 |_=>trE C n v).bind fun e=>(trTs C mb n ts vs).bind fun es=>some (e::es))
|_,_=>none
def tupOf:Expr→Option (List Expr)
|.Tuple es _ _=>some es
|_=>none
def trAsgV (C:TC) (mb:Str→Bool) (n:Nat) (ts:List Expr) (tg:Expr) (vs:List Expr):Option S:=whenO (swNone C ts vs) ((trG C n tg).bind fun g=>(trTs C mb n ts vs).bind fun es=>some (.asg g (.tup es)))
def isRest (ts:List Expr):Option (Str×Str):=match ts with
|[t1,t2]=>(match t1 with
 |.Name x _=>(match t2 with
  |.Starred t3 _=>(match t3 with
   |.Name y _=>some (x,y)
   |_=>none)
  |_=>none)
 |_=>none)
|_=>none
def trRest (C:TC) (n:Nat) (x y:Str) (e:Expr):Option S:=whenO (locOk C x&&locOk C y&&noneTup e&&noComp e) ((slotAt C.N x).bind fun i=>(slotAt C.N y).bind fun j=>(trE C n e).bind fun e'=>some (.rest i j e'))
def trAsgT (C:TC) (mb:Str→Bool) (n:Nat) (ts:List Expr) (tg e:Expr):Option S:=match isRest ts with
|some (x,y)=>trRest C n x y e
|none=>match isPar ts e with
|some (x,px,y,py,a,b)=>if parOk C x px y py a b=true then trPar C mb n x px y py a b else trAsgV C mb n ts tg [a,b]
|none=>match isPar3 ts e with
|some (x,px,y,py,z,pz,a,b,c)=>if par3Ok C x px y py z pz a b c=true then trPar3 C mb n x px y py z pz a b c else trAsgV C mb n ts tg [a,b,c]
|none=>match tupOf e with
 |some vs=>trAsgV C mb n ts tg vs
 |none=>whenO (noneTup e) ((trG C n tg).bind fun g=>(trE C n e).bind fun e'=>some (.asg g e'))
def trPut (C:TC) (n:Nat) (o b e:Expr):Option S:=whenO (noComp e&&notSlice b) ((trE C n e).bind fun e'=>(trE C n o).bind fun o'=>(trE C n b).bind fun b'=>some (if dnm C o=true then .dput o' b' e' else .put o' b' e'))
def trSetA (C:TC) (mb:Str→Bool) (n:Nat) (o:Expr) (f:Str) (e:Expr):Option S:=(trE C n o).bind fun o'=>(if mb ((".":Str)++f)=true then trBx C n e else trE C n e).bind fun e'=>some (.setA (C.g.at_ f) o' f e')
def isFld:Expr→Bool
|.Attribute _ _ _=>true
|_=>false
def trTg (C:TC) (e:Expr):Option Tg:=match e with
|.Name x _=>whenO (locOk C x) ((slotAt C.N x).bind fun i=>some (.nm i))
|.Attribute o f _=>(match o with
 |.Name y _=>whenO (dbg y&&vis C.sc y) ((slotAt C.N y).bind fun i=>some (.fld (C.g.at_ f) i f))
 |_=>none)
|_=>none
def trTgs (C:TC):List Expr→Option (List Tg)
|[]=>some []
|e::r=>(trTg C e).bind fun t=>(trTgs C r).bind fun ts=>some (t::ts)
def trAsgM (C:TC) (n:Nat) (ts:List Expr) (e:Expr):Option S:=whenO (noneTup e&&noComp e) ((trTgs C ts).bind fun gs=>(trE C n e).bind fun e'=>some (.asgM gs e'))
def trAsg (C:TC) (mb:Str→Bool) (n:Nat) (t e:Expr):Option S:=match t with
|.Name x px=>trAsgN C mb n x px e
|.Tuple ts _ _=>if ts.any isFld=true then trAsgM C n ts e else trAsgT C mb n ts t e
|.Subscript o b _=>trPut C n o b e
|.Attribute o f _=>trSetA C mb n o f e
|_=>none
def trAug (C:TC) (n:Nat) (t:Expr) (op:Operator) (e:Expr):Option S:=match t with
|.Name x _=>whenO (locOk C x) ((slotAt C.N x).bind fun i=>(trE C n e).bind fun e'=>some (.aug i op e'))
|.Attribute o f _=>(trE C n o).bind fun o'=>(trE C n e).bind fun e'=>some (.augA (C.g.at_ f) o' f op e')
|_=>none
def isMsg (e:Expr):Option Str:=match e with
|.Call fn es kw _=>(match fn with
 |.Name c _=>(match kw with
  |[]=>(match es with
   |[a]=>(match a with
    |.Constant k _ _=>(match k with
     |.str _=>some c
     |_=>none)
    |_=>none)
   |_=>none)
  |_=>none)
 |_=>none)
|_=>none
theorem isMsg_ok {e:Expr} {c:Str} (h:isMsg e=some c):∃p m j p2 p3,e=.Call (.Name c p) [.Constant (.str m) j p2] [] p3:=by
 unfold isMsg at h
 repeat' (split at h)
 all_goals first|(cases h;exact⟨_,_,_,_,_,rfl⟩)|cases h
def trRais (C:TC) (e:Expr):Option S:=(isMsg e).bind fun c=>whenO (gl C.sc c&&dbg c&&C.g.exs c) (some (.rais c))
def isWh (n:Str) (e:Expr):Option Str:=match e with
|.Call fn es kw _=>(match fn with
 |.Name f _=>(match kw with
  |[]=>(match es with
   |[a]=>(match a with
    |.Name y _=>if y=n then some f else none
    |_=>none)
   |_=>none)
  |_=>none)
 |_=>none)
|_=>none
theorem isWh_ok {n f:Str} {e:Expr} (h:isWh n e=some f):∃p q pos,e=.Call (.Name f p) [.Name n q] [] pos:=by
 unfold isWh at h
 repeat' (split at h)
 all_goals first|(cases h;subst_vars;exact⟨_,_,_,rfl⟩)|cases h
def isWh1 (n:Str) (e:Expr):Option Str:=match e with
|.Subscript a b _=>if isIntC 1 b=true then isWh n a else none
|_=>none
theorem isWh1_ok {n f:Str} {e:Expr} (h:isWh1 n e=some f):∃p q pos k pk ps,e=.Subscript (.Call (.Name f p) [.Name n q] [] pos) (.Constant (.int 1) k pk) ps:=by
 unfold isWh1 at h
 split at h
 ·split at h
  ·rename_i hb
   obtain⟨j,p,rfl⟩:=isIntC_ok hb
   obtain⟨p1,q,pos,rfl⟩:=isWh_ok h
   exact⟨_,_,_,_,_,_,rfl⟩
  ·cases h
 ·cases h
def isRet (ss:List Stmt):Option Expr:=match ss with
|[s]=>(match s with
 |.Return v _=>v
 |_=>none)
|_=>none
theorem isRet_ok {ss:List Stmt} {e:Expr} (h:isRet ss=some e):∃p,ss=[.Return (some e) p]:=by
 unfold isRet at h
 repeat' (split at h)
 all_goals first|(subst h;exact⟨_,rfl⟩)|cases h
def trHd (C:TC) (n:Option Str) (hits:List Str) (e:Expr):Option Hd:=match conE e with
|some d=>if n=none then some (.con d) else none
|none=>(match n with
 |none=>none
 |some n=>whenO (dbg n&&(C.sc.names.lookup n == some .local)) ((slotAt C.N n).bind fun i=>(match isWh n e with
  |some f=>(C.g.wh f).bind fun q=>whenO (gl C.sc f&&dbg f&&hits.all (fun x=>q.2.contains x)) (some (.wh i q.1 false))
  |none=>(match isWh1 n e with
   |some f=>(C.g.wh f).bind fun q=>whenO (gl C.sc f&&dbg f&&hits.all (fun x=>q.2.contains x)) (some (.wh i q.1 true))
   |none=>none))))
def isTry (s:Stmt):Option (List Stmt×Str×Option Str×List Stmt):=match s with
|.Try body hs orelse fin _=>(match hs with
 |[h]=>(match h with
  |.ExceptHandler ty n suite _=>(match ty with
   |some t=>(match t with
    |.Name c _=>(match orelse with
     |[]=>(match fin with
      |[]=>some (body,c,n,suite)
      |_=>none)
     |_=>none)
    |_=>none)
   |none=>none))
 |_=>none)
|_=>none
theorem isTry_ok {s:Stmt} {body suite:List Stmt} {c:Str} {n:Option Str} (h:isTry s=some (body,c,n,suite)):∃np pos' pos,s=.Try body [.ExceptHandler (some (.Name c np)) n suite pos'] [] [] pos:=by
 unfold isTry at h
 repeat' (split at h)
 all_goals first|(cases h;exact⟨_,_,_,rfl⟩)|cases h
def trTry (C:TC) (c:Str) (n:Option Str) (suite:List Stmt):Option (List Str×Hd):=whenO (gl C.sc c&&dbg c && !(C.g.sub c).isEmpty) ((isRet suite).bind fun e=>(trHd C n (C.g.sub c) e).bind fun h=>some (C.g.sub c,h))
def orNever:Option S→S
|some s=>s
|none=>.never
structure WrP where
 p:Str
 l:Str
 y:Str
 c:Expr
 q1:Pos
 q2:Pos
 q3:Pos
 q4:Pos
 q5:Pos
 q6:Pos
 q7:Pos
 q8:Pos
 q9:Pos
 q10:Pos
 q11:Pos
 q12:Pos
 q13:Pos
 q14:Pos
def WrP.e (w:WrP):Expr:=.BinOp (.Subscript (.Name w.l w.q6) (.Name w.p w.q7) w.q8) .BitAnd (.BinOp w.c .Sub (.Subscript (.Name w.y w.q9) (.Name w.p w.q10) w.q11) w.q12) w.q13
def WrP.ss (w:WrP):List Stmt:=[.Assign [.Subscript (.Name w.l w.q3) (.Name w.p w.q4) w.q5] w.e w.q14]
def isNmW:Expr→Option (Str×Pos)
|.Name z p=>some (z,p)
|_=>none
theorem isNmW_ok {e:Expr} {z p} (h:isNmW e=some (z,p)):e=.Name z p:=by
 unfold isNmW at h
 split at h
 ·cases h;rfl
 ·cases h
def isNS:Expr→Option (Str×Pos×Str×Pos×Pos)
|.Subscript (.Name l q) (.Name p r) s=>some (l,q,p,r,s)
|_=>none
theorem isNS_ok {e:Expr} {l q p r s} (h:isNS e=some (l,q,p,r,s)):e=.Subscript (.Name l q) (.Name p r) s:=by
 unfold isNS at h
 split at h
 ·cases h;rfl
 ·cases h
def isBn:Expr→Option (Expr×Operator×Expr×Pos)
|.BinOp a o b q=>some (a,o,b,q)
|_=>none
theorem isBn_ok {e:Expr} {a o b q} (h:isBn e=some (a,o,b,q)):e=.BinOp a o b q:=by
 unfold isBn at h
 split at h
 ·cases h;rfl
 ·cases h
def isAs:List Stmt→Option (Expr×Expr×Pos)
|[.Assign [t] e q]=>some (t,e,q)
|_=>none
theorem isAs_ok {ss:List Stmt} {t e q} (h:isAs ss=some (t,e,q)):ss=[.Assign [t] e q]:=by
 unfold isAs at h
 split at h
 ·cases h;rfl
 ·cases h
def isWr (tg it:Expr) (a:List Stmt):Option WrP:=
 (isAs a).bind fun (t,e,q14)=>(isBn e).bind fun (u,o,v,q13)=>(isNS t).bind fun (l,q3,p2,q4,q5)=>(isNS u).bind fun (l2,q6,p3,q7,q8)=>(isBn v).bind fun (c,o2,w,q12)=>(isNS w).bind fun (y2,q9,p4,q10,q11)=>(isNmW tg).bind fun (p,q1)=>(isNmW it).bind fun (y,q2)=>
  if o=.BitAnd∧o2=.Sub∧p2=p∧p3=p∧p4=p∧l2=l∧y2=y then some ⟨p,l,y,c,q1,q2,q3,q4,q5,q6,q7,q8,q9,q10,q11,q12,q13,q14⟩ else none
theorem isWr_ok {tg it:Expr} {a:List Stmt} {w:WrP} (h:isWr tg it a=some w):tg=.Name w.p w.q1∧it=.Name w.y w.q2∧a=w.ss:=by
 unfold isWr at h
 obtain⟨⟨t,e,q14⟩,h1,h⟩:=bindO h
 obtain⟨⟨u,o,v,q13⟩,h2,h⟩:=bindO h
 obtain⟨⟨l,q3,p2,q4,q5⟩,h3,h⟩:=bindO h
 obtain⟨⟨l2,q6,p3,q7,q8⟩,h4,h⟩:=bindO h
 obtain⟨⟨c,o2,z,q12⟩,h5,h⟩:=bindO h
 obtain⟨⟨y2,q9,p4,q10,q11⟩,h6,h⟩:=bindO h
 obtain⟨⟨p,q1⟩,h7,h⟩:=bindO h
 obtain⟨⟨y,q2⟩,h8,h⟩:=bindO h
 simp only at h
 by_cases q:o=.BitAnd∧o2=.Sub∧p2=p∧p3=p∧p4=p∧l2=l∧y2=y
 ·rw[if_pos q] at h
  obtain⟨rfl,rfl,rfl,rfl,rfl,rfl,rfl⟩:=q
  have h:=Option.some.inj h
  subst h
  refine⟨isNmW_ok h7,isNmW_ok h8,?_⟩
  rw[isAs_ok h1,isBn_ok h2,isNS_ok h3,isNS_ok h4,isBn_ok h5,isNS_ok h6] <;> rfl
 ·rw[if_neg q] at h;cases h
def cInt (C:TC):Expr→Option Int
|.Constant (.int i) _ _=>some i
|.Name x _=>whenO (dbg x && !vis C.sc x&&gl C.sc x) (match C.con x with
 |some (.int n)=>some n
 |_=>none)
|_=>none
def trWr (C:TC) (w:WrP):Option S:=whenO (C.dn w.y&&locOk C w.p&&vis C.sc w.p&&vis C.sc w.l&&vis C.sc w.y&&dbg w.p&&dbg w.l&&dbg w.y&&noComp w.e)
 ((slotAt C.N w.p).bind fun ip=>(slotAt C.N w.l).bind fun il=>(slotAt C.N w.y).bind fun im=>(cInt C w.c).bind fun n=>some (.wear ip il im n))
def trS (C:TC) (mb:Str→Bool) (n:Nat) (s:Stmt):S:=match n with
|0=>.never
|n+1=>match s with
 |.Pass _=>.pass
 |.Break _=>.brk
 |.Continue _=>.cnt
 |.Return none _=>.retN
 |.Return (some e) _=>orNever ((trRt C mb 40 e).bind fun e'=>some (.ret e'))
 |.Expr e _=>orNever (whenO (noComp e) ((trE C 40 e).bind fun e'=>some (.exp e')))
 |.If c a b _=>orNever ((trE C 40 c).bind fun c'=>some (.ifs c' (a.map (trS C mb n)) (b.map (trS C mb n))))
 |.While c a [] _=>orNever ((trE C 40 c).bind fun c'=>some (.whl c' (a.map (trS C mb n))))
 |.For tg it a [] _=>(match (isWr tg it a).bind (trWr C) with
  |some s'=>s'
  |none=>orNever (whenO (notSet it) ((trG C 40 tg).bind fun g=>(trI C (trE C 40) tg it).bind fun w=>some (.for_ g w.1 w.2 (a.map (trS C mb n))))))
 |.Assign [t] e _=>orNever (trAsg C mb 40 t e)
 |.AugAssign t op e _=>orNever (trAug C 40 t op e)
 |.Raise (some e) none _=>orNever (trRais C e)
 |.Try body hs orelse fin pos=>(match isTry (.Try body hs orelse fin pos) with
  |some (_,c,nm,suite)=>orNever ((trTry C c nm suite).bind fun q=>some (.try_ (body.map (trS C mb n)) q.1 q.2))
  |none=>.never)
 |_=>.never
structure UsP where
 y:Str
 py:Pos
 kx:Expr
 vj:Nat
 vp:Pos
 tg:Expr
 iter:Expr
 scope:Scope
 pos:Pos
 spos:Pos
 p:Pos
 z:Str
 p1:Pos
 p2:Pos
 p3:Pos
 p4:Pos
 p5:Pos
 p6:Pos
 p7:Pos
 p8:Pos
 cj:Nat
 cp:Pos
 scope2:Scope
def UsP.ss (u:UsP):List Stmt:=[.Assign [.Name u.y u.py] (.DictComp u.kx (.Constant (.bool true) u.vj u.vp) [⟨u.tg,u.iter,[],0⟩] u.scope u.pos) u.spos,
   .Return (some (.Call (.Name "sorted" u.p) [.ListComp (.Name u.z u.p1) [⟨.Name u.z u.p2,.Name u.y u.p3,[.Compare (.Name u.z u.p4) [.IsNot] [.Constant .none u.cj u.cp] u.p5],0⟩] u.scope2 u.p6] [] u.p7)) u.p8]
def isUs1:Stmt→Option (Str×Pos×Expr×Nat×Pos×Expr×Expr×Scope×Pos×Pos)
|.Assign [.Name y py] (.DictComp kx (.Constant (.bool true) vj vp) [⟨tg,iter,[],as⟩] scope pos) spos=>if as=0 then some (y,py,kx,vj,vp,tg,iter,scope,pos,spos) else none
|_=>none
theorem isUs1_ok {s:Stmt} {y py kx vj vp tg iter scope pos spos} (h:isUs1 s=some (y,py,kx,vj,vp,tg,iter,scope,pos,spos)):s=.Assign [.Name y py] (.DictComp kx (.Constant (.bool true) vj vp) [⟨tg,iter,[],0⟩] scope pos) spos:=by
 unfold isUs1 at h
 split at h
 ·split at h
  ·rename_i q
   subst q
   cases h
   rfl
  ·cases h
 ·cases h
def isUs2:Expr→Option (Str×Str×Pos×Pos×Pos×Nat×Pos×Pos)
|.Compare (.Name z p4) [.IsNot] [.Constant .none cj cp] p5=>some (z,z,p4,p5,cp,cj,p4,p5)
|_=>none
theorem isUs2_ok {e:Expr} {z z2 p4 p5 cp cj p4' p5'} (h:isUs2 e=some (z,z2,p4,p5,cp,cj,p4',p5')):e=.Compare (.Name z p4) [.IsNot] [.Constant .none cj cp] p5:=by
 unfold isUs2 at h
 split at h
 ·cases h;rfl
 ·cases h
def isUs3:Expr→Option (Expr×Str×Pos×Str×Pos×Expr×Scope×Pos)
|.ListComp elt [⟨.Name z p2,.Name y p3,[c],as⟩] scope p6=>if as=0 then some (elt,z,p2,y,p3,c,scope,p6) else none
|_=>none
theorem isUs3_ok {e:Expr} {elt z p2 y p3 c scope p6} (h:isUs3 e=some (elt,z,p2,y,p3,c,scope,p6)):e=.ListComp elt [⟨.Name z p2,.Name y p3,[c],0⟩] scope p6:=by
 unfold isUs3 at h
 split at h
 ·split at h
  ·rename_i q
   subst q
   cases h
   rfl
  ·cases h
 ·cases h
def isUs4:Stmt→Option (Str×Pos×Expr×Pos×Pos)
|.Return (some (.Call (.Name so p) [e] [] p7)) p8=>some (so,p,e,p7,p8)
|_=>none
theorem isUs4_ok {s:Stmt} {so p e p7 p8} (h:isUs4 s=some (so,p,e,p7,p8)):s=.Return (some (.Call (.Name so p) [e] [] p7)) p8:=by
 unfold isUs4 at h
 split at h
 ·cases h;rfl
 ·cases h
def isNmU:Expr→Option (Str×Pos)
|.Name z p=>some (z,p)
|_=>none
theorem isNmU_ok {e:Expr} {z p} (h:isNmU e=some (z,p)):e=.Name z p:=by
 unfold isNmU at h
 split at h
 ·cases h;rfl
 ·cases h
def isUs (ss:List Stmt):Option UsP:=match ss with
|[s1,s2]=>(isUs1 s1).bind fun (y,py,kx,vj,vp,tg,iter,scope,pos,spos)=>(isUs4 s2).bind fun (so,p,e,p7,p8)=>(isUs3 e).bind fun (elt,z,p2,y2,p3,c,scope2,p6)=>(isUs2 c).bind fun (z2,_,p4,p5,cp,cj,_,_)=>(isNmU elt).bind fun (z3,p1)=>
   if so = "sorted"∧y2=y∧z2=z∧z3=z then some ⟨y,py,kx,vj,vp,tg,iter,scope,pos,spos,p,z,p1,p2,p3,p4,p5,p6,p7,p8,cj,cp,scope2⟩ else none
|_=>none
theorem isUs_ok {ss:List Stmt} {u:UsP} (h:isUs ss=some u):ss=u.ss:=by
 unfold isUs at h
 split at h
 ·rename_i s1 s2
  cases e1:isUs1 s1 with
 |none=>rw[e1] at h;cases h
 |some a1=>
  cases e2:isUs4 s2 with
 |none=>rw[e1,e2] at h;cases h
 |some a2=>
  cases e3:isUs3 a2.2.2.1 with
 |none=>rw[e1,e2] at h;simp only[Option.bind_some,e3] at h;cases h
 |some a3=>
  cases e4:isUs2 a3.2.2.2.2.2.1 with
 |none=>rw[e1,e2] at h;simp only[Option.bind_some,e3,e4] at h;cases h
 |some a4=>
  cases e5:isNmU a3.1 with
 |none=>rw[e1,e2] at h;simp only[Option.bind_some,e3,e4,e5] at h;cases h
 |some a5=>
   rw[e1,e2] at h
   simp only[Option.bind_some,e3,e4,e5] at h
   obtain⟨y,py,kx,vj,vp,tg,iter,scope,pos,spos⟩:=a1
   obtain⟨so,p,e,p7,p8⟩:=a2
   obtain⟨elt,z,p2,y2,p3,c,scope2,p6⟩:=a3
   obtain⟨z2,z2',p4,p5,cp,cj,q1,q2⟩:=a4
   obtain⟨z3,p1⟩:=a5
   simp only at h e3 e4 e5
   by_cases q:so = "sorted"∧y2=y∧z2=z∧z3=z
   ·rw[if_pos q] at h
    obtain⟨rfl,rfl,rfl,rfl⟩:=q
    have h:=Option.some.inj h
    subst h
    rw[isUs1_ok e1,isUs4_ok e2,isUs3_ok e3,isUs2_ok e4,isNmU_ok e5] <;> rfl
   ·rw[if_neg q] at h;cases h
 ·cases h
def trUsP (C:TC) (u:UsP):Option S:=
 whenO ((C.sc.names.lookup u.y == some .local)&&dbg u.y&&dbg u.z&&(u.py.line == u.pos.line) && !(u.scope.names.any fun (n,k)=>n == u.y&&(k == .local||k == .cell))&&notSet u.iter&&blkC C.N C.sc u.scope (ownOf C.N u.scope)&&blkC C.N C.sc u.scope2 (ownOf C.N u.scope2)&&gl C.sc "sorted"&&locOk (C.blk u.scope2) u.z&&vis (C.blk u.scope2).sc u.z)
  ((slotAt C.N u.y).bind fun i=>(slotAt C.N u.z).bind fun j=>(trI C (trE C 40) u.tg u.iter).bind fun w=>(trG (C.blk u.scope) 40 u.tg).bind fun t=>
   whenO ((t.slots.all fun i=>((ownOf C.N u.scope).map (·.2)).contains i)&&((ownOf C.N u.scope2).map (·.2)).contains j) ((trE (C.blk u.scope) 40 u.kx).bind fun e=>some (.usx i j ((ownOf C.N u.scope).map (·.2)) t w.1 w.2 e)))
def trDf (C:TC) (mb:Str→Bool) (n:Nat) (ss:List Stmt):List S:=match (isUs ss).bind (trUsP C) with
|some s=>[s]
|none=>ss.map (trS C mb n)
structure OkS (X:Cx) (C:TC) (cf:Cf) (k:Nat) (W:WX):Prop extends Ok X C cf k W where
 pa:PassesOwn (model X.prog X.w) X.A X.env X.xe
 stk:X.stack=X.env::X.outer
 frm:X.env.frame=some X.env.locals
 exs:∀c,C.g.exs c=true→XF X c
 sub:∀c,C.g.sub c≠[]→∃Cc,X.mg c=some (.ref Cc)∧∀x∈C.g.sub c,∀Cx,PySem.W.nsIn X.K mainGlobals x=some (some (.ref Cx))→PySem.W.exmOne X.K (.ref Cx) (.ref Cc)=some true
 wh:∀f names exs,C.g.wh f=some (names,exs)→FW X 1 f names exs
theorem OkS.tr {X:Cx} {C:TC} {cf:Cf} {k:Nat} {W W':WX} (o:OkS X C cf k W) {pn:List (Addr×Obj)} {xe:Value→Shared→Prop} (tk:Takes (X.tr pn xe) W') (pa:PassesOwn (model X.prog X.w) X.A X.env xe):OkS (X.tr pn xe) C cf k W':=
 {hN:=o.hN,nd:=o.nd,hsc:=o.hsc,kind:=o.kind,fn_:=o.fn_,calm:=o.calm,room1:=o.room1,tk:=tk,blt:=o.blt,con:=o.con,fns:=fun x np h=>⟨(o.fns x np h).ex⟩,dfl:=fun x np j h hj=>⟨(o.dfl x np j h hj).ex⟩,at_:=o.at_,cn:=fun c g np h=>⟨(o.cn c g np h).ex⟩,mt:=fun m c g h=>⟨(o.mt m c g h).ex⟩,kw:=fun x n ps h=>⟨(o.kw x n ps h).ex⟩,kd:=fun x n ds h=>⟨(o.kd x n ds h).ex⟩,
  pa:=pa,stk:=o.stk,frm:=o.frm,exs:=o.exs,sub:=o.sub,wh:=fun f names exs h=>⟨(o.wh f names exs h).ex⟩}
section
variable {X:Cx} {C:TC} {cf:Cf} {k:Nat} {W:WX} {e a b:Expr} {e' x y z:E} {pos:Pos}
theorem andS_bind {α β:Type} {ρ:Env} {m:M α} {f:α→M β} {st:Sto} {g:β→Sto→RS}:andS ρ (M.bind m f st) g=andS ρ (m st) fun a st=>andS ρ (f a st) g:=by
 unfold M.bind
 cases m st <;> rfl
theorem den_box {cf:Cf} {e':E}:den cf (.box e')=fun ρ=>M.bind (den cf e' ρ) fun d=>boxed d:=by funext ρ;rw[den]
theorem box_ok (h:SE X W e (den cf e') (fr e')) (hf:fr e'=true):SE X W e (den cf (.box e')) false:=by
 rw[hf] at h
 rw[den_box]
 exact se_box h
theorem trCall_call {f:Expr→Option E} (ok:Ok X C cf k W) (ih:∀e e',f e=some e'→Good X W cf e e') {fn:Expr} {es:List Expr} {kw:List Keyword} {g:Str} {xs:List E} (h:trCall C f fn es kw pos=some (.call g xs)) :
  SE X W (.Call fn es kw pos) (den cf (.callB g xs)) true:=by
 cases kw with
|cons q r=>simp[trCall] at h
|nil=>
  cases fn with
 |Name x p=>
   cases es with
  |nil=>simp[trCall] at h
  |cons e1 es=>
    replace h:whenO (gl C.sc x&&dbg x) (trFn C f x e1 es)=some (.call g xs):=h
    obtain⟨hg,hh⟩:=whenO_some h
    clear h
    obtain⟨hg,hd⟩:=and3 hg
    have hg':=ok.gl hg
    obtain⟨hd1,hd2⟩:=and3 hd
    have hd1:(x == ("__debug__":Str))=false:=by simpa using hd1
    unfold trFn at hh
    cases hf:C.fns x with
   |some np=>
     rw[hf] at hh
     simp only at hh
     by_cases hn:(e1::es).length=np
     ·rw[if_pos hn] at hh
      obtain⟨ys,hx,h⟩:=bindO hh
      cases h
      obtain⟨h1,h2,h3⟩:=trL_ok ih _ _ hx
      rw[show den cf (.callB g xs)=fun ρ=>M.bind (dens cf xs ρ) fun ds=>callV true (cf.fn g ds) by funext ρ;rw[den]]
      exact se_call (ok.fns g np hf) ok.room ok.tk hg' hd1 h2 hn (fun ρ st ds st1 q=>by rw[dens_len xs q,←h3];exact hn) h1
     ·rw[if_neg hn] at hh
      obtain⟨hl,h⟩:=whenO_some hh
      obtain⟨hl1,hl2⟩:=and3 hl
      have hl1:=of_decide_eq_true hl1
      have hl2:=of_decide_eq_true hl2
      obtain⟨ys,hx,h⟩:=bindO h
      cases h
      obtain⟨h1,h2,h3⟩:=trL_ok ih _ _ hx
      rw[show den cf (.callB g (ys++((C.dfl g).drop ((C.dfl g).length - (np - (e1::es).length))).map E.k))=fun ρ=>M.bind (dens cf ys ρ) fun ds=>callV true (cf.fn g (ds++(C.dfl g).drop ((C.dfl g).length - (np - (e1::es).length)))) by
       funext ρ;rw[den,dens_ks,M.bind_assoc];rfl]
      exact se_callD (ok.dfl g np _ hf (by omega)) ok.room ok.tk hg' hd1 h2 (fun ρ st ds st1 q=>by rw[dens_len ys q,←h3,List.length_drop];omega) h1
   |none=>
     rw[hf] at hh
     simp only at hh
     cases hkd:C.kd x with
    |some w=>
      obtain⟨kn,cs⟩:=w
      rw[hkd] at hh
      obtain⟨hl,h⟩:=whenO_some hh
      have hl:=of_decide_eq_true hl
      obtain⟨ys,hx,h⟩:=bindO h
      cases h
      obtain⟨h1,h2,h3⟩:=trL_ok ih _ _ hx
      rw[show den cf (.callB g (ys++cs.map E.k))=fun ρ=>M.bind (dens cf ys ρ) fun ds=>callV true (cf.fn g (ds++cs)) by
       funext ρ;rw[den,dens_ks,M.bind_assoc];rfl]
      exact se_callD (ok.kd g kn cs hkd) ok.room ok.tk hg' hd1 h2 (fun ρ st ds st1 q=>by rw[dens_len ys q,←h3,hl]) h1
    |none=>
     rw[hkd] at hh
     simp only at hh
     by_cases hi:x = "isinstance"
     ·rw[if_pos hi] at hh
      unfold trIsi at hh
      split at hh
      ·split at hh
       ·obtain⟨hc,h⟩:=whenO_some hh
        obtain⟨ty,hty,h⟩:=bindO h
        obtain⟨y,hy,h⟩:=bindO h
        cases h
       ·cases hh
      ·cases hh
     ·rw[if_neg hi] at hh
      obtain⟨b,hb,h⟩:=bindO hh
      obtain⟨xs,hx,h⟩:=bindO h
      cases h
 |Attribute o at_ apos=>
   simp only[trCall,trMe] at h
   obtain⟨hc,h⟩:=whenO_some h
   obtain⟨mm,hm,h⟩:=bindO h
   obtain⟨y,hy,h⟩:=bindO h
   obtain⟨xs,hx,h⟩:=bindO h
   cases h
 |_=>simp[trCall] at h
theorem trY_call0 {f:Expr→Option E} (ok:Ok X C cf k W) {e:Expr} {g:Str} (h:trY C f e=some (some (.call g []))):SE X W e (den cf (.callB g [])) true:=by
 unfold trY at h
 split at h
 ·have h:=Option.some.inj h
  obtain⟨hp,h⟩:=whenO_some h
  obtain⟨y,hy,h⟩:=bindO h
  cases h
 ·rename_i fn es kw pos
  split at h
  ·split at h
   ·rename_i x p
    unfold trNew at h
    split at h
    ·have h:=Option.some.inj h
     obtain⟨hc,h⟩:=whenO_some h
     obtain⟨xs,hx,h⟩:=bindO h
     cases h
    ·by_cases he:es.isEmpty=true
     ·rw[if_pos he] at h
      have h:=Option.some.inj h
      obtain⟨hc,h⟩:=whenO_some h
      obtain⟨hc,hn⟩:=and3 hc
      obtain⟨hg,hd⟩:=and3 hc
      obtain⟨hd1,hd2⟩:=and3 hd
      have hd1:(x == ("__debug__":Str))=false:=by simpa using hd1
      have hn:=of_decide_eq_true hn
      have he:es=[]:=by simpa using he
      subst he
      cases h
      rw[show den cf (.callB g [])=fun ρ=>M.bind (M.pure []) fun ds=>callV true (cf.fn g ds) by funext ρ;rw[den,dens]]
      exact se_call0B (ok.fns g 0 hn) ok.room ok.tk (ok.gl hg) hd1 rfl
     ·rw[if_neg he] at h;cases h
   ·unfold trMc at h
    split at h
    ·cases h
    ·have h:=Option.some.inj h
     obtain⟨hc,h⟩:=whenO_some h
     obtain⟨y,hy,h⟩:=bindO h
     obtain⟨xs,hx,h⟩:=bindO h
     cases h
   ·cases h
  ·cases h
 ·cases h
theorem trBx_ok (ok:Ok X C cf k W):∀{n:Nat} {e:Expr} {e':E},trBx C n e=some e'→SE X W e (den cf e') false
|0,e,e',h=>by cases h
|n+1,e,e',h=>by
  unfold trBx at h
  split at h
  ·rename_i fn es kw pos
   split at h
   ·rename_i r hr
    obtain⟨y,hy,h⟩:=bindO h
    split at h
    ·rename_i f
     cases h
     rw[den_box]
     exact se_box (trY_call0 ok (hr.trans (congrArg some hy)))
    ·obtain⟨hf,h⟩:=whenO_some h
     cases h
     exact box_ok (trY_ok ok (fun e e' h=>trE_ok n ok e e' h) (hr.trans (congrArg some hy))).1 hf
   split at h
   ·rename_i r hr
    obtain⟨y,hy,h⟩:=bindO h
    obtain⟨hf,h⟩:=whenO_some h
    cases h
    exact box_ok (trX_ok ok (fun e e' h=>trE_ok n ok e e' h) (hr.trans (congrArg some hy))).1 hf
   obtain⟨y,hy,h⟩:=bindO h
   split at h
   ·cases h
    have q:=trCall_call ok (fun e e' h=>trE_ok n ok e e' h) hy
    rename_i f xs
    rw[den_box]
    exact se_box q
   ·obtain⟨hf,h⟩:=whenO_some h
    cases h
    exact box_ok (call_ok ok (fun e e' h=>trE_ok n ok e e' h) hy).1 hf
  ·rename_i c a b pos
   obtain⟨z,hz,h⟩:=bindO h
   obtain⟨x,hx,h⟩:=bindO h
   obtain⟨y,hy,h⟩:=bindO h
   cases h
   rw[show den cf (.ite z x y)=fun ρ=>M.bind (tst cf z ρ) fun q=>if q then den cf x ρ else den cf y ρ by funext ρ;rw[den]]
   exact se_ite (trE_ok n ok c z hz).2 (trBx_ok ok hx) (trBx_ok ok hy)
  ·obtain⟨y,hy,h⟩:=bindO h
   obtain⟨hf,h⟩:=whenO_some h
   cases h
   exact box_ok (trE_ok (n+1) ok _ y hy).1 hf
theorem trBn_ok (ok:Ok X C cf k W) {n:Nat} {mb:Str→Bool} {u:Str} (h:trBn C mb n u e=some e'):SE X W e (den cf e') false:=by
 unfold trBn at h
 by_cases hm:mb u=true
 ·rw[if_pos hm] at h;exact trBx_ok ok h
 ·rw[if_neg hm] at h;exact (trE_ok n ok e e' h).1.any
theorem trRt_ok (ok:Ok X C cf k W) {n:Nat} {mb:Str→Bool} (h:trRt C mb n e=some e'):SE X W e (den cf e') false:=by
 unfold trRt at h
 by_cases hm:(mb "return"&&objE e)=true
 ·rw[if_pos hm] at h;exact trBx_ok ok h
 ·rw[if_neg hm] at h;exact (trE_ok n ok e e' h).1.any
theorem lc_ok (ok:Ok X C cf k W) {n:Nat} {elt:Expr} {gens:List Comprehension} {scope:Scope} (h:trLc C (trE C n) (trE (C.blk scope) n) (trG (C.blk scope) n) elt gens scope=some e') :
  ∃tE,(∀σ H Q,rd (aV X.K true) X.K W (den cf e') σ H Q→tE σ H Q)∧∀(y:Str) (py:Pos) (i:Nat) (spos:Pos),X.N[i]?=some y→X.env.scope.names.lookup y=some .local →
   swapsWith (.ListComp elt gens scope pos) (some (.Name y py)) spos.line X.env=pure true→PS X (.Assign [.Name y py] (.ListComp elt gens scope pos) spos) (tAsg tE (gName i)):=by
 have hN:X.N.Nodup:=by rw[ok.hN];exact ok.nd
 have ih:∀e e',trE C n e=some e'→Good X W cf e e':=fun e e' h=>trE_ok n ok e e' h
 unfold trLc at h
 split at h
 ·rename_i tg iter ifs as
  unfold trLc1 at h
  obtain⟨hc,h⟩:=whenO_some h
  obtain⟨hc,hb⟩:=and3 hc
  obtain⟨has,hset⟩:=and3 hc
  have has:=of_decide_eq_true has
  obtain⟨w,hw,h⟩:=bindO h
  obtain⟨t,ht,h⟩:=bindO h
  obtain⟨hsl,h⟩:=whenO_some h
  obtain⟨cs,hcs,h⟩:=bindO h
  obtain⟨e1,he1,h⟩:=bindO h
  cases h
  subst has
  have bo:=blkOk_by hb
  have bk:=ok.blk (scope:=scope) bo.kind
  refine⟨_,fun σ H Q h => ?_,fun y py i spos hy hl hs=>ps_setLc (own:=ownOf C.N scope) (te:=rd (aV X.K false) X.K W0 (den cf e1)) (tt:=rd aB X.K W0 (tsts cf cs)) (g:=t.tg X.K) ok.calm hN hy hl hs (iter_ok ok ih hw) (by rw[ok.hN,ok.hsc];exact bo) (fun s H Cc cl fp => ?_) (fun s H Cc cl fp => ?_) (fun s H Cc cl fp => ?_) (fold_of hset)⟩
  ·rw[show den cf (.lc ((ownOf C.N scope).map (·.2)) t w.1 w.2 cs e1)=fun ρ=>M.bind (M.bind (dens cf w.2 ρ) fun ds=>walk w.1 ds) fun w=>compM w.2 (lcT (tsts cf cs) (den cf e1) t ((ownOf C.N scope).map (·.2)) ρ) w.1 by
     funext ρ;rw[den,M.bind_assoc];rfl] at h
   exact lc_rd (all_mem hsl) h
  ·exact trG_ok n (bk s H Cc cl fp) tg t ht
  ·exact trIfs_ok (fun e e' h=>trE_ok n (bk s H Cc cl fp) e e' h) hcs
  ·exact (trE_ok n (bk s H Cc cl fp) elt e1 he1).1.any
 ·rename_i tg iter ifs as tg1 iter1 ifs1 as1
  unfold trLc2 at h
  obtain⟨hc,h⟩:=whenO_some h
  obtain⟨hc,hb⟩:=and3 hc
  obtain⟨hc,hset1⟩:=and3 hc
  obtain⟨hc,has1⟩:=and3 hc
  obtain⟨has,hset⟩:=and3 hc
  have has:=of_decide_eq_true has
  have has1:=of_decide_eq_true has1
  obtain⟨w,hw,h⟩:=bindO h
  obtain⟨t,ht,h⟩:=bindO h
  obtain⟨w1,hw1,h⟩:=bindO h
  obtain⟨t1,ht1,h⟩:=bindO h
  obtain⟨hsl,h⟩:=whenO_some h
  obtain⟨hsl,hsl1⟩:=and3 hsl
  obtain⟨cs,hcs,h⟩:=bindO h
  obtain⟨cs1,hcs1,h⟩:=bindO h
  obtain⟨e1,he1,h⟩:=bindO h
  cases h
  subst has
  subst has1
  have bo:=blkOk_by hb
  have bk:=ok.blk (scope:=scope) bo.kind
  refine⟨_,fun σ H Q h => ?_,fun y py i spos hy hl hs=>ps_setLc2 (own:=ownOf C.N scope) (vs1:=t1.slots) (te:=rd (aV X.K false) X.K W0 (den cf e1)) (tt:=rd aB X.K W0 (tsts cf cs)) (tt1:=rd aB X.K W0 (tsts cf cs1)) (g:=t.tg X.K) (g1:=t1.tg X.K) (wi1:=rd (aI X.K) X.K W0 (fun ρ=>M.bind (dens cf w1.2 ρ) fun ds=>walk w1.1 ds)) ok.calm hN hy hl hs (iter_ok ok ih hw) (by rw[ok.hN,ok.hsc];exact bo) (all_mem hsl1) (fun s H Cc cl fp => ?_) (fun s H Cc cl fp => ?_) (fun s H Cc cl fp => ?_) (fun s H Cc cl fp => ?_) (fun s H Cc cl fp => ?_) (fun s H Cc cl fp => ?_) (fold_of hset) (fun env=>fold_of hset1)⟩
  ·rw[show den cf (.lc2 ((ownOf C.N scope).map (·.2)) t1.slots t w.1 w.2 cs t1 w1.1 w1.2 cs1 e1)=fun ρ=>M.bind (M.bind (dens cf w.2 ρ) fun ds=>walk w.1 ds) fun w=>compM w.2 (lcT2 (tsts cf cs) (fun ρ=>M.bind (dens cf w1.2 ρ) fun ds=>walk w1.1 ds) (tsts cf cs1) (den cf e1) t t1 ((ownOf C.N scope).map (·.2)) t1.slots ρ) w.1 by
     funext ρ
     rw[den,M.bind_assoc]
     unfold lcT2
     simp only[M.bind_assoc]
     rfl] at h
   exact lc2_rd (all_mem hsl) (fun i hi=>hi) h
  ·exact trG_ok n (bk s H Cc cl fp) tg t ht
  ·exact trIfs_ok (fun e e' h=>trE_ok n (bk s H Cc cl fp) e e' h) hcs
  ·exact iter_ok (bk s H Cc cl fp) (fun e e' h=>trE_ok n (bk s H Cc cl fp) e e' h) hw1
  ·exact trG_ok n (bk s H Cc cl fp) tg1 t1 ht1
  ·exact trIfs_ok (fun e e' h=>trE_ok n (bk s H Cc cl fp) e e' h) hcs1
  ·exact (trE_ok n (bk s H Cc cl fp) elt e1 he1).1.any
 ·cases h
end
end Dn
namespace Dn
open PySem L2
section
variable {X:Cx} {C:TC} {cf:Cf} {k:Nat} {W:WX} {e a b:Expr} {e' x y z:E} {pos:Pos} {s':S} {mb:Str→Bool}
theorem isPar_some {ts:List Expr} {x y:Str} {px py:Pos} (h:isPar ts e=some (x,px,y,py,a,b)):ts=[.Name x px,.Name y py]∧∃k2 pt,e=.Tuple [a,b] k2 pt:=by
 unfold isPar at h
 repeat' (split at h)
 all_goals first|(cases h;exact⟨rfl,_,_,rfl⟩)|cases h
theorem isRest_some {ts:List Expr} {x y:Str} (h:isRest ts=some (x,y)):∃p1 p2 p3,ts=[.Name x p1,.Starred (.Name y p2) p3]:=by
 unfold isRest at h
 repeat' (split at h)
 all_goals first|(cases h;exact⟨_,_,_,rfl⟩)|cases h
theorem isPar3_some {ts:List Expr} {c:Expr} {x y z:Str} {px py pz:Pos} (h:isPar3 ts e=some (x,px,y,py,z,pz,a,b,c)):ts=[.Name x px,.Name y py,.Name z pz]∧∃k2 pt,e=.Tuple [a,b,c] k2 pt:=by
 unfold isPar3 at h
 repeat' (split at h)
 all_goals first|cases h|skip
 all_goals exact⟨rfl,_,_,rfl⟩
theorem swapped_par3 (hk:X.env.scope.kind=.function) {c:Expr} {x y z:Str} {px py pz pt pt2:Pos} {kt k2} (hx:X.env.scope.names.lookup x=some .local) (hy:X.env.scope.names.lookup y=some .local) (hz:X.env.scope.names.lookup z=some .local) (hxy:x≠y) (hxz:x≠z) (hyz:y≠z) (hl:(px.line == py.line)=true) (hl2:(px.line == pz.line)=true) (h1:noStar a=true) (h2:noStar b=true) (h5:noStar c=true)
  (h3:(foldedForSure 8 a&&foldedForSure 8 b&&foldedForSure 8 c)=false) (h4:(constantsAlone 8 a&&constantsAlone 8 b&&constantsAlone 8 c)=false) :
  swappedStores [.Tuple [.Name x px,.Name y py,.Name z pz] kt pt] (.Tuple [a,b,c] k2 pt2) X.env=pure (some [x,y,z]):=by
 have kx:X.env.kindOf x=some .local:=hx
 have ky:X.env.kindOf y=some .local:=hy
 have kz:X.env.kindOf z=some .local:=hz
 have hb:X.env.blockKind=.function:=by unfold PySem.Env.blockKind;rw[hk];rfl
 have hl':py.line=px.line:=(beq_iff_eq.mp hl).symm
 have hl2':pz.line=px.line:=(beq_iff_eq.mp hl2).symm
 have h3':¬(foldedForSure 8 a=true∧foldedForSure 8 b=true∧foldedForSure 8 c=true):=by
  intro ⟨z1,z2,z3⟩
  rw[z1,z2,z3] at h3
  cases h3
 have h4':¬(constantsAlone 8 a=true∧constantsAlone 8 b=true∧constantsAlone 8 c=true):=by
  intro ⟨z1,z2,z3⟩
  rw[z1,z2,z3] at h4
  cases h4
 have hyx:(y == x)=false:=beq_eq_false_iff_ne.mpr (Ne.symm hxy)
 have hzx:(z == x)=false:=beq_eq_false_iff_ne.mpr (Ne.symm hxz)
 have hzy:(z == y)=false:=beq_eq_false_iff_ne.mpr (Ne.symm hyz)
 unfold swappedStores
 simp only[hb]
 simp[Expr.pos,kx,ky,kz,hl',hl2',List.eraseDups,List.eraseDupsBy,List.eraseDupsBy.loop,hyx,hzx,hzy,h3',h4']
 rintro (w|w|w)
 ·cases a <;> first|exact absurd (show false=true from w) (by decide)|exact nomatch h1
 ·cases b <;> first|exact absurd (show false=true from w) (by decide)|exact nomatch h2
 ·cases c <;> first|exact absurd (show false=true from w) (by decide)|exact nomatch h5
theorem swapped_par (hk:X.env.scope.kind=.function) {x y:Str} {px py pt pt2:Pos} {kt k2} (hx:X.env.scope.names.lookup x=some .local) (hy:X.env.scope.names.lookup y=some .local) (hxy:x≠y) (hl:(px.line == py.line)=true) (h1:noStar a=true) (h2:noStar b=true)
  (h3:(foldedForSure 8 a&&foldedForSure 8 b)=false) (h4:(constantsAlone 8 a&&constantsAlone 8 b)=false) :
  swappedStores [.Tuple [.Name x px,.Name y py] kt pt] (.Tuple [a,b] k2 pt2) X.env=pure (some [x,y]):=by
 have kx:X.env.kindOf x=some .local:=hx
 have ky:X.env.kindOf y=some .local:=hy
 have hb:X.env.blockKind=.function:=by unfold PySem.Env.blockKind;rw[hk];rfl
 have hl':py.line=px.line:=(beq_iff_eq.mp hl).symm
 have h3':¬(foldedForSure 8 a=true∧foldedForSure 8 b=true):=by
  intro ⟨z1,z2⟩
  rw[z1,z2] at h3
  cases h3
 have h4':¬(constantsAlone 8 a=true∧constantsAlone 8 b=true):=by
  intro ⟨z1,z2⟩
  rw[z1,z2] at h4
  cases h4
 have hyx:(y == x)=false:=beq_eq_false_iff_ne.mpr (Ne.symm hxy)
 unfold swappedStores
 simp only[hb]
 simp[Expr.pos,kx,ky,hl',List.eraseDups,List.eraseDupsBy,List.eraseDupsBy.loop,hyx,h3',h4']
 rintro (z|z)
 ·cases a <;> first|exact absurd (show false=true from z) (by decide)|exact nomatch h1
 ·cases b <;> first|exact absurd (show false=true from z) (by decide)|exact nomatch h2
theorem swNone_ok (hk:X.env.scope.kind=.function) (hs:X.env.scope=C.sc) {ts vs:List Expr} {kt k2} {pt pt2:Pos} (hv:vs.all noStar=true) (h:swNone C ts vs=true):swappedStores [.Tuple ts kt pt] (.Tuple vs k2 pt2) X.env=pure none:=by
 have hb:X.env.blockKind=.function:=by unfold PySem.Env.blockKind;rw[hk];rfl
 have hkd:∀x,X.env.kindOf x=C.sc.names.lookup x:=fun x=>by
  show X.env.scope.names.lookup x=_
  rw[hs]
 unfold swappedStores
 simp only[hb,hkd]
 by_cases c1:(!(ts.length == 2||ts.length == 3)||vs.length != ts.length)=true
 ·simp only[c1,Bool.true_or,if_true]
 ·have c1:=eq_false_of_ne_true c1
  unfold swNone at h
  rw[c1,Bool.false_or] at h
  simp only[c1]
  rw[if_neg (by decide)]
  split
  ·rfl
  ·split
   ·rfl
   ·rename_i h2
    split
    ·rfl
    ·rename_i h3
     exfalso
     rcases Bool.or_eq_true_iff.mp h with z|z
     ·apply h2
      exact Bool.or_eq_true_iff.mpr (.inl z)
     ·exact h3 z
theorem asgV_ok (ok:OkS X C cf k W) {n:Nat} {ts vs:List Expr} {kt k2} {pt pt2:Pos} (h:trAsgV C mb n ts (.Tuple ts kt pt) vs=some s'):SS X W (.Assign [.Tuple ts kt pt] (.Tuple vs k2 pt2) pos) (exe cf s'):=by
 unfold trAsgV at h
 obtain⟨hc,h⟩:=whenO_some h
 obtain⟨g,hg,h⟩:=bindO h
 obtain⟨es,he,h⟩:=bindO h
 cases h
 have key:∀(ts vs:List Expr) (es:List E),trTs C mb n ts vs=some es→SA X W vs (dens cf es)∧vs.all noStar=true:=by
  intro ts
  induction ts with
 |nil=>
   intro vs es h
   cases vs with
  |nil=>
    cases h
    rw[show dens cf []=fun _=>M.pure [] by funext ρ;rw[dens]]
    exact⟨sa_nil,rfl⟩
  |cons v vs=>cases h
 |cons t ts ih=>
   intro vs es h
   cases vs with
  |nil=>cases h
  |cons v vs=>
    unfold trTs at h
    obtain⟨hs,h⟩:=whenO_some h
    obtain⟨e1,h1,h⟩:=bindO h
    obtain⟨es1,h2,h⟩:=bindO h
    cases h
    obtain⟨q1,q2⟩:=ih vs es1 h2
    rw[show dens cf (e1::es1)=fun ρ=>M.bind (den cf e1 ρ) fun d=>M.bind (dens cf es1 ρ) fun ds=>M.pure (d::ds) by funext ρ;rw[dens]]
    refine⟨sa_cons hs ?_ q1,by rw[List.all_cons,hs,q2];rfl⟩
    split at h1
    ·exact trBn_ok ok.toOk h1
    ·exact (trE_ok n ok.toOk _ _ h1).1.any
 obtain⟨k1,k2'⟩:=key ts vs es he
 rw[show exe cf (.asg g (.tup es))=fun ρ st=>andS ρ ((M.bind (dens cf es ρ) fun ds=>whenM (szOk ds.length) (M.pure (.tup ds))) st) fun d st=>match g.set d ρ with
  |some ρ'=>.ok (.nx ρ') st
  |none=>.no by funext ρ st;rw[exe,den] <;> rfl]
 exact ss_tg (trG_ok n ok.toOk _ g hg) (se_tup k1).weak rfl (swNone_ok (by rw[ok.hsc];exact ok.kind) ok.hsc k2' hc) rfl
theorem trTgs_ok (ok:OkS X C cf k W):∀(es:List Expr) (gs:List Tg),trTgs C es=some gs→PGs X es (tgR X.K gs)∧(assignEach es X.env).length=gs.length∧(assignEach es X.env).findIdx? (·.1)=none
|[],gs,h=>by
  cases h
  exact⟨tgR_nil,rfl,rfl⟩
|e::es,gs,h=>by
  rw[trTgs] at h
  obtain⟨t,ht,h⟩:=bindO h
  obtain⟨ts,hts,h⟩:=bindO h
  cases h
  obtain⟨h1,h2,h3⟩:=trTgs_ok ok es ts hts
  have hN:X.N.Nodup:=by rw[ok.hN];exact ok.nd
  unfold trTg at ht
  split at ht
  ·rename_i x p
   obtain⟨hl,ht⟩:=whenO_some ht
   obtain⟨i,hi,ht⟩:=bindO ht
   cases ht
   obtain⟨l1,l2⟩:=ok.loc hl
   refine⟨tgR_nm (pg_name hN (by rw[ok.hN];exact slotAt_ok hi) l1 l2) h1 (by rw[assignEach_cons rfl];rfl),by rw[assignEach_cons rfl,List.length_cons,List.length_cons,h2],?_⟩
   rw[assignEach_cons rfl,List.findIdx?_cons,h3] <;> rfl
  ·rename_i o f p
   split at ht
   ·rename_i y py
    obtain⟨hc,ht⟩:=whenO_some ht
    obtain⟨hd,hv⟩:=and3 hc
    obtain⟨hd1,hd2⟩:=and3 hd
    obtain⟨i,hi,ht⟩:=bindO ht
    cases ht
    have hd1:(y == ("__debug__":Str))=false:=by simpa using hd1
    have hd2:(y == ("__classdict__":Str))=false:=by simpa using hd2
    refine⟨tgR_fld (fun c hc=>ok.at_ f c hc) (se_var (by rw[ok.hN];exact slotAt_ok hi) (by rw[ok.hsc];exact vis_ok hv) hd1 hd2) h1 (by rw[assignEach_cons rfl];rfl),by rw[assignEach_cons rfl,List.length_cons,List.length_cons,h2],?_⟩
    rw[assignEach_cons rfl,List.findIdx?_cons,h3] <;> rfl
   ·cases ht
  ·cases ht
theorem asg_ok (ok:OkS X C cf k W) {n:Nat} {t:Expr} (h:trAsg C mb n t e=some s'):SS X W (.Assign [t] e pos) (exe cf s'):=by
 have hN:X.N.Nodup:=by rw[ok.hN];exact ok.nd
 have at_:∀{i:Nat} {x:Str},slotAt C.N x=some i→X.N[i]?=some x:=fun h=>by rw[ok.hN];exact slotAt_ok h
 have ee:∀{g:G} {e':E},exe cf (.asg g e')=fun ρ st=>andS ρ (den cf e' ρ st) fun d st=>match g.set d ρ with
  |some ρ'=>.ok (.nx ρ') st
  |none=>.no:=fun {g e'}=>by funext ρ st;rw[exe] <;> rfl
 cases t with
|Name x px=>
  replace h:trAsgN C mb n x px e=some s':=h
  unfold trAsgN at h
  obtain⟨hl,h⟩:=whenO_some h
  obtain⟨i,hi,h⟩:=bindO h
  obtain⟨l1,l2⟩:=ok.loc hl
  by_cases hc:noComp e=true
  ·rw[if_pos hc] at h
   by_cases hm:mb x=true
   ·rw[if_pos hm] at h
    obtain⟨y,hy,h⟩:=bindO h
    cases h
    rw[ee]
    exact ss_set hN (at_ hi) l1 l2 (noComp_sw hc) (trBx_ok ok.toOk hy)
   ·rw[if_neg hm] at h
    obtain⟨y,hy,h⟩:=bindO h
    cases h
    rw[ee]
    exact ss_set hN (at_ hi) l1 l2 (noComp_sw hc) (trE_ok n ok.toOk e y hy).1.any
  ·rw[if_neg hc] at h
   by_cases hcc:lcCell C x e=true
   ·rw[if_pos hcc] at h
    have hsw:swapsWith e (some (.Name x px)) pos.line X.env=pure false:=by
     cases e with
    |ListComp elt gens scope p=>
      have hk:C.sc.names.lookup x=some .cell:=beq_iff_eq.mp hcc
      rw[←ok.hsc] at hk
      show (pure (X.env.blockKind == .function&&X.env.kindOf x == some .local&&px.line == p.line && !(scope.names.any fun (n,k)=>n == x&&(k == .local||k == .cell))):Sem Bool)=pure false
      have:X.env.kindOf x=some .cell:=hk
      rw[this,show ((some NameKind.cell:Option NameKind) == some .local)=false from rfl,Bool.and_false,Bool.false_and,Bool.false_and]
    |_=>exact nomatch hcc
    by_cases hm:mb x=true
    ·rw[if_pos hm] at h
     obtain⟨y,hy,h⟩:=bindO h
     cases h
     rw[ee]
     exact ss_set hN (at_ hi) l1 l2 hsw (trBx_ok ok.toOk hy)
    ·rw[if_neg hm] at h
     obtain⟨y,hy,h⟩:=bindO h
     cases h
     rw[ee]
     exact ss_set hN (at_ hi) l1 l2 hsw (trE_ok n ok.toOk e y hy).1.any
   rw[if_neg hcc] at h
   obtain⟨hs,h⟩:=whenO_some h
   obtain⟨y,hy,h⟩:=bindO h
   cases h
   rw[ee]
   cases e with
  |ListComp elt gens scope p=>
    obtain⟨hs1,ha⟩:=and3 (show ((C.sc.names.lookup x == some .local)&&(px.line == p.line) && !(scope.names.any fun (n,k)=>n == x&&(k == .local||k == .cell)))=true from hs)
    obtain⟨hlo,hline⟩:=and3 hs1
    have hlo:X.env.scope.names.lookup x=some .local:=by rw[ok.hsc];exact beq_iff_eq.mp hlo
    cases n with
   |zero=>cases hy
   |succ n=>
     rw[trE] at hy
     obtain⟨tE,q1,q2⟩:=lc_ok (pos:=p) ok.toOk hy
     have q3:=q2 x px i pos (at_ hi) hlo (sw_true (by rw[ok.hsc];exact ok.kind) hlo hline (by simpa using ha))
     by_cases hm:mb x=true
     ·rw[if_pos hm]
      rw[den_box]
      exact ss_asgB q3 q1
     ·rw[if_neg hm]
      exact ss_asgV q3 q1
  |_=>exact nomatch hs
|Attribute o f p1=>
  replace h:trSetA C mb n o f e=some s':=h
  unfold trSetA at h
  obtain⟨o',ho,h⟩:=bindO h
  obtain⟨y,hy,h⟩:=bindO h
  cases h
  rw[show exe cf (.setA (C.g.at_ f) o' f y)=fun ρ st=>andS ρ (den cf y ρ st) fun v st=>andS ρ (den cf o' ρ st) fun x st=>andS ρ (putA (C.g.at_ f) x f v st) fun _ st=>.ok (.nx ρ) st by funext ρ st;rw[exe]]
  have he:SE X W e (den cf y) false:=by
   by_cases hm:mb ((".":Str)++f)=true
   ·rw[if_pos hm] at hy;exact trBx_ok ok.toOk hy
   ·rw[if_neg hm] at hy;exact (trE_ok n ok.toOk e y hy).1.any
  refine ss_setA (fun c hc=>ok.at_ f c hc) ?_ he (trE_ok n ok.toOk o o' ho).1.any
  cases e <;> rfl
|Tuple ts kt pt=>
  replace h:(if ts.any isFld=true then trAsgM C n ts e else trAsgT C mb n ts (.Tuple ts kt pt) e)=some s':=h
  by_cases hfl:ts.any isFld=true
  ·rw[if_pos hfl] at h
   unfold trAsgM at h
   obtain⟨hc,h⟩:=whenO_some h
   obtain⟨ht,hc⟩:=and3 hc
   obtain⟨gs,hg,h⟩:=bindO h
   obtain⟨y,hy,h⟩:=bindO h
   cases h
   obtain⟨g1,g2,g3⟩:=trTgs_ok ok ts gs hg
   rw[show exe cf (.asgM gs y)=fun ρ st=>andS ρ (den cf y ρ st) fun d st=>match d with
   |.tup ds=>tgSet gs ds ρ st
   |_=>.no by funext ρ st;rw[exe] <;> rfl]
   refine ss_asgM ok.calm g1 (trE_ok n ok.toOk e y hy).1.any g2 g3 (by unfold swapsWithSole;exact noComp_sw hc) ?_ rfl
   cases e <;> first|rfl|exact nomatch ht
  rw[if_neg hfl] at h
  unfold trAsgT at h
  split at h
  ·rename_i x y hp
   obtain⟨q1,q2,q3,rfl⟩:=isRest_some hp
   unfold trRest at h
   obtain⟨hc,h⟩:=whenO_some h
   obtain⟨hc,c4⟩:=and3 hc
   obtain⟨hc,c3⟩:=and3 hc
   obtain⟨c1,c2⟩:=and3 hc
   obtain⟨i,hi,h⟩:=bindO h
   obtain⟨j,hj,h⟩:=bindO h
   obtain⟨y',hy,h⟩:=bindO h
   cases h
   obtain⟨l1,l2⟩:=ok.loc c1
   obtain⟨m1,m2⟩:=ok.loc c2
   rw[show exe cf (.rest i j y')=fun ρ st=>andS ρ (den cf y' ρ st) fun d st=>match d with
   |.tup (x::xs)=>.ok (.nx ((ρ.set i (some x)).set j (some (.lst xs)))) st
   |_=>.no by funext ρ st;rw[exe] <;> rfl]
   refine ss_rest ok.calm hN (at_ hi) (at_ hj) l1 l2 m1 m2 (trE_ok n ok.toOk e y' hy).1.any (by unfold swapsWithSole;exact noComp_sw c4) ?_
   cases e <;> first|rfl|exact nomatch c3
  split at h
  ·rename_i x px y py a b hp
   obtain⟨rfl,k2,pt2,rfl⟩:=isPar_some hp
   by_cases hpo:parOk C x px y py a b=true
   case neg=>rw[if_neg hpo] at h;exact asgV_ok ok h
   rw[if_pos hpo] at h
   unfold trPar at h
   obtain⟨hc,h⟩:=whenO_some h
   obtain⟨hc,c8⟩:=and3 hc
   obtain⟨hc,c7⟩:=and3 hc
   obtain⟨hc,c6⟩:=and3 hc
   obtain⟨hc,c5⟩:=and3 hc
   obtain⟨hc,c4⟩:=and3 hc
   obtain⟨hc,c3⟩:=and3 hc
   obtain⟨c1,c2⟩:=and3 hc
   obtain⟨i,hi,h⟩:=bindO h
   obtain⟨j,hj,h⟩:=bindO h
   obtain⟨a',ha,h⟩:=bindO h
   obtain⟨b',hb,h⟩:=bindO h
   cases h
   have hxy:x≠y:=by simpa using c1
   have lx:X.env.scope.names.lookup x=some .local:=by rw[ok.hsc];exact beq_iff_eq.mp c2
   have ly:X.env.scope.names.lookup y=some .local:=by rw[ok.hsc];exact beq_iff_eq.mp c3
   rw[show exe cf (.par i j a' b')=fun ρ st=>andS ρ (den cf a' ρ st) fun u st=>andS ρ (den cf b' ρ st) fun v st=>.ok (.nx ((ρ.set i (some u)).set j (some v))) st by funext ρ st;rw[exe]]
   refine ss_par ok.calm hN (at_ hi) (at_ hj) ?_ lx ly c5 c6 (trBn_ok ok.toOk ha) (trBn_ok ok.toOk hb) (swapped_par (by rw[ok.hsc];exact ok.kind) lx ly hxy c4 c5 c6 (by simpa only [Bool.not_eq_true'] using c7) (by simpa only [Bool.not_eq_true'] using c8)) rfl
   rintro rfl
   have z:=at_ hi
   rw[at_ hj] at z
   exact hxy (Option.some.inj z).symm
  split at h
  ·rename_i x px y py z pz a b c hp
   obtain⟨rfl,k2,pt2,rfl⟩:=isPar3_some hp
   by_cases hpo:par3Ok C x px y py z pz a b c=true
   case neg=>rw[if_neg hpo] at h;exact asgV_ok ok h
   rw[if_pos hpo] at h
   unfold trPar3 at h
   obtain⟨hc,h⟩:=whenO_some h
   obtain⟨hc,c13⟩:=and3 hc
   obtain⟨hc,c12⟩:=and3 hc
   obtain⟨hc,c11⟩:=and3 hc
   obtain⟨hc,c10⟩:=and3 hc
   obtain⟨hc,c9⟩:=and3 hc
   obtain⟨hc,c8⟩:=and3 hc
   obtain⟨hc,c7⟩:=and3 hc
   obtain⟨hc,c6⟩:=and3 hc
   obtain⟨hc,c5⟩:=and3 hc
   obtain⟨hc,c4⟩:=and3 hc
   obtain⟨hc,c3⟩:=and3 hc
   obtain⟨c1,c2⟩:=and3 hc
   obtain⟨i,hi,h⟩:=bindO h
   obtain⟨j,hj,h⟩:=bindO h
   obtain⟨l,hl,h⟩:=bindO h
   obtain⟨a',ha,h⟩:=bindO h
   obtain⟨b',hb,h⟩:=bindO h
   obtain⟨c',hc',h⟩:=bindO h
   cases h
   have hxy:x≠y:=by simpa using c1
   have hxz:x≠z:=by simpa using c2
   have hyz:y≠z:=by simpa using c3
   have lx:X.env.scope.names.lookup x=some .local:=by rw[ok.hsc];exact beq_iff_eq.mp c4
   have ly:X.env.scope.names.lookup y=some .local:=by rw[ok.hsc];exact beq_iff_eq.mp c5
   have lz:X.env.scope.names.lookup z=some .local:=by rw[ok.hsc];exact beq_iff_eq.mp c6
   rw[show exe cf (.par3 i j l a' b' c')=fun ρ st=>andS ρ (den cf a' ρ st) fun u st=>andS ρ (den cf b' ρ st) fun v st=>andS ρ (den cf c' ρ st) fun w st=>.ok (.nx (((ρ.set i (some u)).set j (some v)).set l (some w))) st by funext ρ st;rw[exe]]
   refine ss_par3 ok.calm hN (at_ hi) (at_ hj) (at_ hl) ?_ ?_ ?_ lx ly lz c9 c10 c11 (trBn_ok ok.toOk ha) (trBn_ok ok.toOk hb) (trBn_ok ok.toOk hc') (swapped_par3 (by rw[ok.hsc];exact ok.kind) lx ly lz hxy hxz hyz c7 c8 c9 c10 c11 (by simpa only [Bool.not_eq_true'] using c12) (by simpa only [Bool.not_eq_true'] using c13)) rfl
   ·rintro rfl
    have w:=at_ hi
    rw[at_ hj] at w
    exact hxy (Option.some.inj w).symm
   ·rintro rfl
    have w:=at_ hi
    rw[at_ hl] at w
    exact hxz (Option.some.inj w).symm
   ·rintro rfl
    have w:=at_ hj
    rw[at_ hl] at w
    exact hyz (Option.some.inj w).symm
  ·split at h
   ·rename_i vs hv
    unfold tupOf at hv
    split at hv
    ·cases hv;exact asgV_ok ok h
    ·cases hv
   obtain⟨ht,h⟩:=whenO_some h
   obtain⟨g,hg,h⟩:=bindO h
   obtain⟨y,hy,h⟩:=bindO h
   cases h
   rw[ee]
   refine ss_tg (trG_ok n ok.toOk _ g hg) (trE_ok n ok.toOk e y hy).1.any (by unfold swapsWithSole;exact tup_sw) ?_ rfl
   cases e <;> first|rfl|exact nomatch ht
|Subscript o i p1=>
  replace h:trPut C n o i e=some s':=h
  unfold trPut at h
  obtain⟨hc,h⟩:=whenO_some h
  obtain⟨hc,hs⟩:=and3 hc
  obtain⟨e1,h1,h⟩:=bindO h
  obtain⟨e2,h2,h⟩:=bindO h
  obtain⟨e3,h3,h⟩:=bindO h
  cases h
  by_cases cd:dnm C o=true
  ·rw[if_pos cd]
   rw[show exe cf (.dput e2 e3 e1)=fun ρ st=>andS ρ (den cf e1 ρ st) fun v st=>andS ρ (den cf e2 ρ st) fun o st=>andS ρ (den cf e3 ρ st) fun i st=>andS ρ (dputM o i v st) fun _ st=>.ok (.nx ρ) st by funext ρ st;rw[exe]]
   exact ss_dput (by have:=ok.toOk.units;omega) (noComp_sw hc) (trE_ok n ok.toOk _ _ h1).1.any (trE_ok n ok.toOk _ _ h2).1.any (trE_ok n ok.toOk _ _ h3).1.any
  ·rw[if_neg cd]
   rw[show exe cf (.put e2 e3 e1)=fun ρ st=>andS ρ (den cf e1 ρ st) fun v st=>andS ρ (den cf e2 ρ st) fun o st=>andS ρ (den cf e3 ρ st) fun i st=>andS ρ (setIx o i v st) fun _ st=>.ok (.nx ρ) st by funext ρ st;rw[exe]]
   refine ss_put (fun v => ?_) (by unfold swapsWithSole;exact noComp_sw hc) rfl (trE_ok n ok.toOk _ _ h1).1.any (trE_ok n ok.toOk _ _ h2).1.any (trE_ok n ok.toOk _ _ h3).1.any
   cases i <;> first|rfl|exact nomatch hs
|_=>cases h
end
theorem wr_ok {cf:Cf} {k:Nat} {X:Cx} {C:TC} {W:WX} (ok:OkS X C cf k W) {tg it:Expr} {a:List Stmt} {pos:Pos} {w:WrP} {s':S} (hw:isWr tg it a=some w) (h:trWr C w=some s'):SS X W (.For tg it a [] pos) (exe cf s'):=by
 obtain⟨rfl,rfl,rfl⟩:=isWr_ok hw
 unfold trWr at h
 obtain⟨hc,h⟩:=whenO_some h
 obtain⟨hc,c9⟩:=and3 hc
 obtain⟨hc,c8⟩:=and3 hc
 obtain⟨hc,c7⟩:=and3 hc
 obtain⟨hc,c6⟩:=and3 hc
 obtain⟨hc,c5⟩:=and3 hc
 obtain⟨hc,c4⟩:=and3 hc
 obtain⟨hc,c3⟩:=and3 hc
 obtain⟨c1,c2⟩:=and3 hc
 obtain⟨ip,hip,h⟩:=bindO h
 obtain⟨il,hil,h⟩:=bindO h
 obtain⟨im,him,h⟩:=bindO h
 obtain⟨n,hn,h⟩:=bindO h
 cases h
 have hN:X.N.Nodup:=by rw[ok.hN];exact ok.nd
 have at_:∀{i:Nat} {x:Str},slotAt C.N x=some i→X.N[i]?=some x:=fun h=>by rw[ok.hN];exact slotAt_ok h
 have dd:∀{x:Str},dbg x=true→(x == ("__debug__":Str))=false∧(x == ("__classdict__":Str))=false:=fun h=>by
  obtain⟨a,b⟩:=and3 h
  exact⟨by simpa using a,by simpa using b⟩
 have vv:∀{x:Str},vis C.sc x=true→Vis X.env.scope x:=fun h=>by rw[ok.hsc];exact vis_ok h
 obtain⟨l1,l2⟩:=ok.loc c2
 have hcE:PE X w.c (tC (.int n)):=by
  unfold cInt at hn
  split at hn
  ·rename_i ec
   rw[ec]
   cases hn
   exact pe_int
  ·rename_i ec
   rw[ec]
   obtain⟨g,hn⟩:=whenO_some hn
   obtain⟨g,g3⟩:=and3 g
   obtain⟨g1,g2⟩:=and3 g
   split at hn
   ·rename_i m hd
    cases hn
    obtain⟨u,v,e1,e2,e3⟩:=ok.con _ _ hd
    cases e3 [] (fun _=>none)
    exact pe_glob (ok.gl g3) e1 e2 (dd g1).1
   ·cases hn
  ·cases hn
 rw[show exe cf (.wear ip il im n)=wearX ip il im n by funext ρ st;rw[exe]]
 exact ss_wear ok.pa ok.calm (by have:=ok.toOk.units;omega) hN (at_ hip) (at_ hil) (at_ him) (vv c3) (vv c4) (vv c5) (dd c6) (dd c7) (dd c8) l1 l2 hcE (by unfold swapsWithSole;exact noComp_sw c9) (fun x=>fold_of rfl x)
theorem trS_ok {cf:Cf} {k:Nat} {mb:Str→Bool}:∀(n:Nat) {X:Cx} {C:TC} {W:WX} (ok:OkS X C cf k W) (s:Stmt),SS X W s (exe cf (trS C mb n s))
|0,X,C,W,ok,s=>by
  rw[show exe cf (trS C mb 0 s)=fun _ _=>.no by funext ρ st;rw[trS,exe]]
  exact ss_no
|n+1,X,C,W,ok,s=>by
  have never:∀{s:Stmt},SS X W s (exe cf .never):=fun {s}=>by
   rw[show exe cf .never=fun _ _=>.no by funext ρ st;rw[exe]]
   exact ss_no
  have ne:∀{o:Option S} {s:Stmt},(∀s',o=some s'→SS X W s (exe cf s'))→SS X W s (exe cf (orNever o)):=fun {o s} h=>by
   cases o with
  |none=>exact never
  |some s'=>exact h s' rfl
  have hN:X.N.Nodup:=by rw[ok.hN];exact ok.nd
  have ih:∀ss:List Stmt,SSs X W ss (exes cf (ss.map (trS C mb n))):=fun ss=>by
   induction ss with
  |nil=>
    rw[show exes cf (([]:List Stmt).map (trS C mb n))=fun ρ st=>.ok (.nx ρ) st by funext ρ st;rw[List.map_nil,exes]]
    exact sss_nil
  |cons s ss ih2=>
    rw[show exes cf ((s::ss).map (trS C mb n))=fun ρ st=>andC (exe cf (trS C mb n s) ρ st) fun ρ st=>exes cf (ss.map (trS C mb n)) ρ st by funext ρ st;rw[List.map_cons,exes]]
    exact sss_cons (trS_ok n ok s) ih2
  unfold trS
  split
  ·rw[show exe cf .pass=fun ρ st=>.ok (.nx ρ) st by funext ρ st;rw[exe]];exact ss_pass
  ·rw[show exe cf .brk=fun ρ st=>.ok (.bk ρ) st by funext ρ st;rw[exe]];exact ss_brk
  ·rw[show exe cf .cnt=fun ρ st=>.ok (.ct ρ) st by funext ρ st;rw[exe]];exact ss_cnt
  ·rw[show exe cf .retN=fun _ st=>.ok (.rt .non) st by funext ρ st;rw[exe]];exact ss_retN
  ·refine ne fun s' h => ?_
   obtain⟨y,hy,h⟩:=bindO h
   cases h
   rw[show exe cf (.ret y)=fun ρ st=>andS ρ (den cf y ρ st) fun d st=>.ok (.rt d) st by funext ρ st;rw[exe]]
   exact ss_ret (trRt_ok ok.toOk hy)
  ·refine ne fun s' h => ?_
   obtain⟨hc,h⟩:=whenO_some h
   obtain⟨y,hy,h⟩:=bindO h
   cases h
   rw[show exe cf (.exp y)=fun ρ st=>andS ρ (den cf y ρ st) fun _ st=>.ok (.nx ρ) st by funext ρ st;rw[exe]]
   exact ss_exp (noComp_sw hc) (trE_ok 40 ok.toOk _ y hy).1.any
  ·refine ne fun s' h => ?_
   rename_i c a b p
   obtain⟨y,hy,h⟩:=bindO h
   cases h
   rw[show exe cf (.ifs y (a.map (trS C mb n)) (b.map (trS C mb n)))=fun ρ st=>andS ρ (tst cf y ρ st) fun t st=>if t then exes cf (a.map (trS C mb n)) ρ st else exes cf (b.map (trS C mb n)) ρ st by funext ρ st;rw[exe]]
   exact ss_if (trE_ok 40 ok.toOk _ y hy).2 (ih a) (ih b)
  ·refine ne fun s' h => ?_
   rename_i c a p
   obtain⟨y,hy,h⟩:=bindO h
   cases h
   rw[show exe cf (.whl y (a.map (trS C mb n)))=fun ρ st=>whileL (tst cf y) (exes cf (a.map (trS C mb n))) cf.fuel ρ st by funext ρ st;rw[exe]]
   exact ss_while ok.pa (trE_ok 40 ok.toOk _ y hy).2 (ih a)
  ·rename_i tg it a p
   split
   ·rename_i s' h
    obtain⟨w,hw,h⟩:=bindO h
    exact wr_ok ok hw h
   refine ne fun s' h => ?_
   obtain⟨hs,h⟩:=whenO_some h
   obtain⟨g,hg,h⟩:=bindO h
   obtain⟨w,hw,h⟩:=bindO h
   cases h
   rw[show exe cf (.for_ g w.1 w.2 (a.map (trS C mb n)))=fun ρ st=>andS ρ ((M.bind (dens cf w.2 ρ) fun ds=>walk w.1 ds) st) fun w st=>forL w.2 (fun d ρ st=>match g.set d ρ with
   |some ρ'=>exes cf (a.map (trS C mb n)) ρ' st
   |none=>.no) w.1 ρ st by funext ρ st;rw[exe,andS_bind] <;> rfl]
   exact ss_for ok.pa ok.calm (iter_ok ok.toOk (fun e e' h=>trE_ok 40 ok.toOk e e' h) hw) (trG_ok 40 ok.toOk _ g hg) (ih a) (fold_of hs)
  ·exact ne fun s' h=>asg_ok ok h
  ·refine ne fun s' h => ?_
   unfold trAug at h
   split at h
   ·rename_i x px
    obtain⟨hl,h⟩:=whenO_some h
    obtain⟨i,hi,h⟩:=bindO h
    obtain⟨y,hy,h⟩:=bindO h
    cases h
    obtain⟨l1,l2⟩:=ok.loc hl
    rw[show ∀op,exe cf (.aug i op y)=fun ρ st=>match ρ[i]?.join with
    |some x=>andS ρ (den cf y ρ st) fun y st=>andS ρ (augOp op x y st) fun z st=>.ok (.nx (ρ.set i (some z))) st
    |none=>.no from fun op=>by funext ρ st;rw[exe] <;> rfl]
    exact ss_aug hN (by rw[ok.hN];exact slotAt_ok hi) l1 l2 (trE_ok 40 ok.toOk _ y hy).1.any
   ·rename_i o f pf
    obtain⟨o',ho,h⟩:=bindO h
    obtain⟨y,hy,h⟩:=bindO h
    cases h
    rw[show ∀op,exe cf (.augA (C.g.at_ f) o' f op y)=fun ρ st=>andS ρ (den cf o' ρ st) fun x st=>match insOf (C.g.at_ f) x st with
    |some (_,c,fs)=>(match fs.lookup f with
     |some v=>andS ρ (den cf y ρ st) fun y st=>andS ρ (augOp op v y st) fun z st=>andS ρ (putA [c] x f z st) fun _ st=>.ok (.nx ρ) st
     |none=>.no)
    |none=>.no from fun op=>by funext ρ st;rw[exe] <;> rfl]
    exact ss_augA (fun c hc=>ok.at_ f c hc) (trE_ok 40 ok.toOk _ o' ho).1.any (trE_ok 40 ok.toOk _ y hy).1.any
   ·cases h
  ·refine ne fun s' h => ?_
   unfold trRais at h
   obtain⟨c,hm,h⟩:=bindO h
   obtain⟨hc,h⟩:=whenO_some h
   obtain⟨hc,hx⟩:=and3 hc
   obtain⟨hg,hd⟩:=and3 hc
   obtain⟨hd1,hd2⟩:=and3 hd
   have hd1:(c == ("__debug__":Str))=false:=by simpa using hd1
   cases h
   obtain⟨p1,m1,j1,p2,p3,rfl⟩:=isMsg_ok hm
   rw[show exe cf (.rais c)=fun ρ st=>.ex ⟨c,none⟩ ρ st by funext ρ st;rw[exe]]
   exact ss_rais ok.calm ok.tk (ok.exs c hx) (ok.gl hg) hd1
  ·rename_i body hs orelse fin pos
   split at *
   ·rename_i b0 c nm suite hT
    refine ne fun s' h => ?_
    obtain⟨np,pos',pos2,hT⟩:=isTry_ok hT
    cases hT
    obtain⟨q,hq,h⟩:=bindO h
    cases h
    unfold trTry at hq
    obtain⟨hc,hq⟩:=whenO_some hq
    obtain⟨hc,hne⟩:=and3 hc
    obtain⟨hg,hd⟩:=and3 hc
    obtain⟨hd1,hd2⟩:=and3 hd
    have hd1:(c == ("__debug__":Str))=false:=by simpa using hd1
    obtain⟨e,he,hq⟩:=bindO hq
    obtain⟨hd,hh,hq⟩:=bindO hq
    cases hq
    obtain⟨pr,rfl⟩:=isRet_ok he
    have hne:C.g.sub c≠[]:=by
     intro z
     rw[z] at hne
     exact absurd hne (by decide)
    obtain⟨Cc,hmc,hsub⟩:=ok.sub c hne
    rw[show exe cf (.try_ (body.map (trS C mb n)) (C.g.sub c) hd)=fun ρ st=>match exes cf (body.map (trS C mb n)) ρ st with
    |.ex x ρ' st'=>if (C.g.sub c).contains x.cls then hdl hd x ρ' st' else .no
    |r=>r by funext ρ st;rw[exe] <;> rfl]
    have hb:∀(W:WX) (pn:List (Addr×Obj)) (xe:Value→Shared→Prop),Takes (X.tr pn xe) W→PassesOwn (model X.prog X.w) X.A X.env xe→SSs (X.tr pn xe) W body (exes cf (body.map (trS C mb n))):=fun W pn xe tk pa=>by
     have okt:=ok.tr tk pa
     generalize body=ss
     induction ss with
    |nil=>
      rw[show exes cf (([]:List Stmt).map (trS C mb n))=fun ρ st=>.ok (.nx ρ) st by funext ρ st;rw[List.map_nil,exes]]
      exact sss_nil
    |cons s ss ih2=>
      rw[show exes cf ((s::ss).map (trS C mb n))=fun ρ st=>andC (exe cf (trS C mb n s) ρ st) fun ρ st=>exes cf (ss.map (trS C mb n)) ρ st by funext ρ st;rw[List.map_cons,exes]]
      exact sss_cons (trS_ok n okt s) ih2
    have hnm:Names X c (.ref Cc):=⟨ok.gl hg,hd1,.inl hmc⟩
    unfold trHd at hh
    cases hcon:conE e with
   |some d=>
     rw[hcon] at hh
     simp only at hh
     cases nm with
    |none=>
      rw[if_pos rfl] at hh
      cases hh
      exact ss_tryOn ok.stk ok.frm hnm ok.tk hb hsub fun a oe cls d pn hz hf=>con_suite hcon
    |some nn=>
      rw[if_neg (by simp)] at hh
      cases hh
   |none=>
     rw[hcon] at hh
     cases nm with
    |none=>cases hh
    |some nn=>
      simp only at hh
      obtain⟨hc,hh⟩:=whenO_some hh
      obtain⟨hdn,hlo⟩:=and3 hc
      obtain⟨hn1,hn2⟩:=and3 hdn
      have hn1:(nn == ("__debug__":Str))=false:=by simpa using hn1
      have hn2:(nn == ("__classdict__":Str))=false:=by simpa using hn2
      have hlo:X.env.scope.names.lookup nn=some .local:=by rw[ok.hsc];exact beq_iff_eq.mp hlo
      obtain⟨i,hi,hh⟩:=bindO hh
      have hi':X.N[i]?=some nn:=by rw[ok.hN];exact slotAt_ok hi
      cases hw:isWh nn e with
     |some f=>
       rw[hw] at hh
       simp only at hh
       obtain⟨q,hqw,hh⟩:=bindO hh
       obtain⟨hc,hh⟩:=whenO_some hh
       obtain⟨hc,hall⟩:=and3 hc
       obtain⟨hgf,hdf⟩:=and3 hc
       obtain⟨hdf1,hdf2⟩:=and3 hdf
       have hdf1:(f == ("__debug__":Str))=false:=by simpa using hdf1
       cases hh
       obtain⟨p1,q1,pos1,rfl⟩:=isWh_ok hw
       exact ss_tryAs ok.stk ok.frm hN hi' hlo hnm ok.tk hb hsub fun a oe cls d pn hz hf=>wh_suite (ok.wh f q.1 q.2 hqw) (ok.room1.mono (by omega)) hi' (.inl hlo) ⟨hn1,hn2⟩ (ok.gl hgf) hdf1 (fun x hx=>by simpa using List.all_eq_true.mp hall x hx) hz hf
     |none=>
       rw[hw] at hh
       simp only at hh
       cases hw1:isWh1 nn e with
      |some f=>
        rw[hw1] at hh
        simp only at hh
        obtain⟨q,hqw,hh⟩:=bindO hh
        obtain⟨hc,hh⟩:=whenO_some hh
        obtain⟨hc,hall⟩:=and3 hc
        obtain⟨hgf,hdf⟩:=and3 hc
        obtain⟨hdf1,hdf2⟩:=and3 hdf
        have hdf1:(f == ("__debug__":Str))=false:=by simpa using hdf1
        cases hh
        obtain⟨p1,q1,pos1,k1,pk,ps,rfl⟩:=isWh1_ok hw1
        exact ss_tryAs ok.stk ok.frm hN hi' hlo hnm ok.tk hb hsub fun a oe cls d pn hz hf=>wh_suite1 (ok.wh f q.1 q.2 hqw) (ok.room1.mono (by omega)) hi' (.inl hlo) ⟨hn1,hn2⟩ (ok.gl hgf) hdf1 (fun x hx=>by simpa using List.all_eq_true.mp hall x hx) hz hf
      |none=>rw[hw1] at hh;cases hh
   ·exact never
  ·exact never
theorem trSs_ok {cf:Cf} {k:Nat} {mb:Str→Bool} {n:Nat} {X:Cx} {C:TC} {W:WX} (ok:OkS X C cf k W):∀(ss:List Stmt),SSs X W ss (exes cf (ss.map (trS C mb n)))
|[]=>by
  rw[show exes cf (([]:List Stmt).map (trS C mb n))=fun ρ st=>.ok (.nx ρ) st by funext ρ st;rw[List.map_nil,exes]]
  exact sss_nil
|s::ss=>by
  rw[show exes cf ((s::ss).map (trS C mb n))=fun ρ st=>andC (exe cf (trS C mb n s) ρ st) fun ρ st=>exes cf (ss.map (trS C mb n)) ρ st by funext ρ st;rw[List.map_cons,exes]]
  exact sss_cons (trS_ok n ok s) (trSs_ok ok ss)
end Dn
namespace Dn
open PySem L2
theorem swDc {kx vx:Expr} {gs:List Comprehension} {scope:Scope} {pos py:Pos} {y:Str} {l:Nat} {env:PySem.Env} (hk:env.scope.kind=.function) (hy:env.scope.names.lookup y=some .local) (hl:(py.line == pos.line)=true)
  (ha:(scope.names.any fun (n,k)=>n == y&&(k == .local||k == .cell))=false):swapsWith (.DictComp kx vx gs scope pos) (some (.Name y py)) l env=pure true:=by
 have ky:env.kindOf y=some .local:=hy
 have hb:env.blockKind=.function:=by unfold PySem.Env.blockKind;rw[hk];rfl
 unfold swapsWith
 simp only[hb,ky,ha,Expr.pos,hl] <;> rfl
theorem trDf_ok {cf:Cf} {k:Nat} {mb:Str→Bool} {n:Nat} {X:Cx} {C:TC} {W:WX} (ok:OkS X C cf k W) (ss:List Stmt):SSs X W ss (exes cf (trDf C mb n ss)):=by
 unfold trDf
 split
 ·rename_i s h
  obtain⟨u,hu,h⟩:=bindO h
  rw[isUs_ok hu]
  unfold trUsP at h
  obtain⟨hc,h⟩:=whenO_some h
  obtain⟨hc,c11⟩:=and3 hc
  obtain⟨hc,c10⟩:=and3 hc
  obtain⟨hc,c9⟩:=and3 hc
  obtain⟨hc,c8⟩:=and3 hc
  obtain⟨hc,c7⟩:=and3 hc
  obtain⟨hc,c6⟩:=and3 hc
  obtain⟨hc,c5⟩:=and3 hc
  obtain⟨hc,c4⟩:=and3 hc
  obtain⟨hc,c3⟩:=and3 hc
  obtain⟨c1,c2⟩:=and3 hc
  obtain⟨i,hi,h⟩:=bindO h
  obtain⟨j,hj,h⟩:=bindO h
  obtain⟨w,hw,h⟩:=bindO h
  obtain⟨t,ht,h⟩:=bindO h
  obtain⟨hs,h⟩:=whenO_some h
  obtain⟨s1,s2⟩:=and3 hs
  obtain⟨e,he,h⟩:=bindO h
  cases h
  have hN:X.N.Nodup:=by rw[ok.hN];exact ok.nd
  have at_:∀{i:Nat} {x:Str},slotAt C.N x=some i→X.N[i]?=some x:=fun h=>by rw[ok.hN];exact slotAt_ok h
  have dd:∀{x:Str},dbg x=true→(x == ("__debug__":Str))=false∧(x == ("__classdict__":Str))=false:=fun h=>by
   obtain⟨a,b⟩:=and3 h
   exact⟨by simpa using a,by simpa using b⟩
  have yl:X.env.scope.names.lookup u.y=some .local:=by rw[ok.hsc];exact beq_iff_eq.mp c1
  have b1:=blkOk_by c7
  have b2:=blkOk_by c8
  have k1:=ok.toOk.blk (scope:=u.scope) b1.kind
  have k2:=ok.toOk.blk (scope:=u.scope2) b2.kind
  have un:=ok.toOk.units
  have hg:trG (C.blk u.scope2) 1 (.Name u.z u.p2)=some (.nm j):=by
   rw[trG]
   unfold whenO
   rw[if_pos c10]
   show (slotAt C.N u.z).bind _=_
   rw[hj] <;> rfl
  rw[show exes cf [.usx i j ((ownOf C.N u.scope).map (·.2)) t w.1 w.2 e]=fun ρ st=>if (decide (i<ρ.length)&&decide (j<ρ.length))=true then (andS ρ ((M.bind (dens cf w.2 ρ) fun ds=>walk w.1 ds) st) fun wl st=>andS ρ (keyL wl.2 (usTurn (den cf e) t ((ownOf C.N u.scope).map (·.2)) ρ) wl.1 [] st) fun ks st=>.ok (.rt (.lst (usRes ks))) st) else .no by
   funext ρ st
   have hx:∀r:RS,(∀ρ' st',r≠.ok (.nx ρ') st')→andC r (fun ρ st=>exes cf [] ρ st)=r:=fun r hr=>by
    cases r with
   |ok c st'=>cases c <;> first|rfl|exact absurd rfl (hr _ _)
   |_=>rfl
   rw[exes,exe]
   by_cases c:(decide (i<ρ.length)&&decide (j<ρ.length))=true
   ·rw[if_pos c,if_pos c,andS_bind]
    refine hx _ fun ρ' st' z => ?_
    revert z
    cases dens cf w.2 ρ st with
   |ok ds st1=>
     show andS ρ (walk w.1 ds st1) _=_→False
     cases walk w.1 ds st1 with
    |ok wl st2=>
      show andS ρ (keyL wl.2 _ wl.1 [] st2) _=_→False
      cases keyL wl.2 (fun d=>M.bind (orNo (t.set d (Dn.wipe ρ ((ownOf C.N u.scope).map (·.2))))) fun ρ'=>den cf e ρ') wl.1 [] st2 with
     |ok ks st3=>exact fun z=>nomatch z
     |ex x s=>exact fun z=>nomatch z
     |no=>exact fun z=>nomatch z
    |ex x s=>exact fun z=>nomatch z
    |no=>exact fun z=>nomatch z
   |ex x s=>exact fun z=>nomatch z
   |no=>exact fun z=>nomatch z
   ·rw[if_neg c,if_neg c] <;> rfl]
  exact sss_usx ok.calm (by omega) hN (at_ hi) yl (dd c2) (swDc (by rw[ok.hsc];exact ok.kind) yl c4 (by simpa using c5)) (iter_ok ok.toOk (fun e e' h=>trE_ok 40 ok.toOk e e' h) hw) (by rw[ok.hN,ok.hsc];exact b1)
   (fun s H Cc cl fp=>trG_ok 40 (k1 s H Cc cl fp) u.tg t ht) (fun s H Cc cl fp=>(trE_ok 40 (k1 s H Cc cl fp) u.kx e he).1.any) (fold_of c6) (all_mem s1) (ok.gl c9) (ok.blt "sorted" (by decide)) (own2:=ownOf C.N u.scope2) (by rw[ok.hN,ok.hsc];exact b2) (by simpa using s2)
   (fun s H Cc cl fp=>by have q:=trG_ok 1 (k2 s H Cc cl fp) _ _ hg;rwa [G.tg] at q)
   (fun p s H Cc cl fp=>pe_var (at_ hj) (by rw[(k2 s H Cc cl fp).hsc];exact vis_ok c11) (dd c3).1 (dd c3).2)
 ·exact trSs_ok ok ss
end Dn
namespace Dn
open PySem L2
structure Df where
 x:Str
 nm:Str
 st:Stmt
 N:List Str
 ps:List Str
 mb:Str→Bool
structure Pg where
 con:Str→Option D
 fns:Str→Option Nat
 dfl:Str→List D
 g:Gx
 defs:List Df
 kw:Str→Option (Nat×List Str):=fun _=>none
 kd:Str→Option (Nat×List D):=fun _=>none
def Pg.tc (p:Pg) (d:Df):TC:=⟨d.N,defScope d.st,fun _=>true,p.con,p.fns,p.dfl,p.g,fun x=>d.mb (("{}":Str)++x),p.kw,p.kd⟩
def Pg.fn (p:Pg) (d:Df):Fn:=⟨d.ps.length,d.N.length,trDf (p.tc d) d.mb 30 (defBody d.st)⟩
def At (K:PySem.W.Frag) (d:Df) (f:Addr) (fd:FuncData):Prop:=∃dvs kws,FunD K d.nm d.x (defArgs d.st) (defBody d.st) (defScope d.st) dvs kws f fd
structure Lk (K:PySem.W.Frag) (mg:Str→Option Value) (p:Pg) (pr:Pr):Prop where
 blt:∀x∈bltNames,mg x=none
 con:∀x d,p.con x=some d→∃u v,mg x=some u∧RelV v u∧∀m H,VR K m H d v
 fnd:∀x np,p.fns x=some np→∃d∈p.defs,d.x=x∧d.ps.length=np∧∃fa fd,At K d fa fd∧PySem.W.keepIn K (.ref fa)=true∧mg x=some (.ref fa)∧Binds K fd d.ps []∧∀j,j<(p.dfl x).length→∃ds vs,Vals vs ds∧(∀m H,VRs K m H ((p.dfl x).drop j) vs)∧Binds K fd d.ps ds
 fn:∀d∈p.defs,pr.fns d.x=some (p.fn d)∧FnScope d.N d.ps (defScope d.st)
 at_:∀f c,c∈p.g.at_ f→∀C,PySem.W.nsIn K mainGlobals c=some (some (.ref C))→Cls K C∧NoAttr K C f
 cn:∀c g np,p.g.cn c=some (g,np)→∃d∈p.defs,d.x=g∧d.ps.length=np∧∃C fa fd,At K d fa fd∧PySem.W.nsIn K mainGlobals c=some (some (.ref C))∧mg c=some (.ref C)∧Mk K C fa∧Binds K fd d.ps []
 mt:∀m c g,(c,g)∈p.g.mt m→∃d∈p.defs,d.x=g∧d.ps.length=p.g.mn g∧∃C fa fd,At K d fa fd∧PySem.W.nsIn K mainGlobals c=some (some (.ref C))∧Cls K C∧Meth K C m fa∧Binds K fd d.ps []
 exs:∀c,p.g.exs c=true→∃C,PySem.W.nsIn K mainGlobals c=some (some (.ref C))∧mg c=some (.ref C)∧PySem.W.excIn K C [.type "ValueError",.type "Exception",.type "BaseException",.type "object"] "ValueError.__new__"=true∧PySem.W.keepIn K (.ref C)=true ∧
  PySem.W.subIn K (.ref C) (.type "BaseException")=some true∧PySem.W.typeIn K (.ref C)=some (.type "type")
 sub:∀c,p.g.sub c≠[]→∃Cc,mg c=some (.ref Cc)∧∀x∈p.g.sub c,∀Cx,PySem.W.nsIn K mainGlobals x=some (some (.ref Cx))→PySem.W.exmOne K (.ref Cx) (.ref Cc)=some true
 wh:∀f names exs,p.g.wh f=some (names,exs)→WF K mg names exs∧∃(d:Df) (ev ow:Str) (fa:Addr) (fd:FuncData),At K d fa fd∧mg f=some (.ref fa)∧PySem.W.keepIn K (.ref fa)=true∧Binds K fd [ev] []∧FnScope [ev,ow] [ev] (defScope d.st)∧whBody (defScope d.st) ev ow (defBody d.st)=some names∧names.length≤1000 ∧
  (defScope d.st).names.lookup ow=some .local∧(defScope d.st).names.lookup ev=some .local∧((ev == ("__debug__":Str))=false∧(ev == ("__classdict__":Str))=false)∧((ow == ("__debug__":Str))=false∧(ow == ("__classdict__":Str))=false)
 kw:∀x n ps,p.kw x=some (n,ps)→∃d∈p.defs,d.x=x∧d.ps=ps∧∃fa fd gg,At K d fa fd∧PySem.W.keepIn K (.ref fa)=true∧mg x=some (.ref fa)∧KBn K fd ps n (ps.drop n) gg (fun vs zs=>vs++zs)
 kd:∀x n ds,p.kd x=some (n,ds)→∃d∈p.defs,d.x=x∧d.ps.length=n+ds.length∧∃fa fd,At K d fa fd∧PySem.W.keepIn K (.ref fa)=true∧mg x=some (.ref fa)∧∃us vs,Vals vs us∧(∀m H,VRs K m H ds vs)∧Binds K fd d.ps us
theorem ER.start {K:PySem.W.Frag} {m:List Addr} {H:Hp} {N:List Str} {ds:List D} {vs:List V} (r:VRs K m H ds vs):ER K m H (ds.map some++List.replicate (N.length - ds.length) none) (L2.start N vs):=by
 have hl:=r.length
 refine⟨?_,fun i d h => ?_⟩
 ·unfold L2.start
  simp only[List.length_append,List.length_map,List.length_replicate,hl]
 ·have hi:i<ds.length:=by
   by_cases hi:i<ds.length
   ·exact hi
   ·rw[List.getElem?_append_right (by simpa using hi),List.getElem?_replicate] at h
    split at h <;> cases h
  rw[List.getElem?_append_left (by simpa using hi),List.getElem?_map] at h
  cases q:ds[i]? with
 |none=>rw[q] at h;cases h
 |some d'=>
   rw[q] at h
   cases h
   obtain⟨v,e,rv⟩:=r.get q
   refine⟨v,?_,rv⟩
   unfold L2.start
   rw[List.getElem?_append_left (by rw[List.length_map,←hl];exact hi),List.getElem?_map,e] <;> rfl
def ofRS:RS→R D
|.ok (.rt d) st'=>.ok d st'
|.ok (.nx _) st'=>.ok .non st'
|.ok _ _=>.no
|.ex x _ st'=>.ex x st'
|.no=>.no
theorem runFn_eq {X:Cf} {f:Fn} {args:List D} {st:Sto} (h:args.length=f.np):runFn X f args st=ofRS (exes X f.body (args.map some++List.replicate (f.n - args.length) none) st):=by
 unfold runFn
 rw[if_pos h] <;> rfl
section
variable {P:Program} {w:World} {K:PySem.W.Frag} {mg:Str→Option Value} {base:Heap} {p:Pg} {pr:Pr}
theorem fns_ok (L:Lk K mg p pr):∀(k:Nat) (d:Df),d∈p.defs→∀fa fd,At K d fa fd→FnOk P w K mg base (L2.CX P w) (2*k) fa fd d.ps (spF K d.ps.length (pr.fn k d.x))
|0,d,hd,fa,fd,F=>by
  have z:∀vs H Q E,¬spF K d.ps.length (pr.fn 0 d.x) vs H Q E:=fun vs H Q E ⟨ds,m,st,_,_,_,q⟩=>by
   rw[Pr.fn] at q
   exact q
  exact⟨fun vs H Q E h=>(z _ _ _ _ h).elim,fun A outer s H args us vs Q E _ _ _ _ h=>(z _ _ _ _ h).elim⟩
|k+1,d,hd,fa,fd,⟨dvs,kws,F⟩=>by
  obtain⟨h1,sc⟩:=L.fn d hd
  refine F.ok (k:=2*k+1) sc (fun vs H Q E ⟨ds,m,st,hl,rl,r,q⟩=>by rw[←r.length,hl]) fun cdv A outer s H vs Q E hr ⟨ds,m,st,hl,rl,r,q⟩ => ?_
  have ok:OkS (cxOf (L2.CX P w) P w K mg base d.N d.x (defScope d.st) fa cdv A outer s H E) (p.tc d) ⟨pr.fn k,pr.fuel⟩ (2*k) (fun c d _ H=>E c d H):=
   {hN:=rfl,nd:=sc.nd,hsc:=rfl,kind:=sc.kind,fn_:=fun x=>rfl,calm:=rfl,room1:=hr,tk:=takes_of rfl rfl rfl rfl,blt:=L.blt,con:=L.con,
    fns:=fun x np h=>by
     obtain⟨d',hd',rfl,hn,fa',fd',F',kp',g',b',_⟩:=L.fnd x np h
     have q:=fns_ok L k d' hd' fa' fd' F'
     rw[hn] at q
     exact⟨fa',fd',d'.ps,hn,g',kp',b',q⟩
    dfl:=fun x np j h hj=>by
     obtain⟨d',hd',rfl,hn,fa',fd',F',kp',g',_,b'⟩:=L.fnd x np h
     obtain⟨ds',vs',hv',hr',hb'⟩:=b' j hj
     have q:=fns_ok L k d' hd' fa' fd' F'
     rw[hn] at q
     exact⟨fa',fd',d'.ps,ds',vs',hn,g',kp',hb',hv',hr',q⟩
    at_:=L.at_
    cn:=fun c g np h=>by
     obtain⟨d',hd',rfl,hn,C',fa',fd',F',n',g',m',b'⟩:=L.cn c g np h
     have q:=fns_ok L k d' hd' fa' fd' F'
     rw[hn] at q
     exact⟨C',fa',fd',d'.ps,n',g',hn,m',b',q⟩
    mt:=fun m c g h=>by
     obtain⟨d',hd',rfl,hn,C',fa',fd',F',n',c',m',b'⟩:=L.mt m c g h
     have q:=fns_ok L k d' hd' fa' fd' F'
     rw[hn] at q
     exact⟨C',fa',fd',d'.ps,n',c',m',hn,b',q⟩
    kw:=fun x n ps h=>by
     obtain⟨d',hd',rfl,rfl,fa',fd',gg',F',kp',g',b'⟩:=L.kw x n ps h
     exact⟨fa',fd',gg',g',kp',b',fns_ok L k d' hd' fa' fd' F'⟩
    kd:=fun x n ds h=>by
     obtain⟨d',hd',rfl,hn,fa',fd',F',kp',g',ds',vs',hv',hr',hb'⟩:=L.kd x n ds h
     have q:=fns_ok L k d' hd' fa' fd' F'
     rw[hn] at q
     exact⟨fa',fd',d'.ps,ds',vs',hn,g',kp',hb',hv',hr',q⟩
    pa:=passes_of rfl
    stk:=rfl
    frm:=rfl
    exs:=L.exs
    sub:=L.sub
    wh:=fun f names exs h=>by
     obtain⟨wf,d',ev,ow,fa',fd',⟨dvs',kws',F'⟩,g',kp',b',s',w1,w2,w3,w4,w5,w6⟩:=L.wh f names exs h
     exact⟨fa',fd',[ev],g',kp',b',fn_ofP F' s' w1 w2 w3 w4 w5 w6 wf⟩}
  refine⟨_,trDf_ok (mb:=d.mb) (n:=30) ok (defBody d.st),ds.map some++List.replicate (d.N.length - ds.length) none,m,st,ER.start r,rl,?_⟩
  rw[Pr.fn,h1] at q
  replace q:Post (aV K false) K (fun c d _ H=>E c d H) [] m H (runFn ⟨pr.fn k,pr.fuel⟩ (p.fn d) ds st) Q:=q
  rw[runFn_eq (show ds.length=(p.fn d).np from hl)] at q
  show PostS K (fun c d _ H=>E c d H) _ m H _
  replace q:Post (aV K false) K (fun c d _ H=>E c d H) [] m H (ofRS (exes ⟨pr.fn k,pr.fuel⟩ (trDf (p.tc d) d.mb 30 (defBody d.st)) (ds.map some++List.replicate (d.N.length - ds.length) none) st)) Q:=q
  cases e:exes ⟨pr.fn k,pr.fuel⟩ (trDf (p.tc d) d.mb 30 (defBody d.st)) (ds.map some++List.replicate (d.N.length - ds.length) none) st with
 |no=>rw[e] at q;exact q
 |ex x ρ st'=>rw[e] at q;exact fun c dd σ m' H' f' er r' xr=>q c dd m' H' f' r' xr
 |ok c st'=>
   rw[e] at q
   cases c with
  |nx ρ=>exact fun σ m' H' f' er r'=>q .non m' H' f' r' ⟨.non,fun z=>nomatch z⟩
  |rt u=>exact fun v m' H' f' r' vr=>q v m' H' f' r' ⟨vr,fun z=>nomatch z⟩
  |bk ρ=>exact q.elim
  |ct ρ=>exact q.elim
def CXw (P:Program):CXT:=fun outer H s E e s'=>∃w,L2.CX P w outer H s E e s'
theorem wideFn {k:Nat} {f:Addr} {fd:FuncData} {ps:List Str} {sp:Sp} (F:FnOk P w K mg base (L2.CX P w) k f fd ps sp):FnOk P w K mg base (CXw P) k f fd ps sp:=
 ⟨F.len,fun A outer s H args us vs Q E hr he hb hv hs=>codeAny_mono (F.run A outer s H args us vs Q E hr he hb hv hs) fun r s' h=>by
  cases r with
 |error e=>exact⟨w,h⟩
 |ok fl=>cases fl <;> exact h⟩
theorem cx_no {P:Program} (H:Hp) (s:Shared) (e:Value) (s':Shared) (h:CXw P [] H s (fun _ _ _=>False) e s'):False:=by
 obtain⟨_,_,_,_,_,_,_,_,_,_,_,_,_,z⟩:=h
 exact z
theorem law_sp {k n:Nat} {x:Str} (hP:∀ns:List Int,ns.length≤n→∃st,pr.fn k x [.fz (ns.map D.int)] []=.ok (.bl true) st) (H:Hp) (a:Addr) (ns:List Int) (hl:ns.length≤n) (hO:Only H) (hS:SqL K H a (ns.map V.int)) :
  spF K 1 (pr.fn k x) [.ref a] H (fun v _=>v=.bl true) fun _ _ _=>False:=by
 have hv:VRs K [] H (ns.map D.int) (ns.map V.int):=by
  clear hl hS
  induction ns with
 |nil=>exact .nil
 |cons n ns ih=>exact .cons (.int n) ih
 have hr:VR K [] H (.fz (ns.map D.int)) (.ref a):=by
  rcases hS with (h|⟨o,h⟩)|h
  ·rcases hO a with z|⟨o,xs,z⟩
   ·rw[z] at h;cases h
   ·rw[z] at h;cases h
  ·exact .fz h (by simp) hv
  ·exact .fzK h hv
 obtain⟨st,e⟩:=hP ns hl
 refine⟨[.fz (ns.map D.int)],[],[],rfl,⟨rfl,List.nodup_nil,fun n a o h=>by simp at h⟩,.cons hr .nil,?_⟩
 rw[e]
 exact fun v m' H' f' r' av=>by
  cases av.1
  rfl
end
end Dn
namespace Dn
open PySem L2
mutual
def vB (K:PySem.W.Frag):D→Value→Bool
|.non,.none=>true
|.bl b,.bool c=>decide (b=c)
|.int i,.int j _=>decide (i=j)
|.str x,.str z _=>decide (z.cps.toList=x)
|.tup ds,.ref a=>(match K.lookup a with
 |some ⟨.type c,none,.seq its _,_⟩=>decide (c = "tuple")&&(decide (its.size≤sizeLine)&&vBs K ds its.toList)
 |_=>false)
|.fz ds,.ref a=>(match K.lookup a with
 |some ⟨.type c,none,.seq its _,_⟩=>decide (c = "list")&&(decide (its.size≤sizeLine)&&vBs K ds its.toList)
 |_=>false)
|_,_=>false
def vBs (K:PySem.W.Frag):List D→List Value→Bool
|[],[]=>true
|d::ds,v::vs=>vB K d v&&vBs K ds vs
|_,_=>false
end
theorem b2 {a b:Bool} (h:(a&&b)=true):a=true∧b=true:=Bool.and_eq_true_iff.mp h
mutual
theorem vB_ok {K:PySem.W.Frag}:∀(d:D) (u:Value),vB K d u=true→∃v,RelV v u∧∀m H,VR K m H d v
|.non,u,h=>by cases u <;> first|exact⟨.non,rfl,fun _ _=>.non⟩|(unfold vB at h;cases h)
|.bl b,u,h=>by
  cases u with
 |bool c=>
   unfold vB at h
   have e:=of_decide_eq_true h
   subst e
   exact⟨.bl b,rfl,fun _ _=>.bl b⟩
 |_=>unfold vB at h;cases h
|.int b,u,h=>by
  cases u with
 |int c t=>
   unfold vB at h
   have e:=of_decide_eq_true h
   subst e
   exact⟨.int b,⟨t,rfl⟩,fun _ _=>.int b⟩
 |_=>unfold vB at h;cases h
|.str b,u,h=>by
  cases u with
 |str c t=>
   unfold vB at h
   have e:=of_decide_eq_true h
   subst e
   exact⟨.str c,⟨t,rfl⟩,fun _ _=>.str c.cps.toList⟩
 |_=>unfold vB at h;cases h
|.tup ds,u,h=>by
  cases u with
 |ref a=>
   unfold vB at h
   split at h
   ·rename_i c its n sl q
    obtain⟨h1,h2⟩:=b2 h
    obtain⟨h3,h4⟩:=b2 h2
    obtain⟨vs,r,hv⟩:=vBs_ok ds _ h4
    exact⟨.ref a,rfl,fun m H=>.tupK ⟨_,its,n,q,congrArg Value.type (of_decide_eq_true h1),rfl,of_decide_eq_true h3,r,rfl⟩ (hv m H)⟩
   ·cases h
 |_=>unfold vB at h;cases h
|.fz ds,u,h=>by
  cases u with
 |ref a=>
   unfold vB at h
   split at h
   ·rename_i c its n sl q
    obtain⟨h1,h2⟩:=b2 h
    obtain⟨h3,h4⟩:=b2 h2
    obtain⟨vs,r,hv⟩:=vBs_ok ds _ h4
    exact⟨.ref a,rfl,fun m H=>.fzK ⟨_,its,n,q,congrArg Value.type (of_decide_eq_true h1),rfl,rfl,of_decide_eq_true h3,r⟩ (hv m H)⟩
   ·cases h
 |_=>unfold vB at h;cases h
|.lst ds,u,h=>by cases u <;> (unfold vB at h;cases h)
|.ref n,u,h=>by cases u <;> (unfold vB at h;cases h)
theorem vBs_ok {K:PySem.W.Frag}:∀(ds:List D) (us:List Value),vBs K ds us=true→∃vs,Vals vs us∧∀m H,VRs K m H ds vs
|[],[],_=>⟨[],.nil,fun _ _=>.nil⟩
|d::ds,u::us,h=>by
  unfold vBs at h
  obtain⟨h1,h2⟩:=b2 h
  obtain⟨v,r,k⟩:=vB_ok d u h1
  obtain⟨vs,rs,ks⟩:=vBs_ok ds us h2
  exact⟨v::vs,.cons r rs,fun m H=>.cons (k m H) (ks m H)⟩
|[],u::us,h=>by unfold vBs at h;cases h
|d::ds,[],h=>by unfold vBs at h;cases h
end
def cB (K:PySem.W.Frag) (p:Str×D):Bool:=match PySem.W.nsIn K mainGlobals p.1 with
|some (some u)=>vB K p.2 u
|_=>false
theorem cB_ok {K:PySem.W.Frag} {h:Heap} {mg:Str→Option Value} (X:K.In h) (G:h.Ns mainGlobals mg) {x:Str} {d:D} (c:cB K (x,d)=true):∃u v,mg x=some u∧RelV v u∧∀m H,VR K m H d v:=by
 unfold cB at c
 split at c
 ·rename_i u q
  obtain⟨v,r,k⟩:=vB_ok d u c
  exact⟨u,v,PySem.W.mg_of X G q,r,k⟩
 ·cases c
theorem cBs_ok {K:PySem.W.Frag} {h:Heap} {mg:Str→Option Value} (X:K.In h) (G:h.Ns mainGlobals mg) {cs:List (Str×D)} (c:(cs.all fun p=>cB K p)=true) (x:Str) (d:D) (e:cs.lookup x=some d):∃u v,mg x=some u∧RelV v u∧∀m H,VR K m H d v:=
 cB_ok X G (List.all_eq_true.mp c (x,d) (PySem.mem_of_lookup e))
structure Gt where
 at_:List (Str×List Str)
 cn:List (Str×(Str×Nat))
 mt:List (Str×List (Str×Str))
 org:List (Str×(Str×Str))
 mn:List (Str×Nat)
 exs:List Str
 sub:List (Str×List Str)
 wh:List (Str×(List Str×List Str))
 fns:List (Str×Nat)
 dts:List ((Str×Option Str)×Nat):=[]
def Gt.gx (t:Gt):Gx:=⟨fun f=>(t.at_.lookup f).getD [],fun c=>t.cn.lookup c,fun m=>(t.mt.lookup m).getD [],fun g=>(t.mn.lookup g).getD 0,fun c=>t.exs.contains c,fun c=>(t.sub.lookup c).getD [],fun f=>t.wh.lookup f⟩
def excB (K:PySem.W.Frag) (D:Addr):Bool:=He.eqO (PySem.W.findIn K (.ref D) "__getattribute__") (some (some (.builtin "BaseException.__getattribute__")))&&(He.eqO (PySem.W.findIn K (.ref D) "__getattr__") (some none)&&(decide (PySem.W.subIn K (.ref D) (.type "BaseException")=some true)&&(PySem.W.hasDictIn K D &&
 (He.eqO (PySem.W.findIn K (.ref D) "__class__") (some (some (.builtin "object.__class__")))&&(He.eqO (PySem.W.specialIn K (.builtin "object.__class__") "__get__") (some (some (.builtin "getset_descriptor.__get__")))&&(decide (PySem.W.takesIn K (.builtin "object.__class__")=some true)&&decide (PySem.W.mroIn K D (.type "object")=some true)))))))
theorem excB_ok {K:PySem.W.Frag} {D:Addr} (h:excB K D=true):ExcC K D:=by
 obtain⟨h1,h⟩:=b2 h
 obtain⟨h2,h⟩:=b2 h
 obtain⟨h3,h⟩:=b2 h
 obtain⟨h4,h⟩:=b2 h
 obtain⟨h5,h⟩:=b2 h
 obtain⟨h6,h⟩:=b2 h
 obtain⟨h7,h8⟩:=b2 h
 exact⟨He.eqO_ok h1,He.eqO_ok h2,of_decide_eq_true h3,h4,He.eqO_ok h5,He.eqO_ok h6,of_decide_eq_true h7,of_decide_eq_true h8⟩
def whB (K:PySem.W.Frag) (names exs:List Str):Bool:=names.all (fun n=>(He.Fa.glo n).ok K)&&exs.all fun x=>excB K (He.ga K x)&&(decide (PySem.W.kitOne K (.ref (He.ga K x)) (.type "ValueError")=some true)&&names.all fun n=>decide (PySem.W.kitOne K (.ref (He.ga K x)) (.ref (He.ga K n))=some (decide (n=x))))
def Gt.ok (K:PySem.W.Frag) (t:Gt):Bool:=
 (t.at_.all fun p=>p.2.all fun c=>(He.Fa.cls c).ok K&&(He.Fa.noat c p.1).ok K)&&((t.cn.all fun p=>(He.Fa.glo p.1).ok K&&(He.Fa.mkr p.1).ok K&&(match t.org.lookup p.2.1 with
 |some o=>decide (He.ma K (He.ga K p.1) "__init__"=He.ma K (He.ga K o.1) o.2)
 |none=>false)) &&
 ((t.mt.all fun p=>p.2.all fun q=>(He.Fa.glo q.1).ok K&&(He.Fa.cls q.1).ok K&&(He.Fa.meth q.1 p.1).ok K&&(match t.org.lookup q.2 with
 |some o=>decide (He.ma K (He.ga K q.1) p.1=He.ma K (He.ga K o.1) o.2)
 |none=>false)) &&
 ((t.exs.all fun c=>(He.Fa.glo c).ok K&&(He.Fa.exc c).ok K)&&((t.sub.all fun p=>(He.Fa.glo p.1).ok K&&p.2.all fun x=>(He.Fa.exm x p.1 true).ok K)&&((t.wh.all fun p=>(He.Fa.glo p.1).ok K&&(He.Fa.keep p.1).ok K&&whB K p.2.1 p.2.2)&&((t.fns.all fun p=>(He.Fa.glo p.1).ok K)&&t.dts.all fun p=>vB K (.tup []) (.ref (He.dflAt p.1 p.2 K))))))))
theorem Gt.dt {K:PySem.W.Frag} {t:Gt} (h:t.ok K=true) {p:(Str×Option Str)×Nat} (hp:p∈t.dts):∀m H,VR K m H (.tup []) (.ref (He.dflAt p.1 p.2 K)):=by
 unfold Gt.ok at h
 obtain⟨_,h⟩:=b2 h
 obtain⟨_,h⟩:=b2 h
 obtain⟨_,h⟩:=b2 h
 obtain⟨_,h⟩:=b2 h
 obtain⟨_,h⟩:=b2 h
 obtain⟨_,h⟩:=b2 h
 obtain⟨_,h⟩:=b2 h
 obtain⟨v,r,k⟩:=vB_ok _ _ (List.all_eq_true.mp h p hp)
 intro m H
 have:=k m H
 cases this with
|tup e e' n y=>cases r;exact .tup e e' n y
|tupK e y=>cases r;exact .tupK e y
theorem ga_of {K:PySem.W.Frag} {x:Str} {C:Addr} (h:PySem.W.nsIn K mainGlobals x=some (some (.ref C))):He.ga K x=C:=by
 unfold He.ga
 rw[h]
theorem getD_mem {α:Type} {l:List (Str×List α)} {x:Str} {a:α} (h:a∈(l.lookup x).getD []):∃as,(x,as)∈l∧a∈as:=by
 cases e:l.lookup x with
|none=>rw[e] at h;cases h
|some as=>rw[e] at h;exact⟨as,PySem.mem_of_lookup e,h⟩
theorem al {α:Type} {l:List α} {f:α→Bool} (h:l.all f=true) {a:α} (ha:a∈l):f a=true:=List.all_eq_true.mp h a ha
structure DfA (K:PySem.W.Frag) (p:Pg) (pr:Pr) (d:Df) (at_:Str×Option Str):Prop where
 fn:pr.fns d.x=some (p.fn d)
 sc:FnScope d.N d.ps (defScope d.st)
 at_:∃fd,At K d (He.fAd K at_) fd∧PySem.W.keepIn K (.ref (He.fAd K at_))=true∧Binds K fd d.ps []∧∀j,j<(p.dfl d.x).length→∃ds vs,Vals vs ds∧(∀m H,VRs K m H ((p.dfl d.x).drop j) vs)∧Binds K fd d.ps ds
def keyB (t:Gt) (ks:List (Str×Nat×(Str×Option Str))):Bool:=(t.fns.all fun q=>ks.any fun r=>decide (r.1=q.1)&&(decide (r.2.1=q.2)&&decide (r.2.2=(q.1,none)))) &&
 ((t.cn.all fun q=>ks.any fun r=>decide (r.1=q.2.1)&&(decide (r.2.1=q.2.2)&&(match t.org.lookup q.2.1 with
 |some o=>decide (r.2.2=(o.1,some o.2))
 |none=>false))) &&
 (t.mt.all fun q=>q.2.all fun z=>ks.any fun r=>decide (r.1=z.2)&&(decide (r.2.1=(t.mn.lookup z.2).getD 0)&&(match t.org.lookup z.2 with
 |some o=>decide (r.2.2=(o.1,some o.2))
 |none=>false))))
def WhF (K:PySem.W.Frag) (t:Gt):Prop:=∀f names exs,t.wh.lookup f=some (names,exs)→∃(d:Df) (ev ow:Str) (fd:FuncData),At K d (He.ga K f) fd∧Binds K fd [ev] []∧FnScope [ev,ow] [ev] (defScope d.st)∧whBody (defScope d.st) ev ow (defBody d.st)=some names∧names.length≤1000 ∧
  (defScope d.st).names.lookup ow=some .local∧(defScope d.st).names.lookup ev=some .local∧((ev == ("__debug__":Str))=false∧(ev == ("__classdict__":Str))=false)∧((ow == ("__debug__":Str))=false∧(ow == ("__classdict__":Str))=false)
section
variable {K:PySem.W.Frag} {h:Heap} {mg:Str→Option Value} {p:Pg} {pr:Pr} {t:Gt}
theorem lk_of (X:K.In h) (G:h.Ns mainGlobals mg) (hb:∀x∈bltNames,mg x=none) (hc:∀x d,p.con x=some d→∃u v,mg x=some u∧RelV v u∧∀m H,VR K m H d v) (hfn:p.fns=fun x=>t.fns.lookup x) (hg:p.g=t.gx) (ht:t.ok K=true)
  (ks:List (Str×Nat×(Str×Option Str))) (hd:∀r∈ks,∃d∈p.defs,d.x=r.1∧d.ps.length=r.2.1∧DfA K p pr d r.2.2) (hall:∀d∈p.defs,pr.fns d.x=some (p.fn d)∧FnScope d.N d.ps (defScope d.st)) (hk:keyB t ks=true) (hw:WhF K t)
  (hkw:∀x n ps,p.kw x=some (n,ps)→∃d∈p.defs,d.x=x∧d.ps=ps∧∃fa fd gg,At K d fa fd∧PySem.W.keepIn K (.ref fa)=true∧mg x=some (.ref fa)∧KBn K fd ps n (ps.drop n) gg (fun vs zs=>vs++zs))
  (hkd:∀x n ds,p.kd x=some (n,ds)→∃d∈p.defs,d.x=x∧d.ps.length=n+ds.length∧∃fa fd,At K d fa fd∧PySem.W.keepIn K (.ref fa)=true∧mg x=some (.ref fa)∧∃us vs,Vals vs us∧(∀m H,VRs K m H ds vs)∧Binds K fd d.ps us):Lk K mg p pr:=by
 obtain⟨k1,k2⟩:=b2 hk
 obtain⟨k2,k3⟩:=b2 k2
 obtain⟨t1,ht⟩:=b2 ht
 obtain⟨t2,ht⟩:=b2 ht
 obtain⟨t3,ht⟩:=b2 ht
 obtain⟨t4,ht⟩:=b2 ht
 obtain⟨t5,ht⟩:=b2 ht
 obtain⟨t6,t7⟩:=b2 ht
 obtain⟨t7,_⟩:=b2 t7
 refine⟨hb,hc,fun x np e => ?_,hall,fun f c hf C hC => ?_,fun c g np e => ?_,fun m c g e => ?_,fun c e => ?_,fun c e => ?_,fun f names exs e => ?_,hkw,hkd⟩
 ·rw[hfn] at e
  have hm:=PySem.mem_of_lookup e
  obtain⟨r,hr,q⟩:=List.any_eq_true.mp (al k1 hm)
  obtain⟨q1,q⟩:=b2 q
  obtain⟨q2,q3⟩:=b2 q
  obtain⟨d,hd1,hd2,hd3,A⟩:=hd r hr
  obtain⟨fd,a1,a2,a3,a4⟩:=A.at_
  rw[of_decide_eq_true q3] at a1 a2
  have e1:d.x=x:=hd2.trans (of_decide_eq_true q1)
  have e2:d.ps.length=np:=hd3.trans (of_decide_eq_true q2)
  clear q1 q2 q3
  subst e1
  exact⟨d,hd1,rfl,e2,_,fd,a1,a2,He.glo_ok X G (al t7 hm),a3,a4⟩
 ·rw[hg] at hf
  obtain⟨cs,h1,h2⟩:=getD_mem hf
  obtain⟨q1,q2⟩:=b2 (al (al t1 h1) h2)
  rw[←ga_of hC]
  exact⟨He.cls_ok q1,He.noat_ok q2⟩
 ·rw[hg] at e
  have hm:=PySem.mem_of_lookup (show t.cn.lookup c=some (g,np) from e)
  obtain⟨q,q3⟩:=b2 (al t2 hm)
  obtain⟨q1,q2⟩:=b2 q
  obtain⟨r,hr,z⟩:=List.any_eq_true.mp (al k2 hm)
  obtain⟨z1,z⟩:=b2 z
  obtain⟨z2,z3⟩:=b2 z
  simp only at z1 z2 z3 q1 q2 q3
  have z1:=of_decide_eq_true z1
  have z2:=of_decide_eq_true z2
  cases eo:t.org.lookup g with
 |none=>rw[eo] at z3;cases z3
 |some o=>
   rw[eo] at z3 q3
   simp only at z3 q3
   have z3:=of_decide_eq_true z3
   have q3:=of_decide_eq_true q3
   obtain⟨d,hd1,hd2,hd3,A⟩:=hd r hr
   obtain⟨fd,a1,a2,a3,a4⟩:=A.at_
   rw[z3] at a1
   have M:=He.mkr_ok q2
   rw[q3] at M
   exact⟨d,hd1,hd2.trans z1,hd3.trans z2,He.ga K c,_,fd,a1,He.eqO_ok q1,He.glo_ok X G q1,M,a3⟩
 ·rw[hg] at e
  have e:(c,g)∈(t.mt.lookup m).getD []:=e
  obtain⟨cs,h1,h2⟩:=getD_mem e
  obtain⟨q,q4⟩:=b2 (al (al t3 h1) h2)
  obtain⟨q,q3⟩:=b2 q
  obtain⟨q1,q2⟩:=b2 q
  obtain⟨r,hr,z⟩:=List.any_eq_true.mp (al (al k3 h1) h2)
  obtain⟨z1,z⟩:=b2 z
  obtain⟨z2,z3⟩:=b2 z
  simp only at z1 z2 z3 q1 q2 q3 q4
  have z1:=of_decide_eq_true z1
  have z2:=of_decide_eq_true z2
  cases eo:t.org.lookup g with
 |none=>rw[eo] at z3;cases z3
 |some o=>
   rw[eo] at z3 q4
   simp only at z3 q4
   have z3:=of_decide_eq_true z3
   have q4:=of_decide_eq_true q4
   obtain⟨d,hd1,hd2,hd3,A⟩:=hd r hr
   obtain⟨fd,a1,a2,a3,a4⟩:=A.at_
   rw[z3] at a1
   have M:=He.meth_ok q3
   rw[q4] at M
   refine⟨d,hd1,hd2.trans z1,?_,He.ga K c,_,fd,a1,He.eqO_ok q1,He.cls_ok q2,M,a3⟩
   rw[hd3,hg]
   exact z2
 ·rw[hg] at e
  have e:c∈t.exs:=by
   have e:t.exs.contains c=true:=e
   simpa using e
  obtain⟨q1,q2⟩:=b2 (al t4 e)
  obtain⟨x1,x2,x3,x4⟩:=He.exc_ok q2
  exact⟨He.ga K c,He.eqO_ok q1,He.glo_ok X G q1,x1,x2,x3,x4⟩
 ·rw[hg] at e
  cases es:t.sub.lookup c with
 |none=>
   have z:(t.sub.lookup c).getD []≠[]:=e
   rw[es] at z
   exact absurd rfl z
 |some cs=>
   have hm:=PySem.mem_of_lookup es
   obtain⟨q1,q2⟩:=b2 (al t5 hm)
   refine⟨He.ga K c,He.glo_ok X G q1,fun x hx Cx hC => ?_⟩
   rw[hg] at hx
   have hx:x∈(t.sub.lookup c).getD []:=hx
   rw[es] at hx
   rw[←ga_of hC]
   exact He.exm_ok (al q2 hx)
 ·rw[hg] at e
  have e:t.wh.lookup f=some (names,exs):=e
  have hm:=PySem.mem_of_lookup e
  obtain⟨q,q3⟩:=b2 (al t6 hm)
  obtain⟨q1,q2⟩:=b2 q
  obtain⟨n1,n2⟩:=b2 q3
  obtain⟨d,ev,ow,fd,a1,a2,a3⟩:=hw f names exs e
  refine⟨⟨hb _ (by decide +kernel),hb _ (by decide +kernel),fun x hx C hC => ?_⟩,d,ev,ow,He.ga K f,fd,a1,He.glo_ok X G q1,q2,a2,a3⟩
  obtain⟨y1,y⟩:=b2 (al n2 hx)
  obtain⟨y2,y3⟩:=b2 y
  rw[←ga_of hC]
  exact⟨excB_ok y1,of_decide_eq_true y2,fun n hn=>⟨He.ga K n,He.glo_ok X G (al n1 hn),of_decide_eq_true (al y3 hn)⟩⟩
end
abbrev AlK:Type:=He.AlD×Bool
def obK (n:Nat) (fa:List He.Fa) (fn:List He.DefD) (cs:List (Str×D)) (t:Gt) (g:Addr→Option Obj):AlK:=(He.obsD fa fn (He.frG g (List.range n)),(cs.all fun p=>cB (He.frG g (List.range n)) p)&&t.ok (He.frG g (List.range n)))
structure SaysK (fa:List He.Fa) (fn:List He.DefD) (cs:List (Str×D)) (t:Gt) (K:PySem.W.Frag):Prop where
 d:He.SaysD fa fn K
 c:(cs.all fun p=>cB K p)=true
 t:t.ok K=true
def hkK (n:Nat) (fa:List He.Fa) (fn:List He.DefD) (cs:List (Str×D)) (t:Gt):PySem.W.Hook where
 α:=AlK
 obs:=fun s=>obK n fa fn cs t s.heap.get?
 val:=fun _=>(He.valD fn,true)
 says:=fun _ h=>∃K:PySem.W.Frag,K.In h∧SaysK fa fn cs t K
 of:=fun _ _ e=>by
  have e2:=b2 (congrArg (fun z:AlK=>z.2) e)
  exact⟨_,He.frG_in,congrArg (fun z:AlK=>z.1) e,e2.1,e2.2⟩
 keeps:=fun _ _ _ ⟨K,hK,c⟩ k=>⟨K,PySem.W.Frag.In.keeps hK k,c⟩
theorem obK_eq {n:Nat} {fa:List He.Fa} {fn:List He.DefD} {cs:List (Str×D)} {t:Gt} {g:Addr→Option Obj} {s:Shared} (h:∀a,g a=s.heap.get? a):obK n fa fn cs t g=(hkK n fa fn cs t).obs s:=by
 have e:g=s.heap.get?:=funext h
 rw[e] <;> rfl
end Dn
namespace Dn
open PySem PySem.W PySem.Calls PyProof.Rows L2
def Fr (n:Nat) (s:SharedT):Frag:=He.frG (HandSHeadRun.getT s) (List.range n)
noncomputable def topE (p:Program) (M:Nat) (w:World) (os:OsState):Option SharedT:=HandSHeadRun.endF (HandSHeadRun.stepQ (HandSHeadRun.denQ HandSHeadRun.tabQ) p w) M p w os
def Gt.ok1 (K:Frag) (t:Gt):Bool:=t.at_.all fun p=>p.2.all fun c=>(He.Fa.cls c).ok K&&(He.Fa.noat c p.1).ok K
def Gt.ok2 (K:Frag) (t:Gt):Bool:=t.cn.all fun p=>(He.Fa.glo p.1).ok K&&(He.Fa.mkr p.1).ok K&&(match t.org.lookup p.2.1 with
 |some o=>decide (He.ma K (He.ga K p.1) "__init__"=He.ma K (He.ga K o.1) o.2)
 |none=>false)
def Gt.ok3 (K:Frag) (t:Gt):Bool:=t.mt.all fun p=>p.2.all fun q=>(He.Fa.glo q.1).ok K&&(He.Fa.cls q.1).ok K&&(He.Fa.meth q.1 p.1).ok K&&(match t.org.lookup q.2 with
 |some o=>decide (He.ma K (He.ga K q.1) p.1=He.ma K (He.ga K o.1) o.2)
 |none=>false)
def Gt.ok4 (K:Frag) (t:Gt):Bool:=t.exs.all fun c=>(He.Fa.glo c).ok K&&(He.Fa.exc c).ok K
def Gt.ok5 (K:Frag) (t:Gt):Bool:=t.sub.all fun p=>(He.Fa.glo p.1).ok K&&p.2.all fun x=>(He.Fa.exm x p.1 true).ok K
def Gt.ok6 (K:Frag) (t:Gt):Bool:=t.wh.all fun p=>(He.Fa.glo p.1).ok K&&(He.Fa.keep p.1).ok K&&whB K p.2.1 p.2.2
def Gt.ok7 (K:Frag) (t:Gt):Bool:=(t.fns.all fun p=>(He.Fa.glo p.1).ok K)&&t.dts.all fun p=>vB K (.tup []) (.ref (He.dflAt p.1 p.2 K))
theorem Gt.ok_of {K:Frag} {t:Gt} (h1:t.ok1 K=true) (h2:t.ok2 K=true) (h3:t.ok3 K=true) (h4:t.ok4 K=true) (h5:t.ok5 K=true) (h6:t.ok6 K=true) (h7:t.ok7 K=true):t.ok K=true:=by
 have e:t.ok K=(t.ok1 K&&(t.ok2 K&&(t.ok3 K&&(t.ok4 K&&(t.ok5 K&&(t.ok6 K&&t.ok7 K)))))):=rfl
 rw[e,h1,h2,h3,h4,h5,h6,h7]
 decide
theorem obsD_flat {fa:List He.Fa} {K:Frag} (h0:(fa.all fun f=>f.ok K)=true):∀{cs:List (List He.DefD)},(∀c∈cs,He.obsD [] c K=He.valD c)→He.obsD fa cs.flatten K=He.valD cs.flatten
|[],_=>by
  show ((fa.all fun f=>f.ok K)&&true,([]:List He.FnW))=(true,[])
  rw[h0] <;> rfl
|c::cs,h=>by
  have hc:=h c (List.mem_cons_self ..)
  have ih:=obsD_flat h0 (cs:=cs) fun x hx=>h x (List.mem_cons_of_mem _ hx)
  have a:(true&&c.all fun d=>d.ok K,c.map fun d=>He.fnW K d.at_)=(true,c.map He.DefD.val):=hc
  have b:((fa.all fun f=>f.ok K)&&cs.flatten.all fun d=>d.ok K,cs.flatten.map fun d=>He.fnW K d.at_)=(true,cs.flatten.map He.DefD.val):=ih
  obtain⟨a1,a2⟩:=Prod.mk.inj a
  obtain⟨b1,b2⟩:=Prod.mk.inj b
  show ((fa.all fun f=>f.ok K)&&(c++cs.flatten).all fun d=>d.ok K,(c++cs.flatten).map fun d=>He.fnW K d.at_)=(true,(c++cs.flatten).map He.DefD.val)
  rw[h0,Bool.true_and] at b1
  rw[Bool.true_and] at a1
  rw[List.map_append,List.map_append,List.all_append,a1,b1,a2,b2,h0] <;> rfl
theorem at_some {α β:Type} {o:Option α} {f:α→β} {b:β} {s:α} (hs:o=some s) (h:o.map f=some b):f s=b:=by
 rw[hs] at h
 exact Option.some.inj h
theorem run_join {r:OpenRow} {q:Program} {n M:Nat} {fa:List He.Fa} {fn:List He.DefD} {cs:List (Str×D)} {t:Gt} {lo:List PySem.Str} {w:World} {fns:List (List He.DefD)} (hfn:fns.flatten=fn)
  (h1:∀os,(topE r.prog M w os).map (fun s=>(HandSHeadRun.looksF r.prog (boot_heap w.params) s.abs,HandSHeadRun.seenQ q lo (importedModules r.prog.main.body) (fun s=>xlAt q [] s&&recOk r.toRowW.records s) s.abs,(fa.all fun f=>f.ok (Fr n s))&&(cs.all fun p=>cB (Fr n s) p)))=some (true,openGood q lo,true))
  (h4:∀c∈fns,∀os,(topE r.prog M w os).map (fun s=>He.obsD [] c (Fr n s))=some (He.valD c))
  (g1:∀os,(topE r.prog M w os).map (fun s=>t.ok1 (Fr n s)&&t.ok2 (Fr n s)&&t.ok3 (Fr n s)&&t.ok4 (Fr n s)&&t.ok5 (Fr n s)&&t.ok7 (Fr n s))=some true)
  (g6:∀os,(topE r.prog M w os).map (fun s=>t.ok6 (Fr n s))=some true) :
  HandSHeadRun.RunEq r q (hkK n fa fn cs t) (fun s=>obK n fa fn cs t (HandSHeadRun.getT s)) M lo w:=by
 intro os
 obtain⟨s,hs,e0⟩:=Option.map_eq_some_iff.mp (h1 os)
 obtain⟨e1,e0⟩:=Prod.mk.inj e0
 obtain⟨e2,e0⟩:=Prod.mk.inj e0
 obtain⟨e3,e5⟩:=Bool.and_eq_true_iff.mp e0
 have e4:=fun c hc=>at_some hs (h4 c hc os)
 have k0:=at_some hs (g1 os)
 have k6:=at_some hs (g6 os)
 obtain⟨k0,k7⟩:=Bool.and_eq_true_iff.mp k0
 obtain⟨k0,k5⟩:=Bool.and_eq_true_iff.mp k0
 obtain⟨k0,k4⟩:=Bool.and_eq_true_iff.mp k0
 obtain⟨k0,k3⟩:=Bool.and_eq_true_iff.mp k0
 obtain⟨k1,k2⟩:=Bool.and_eq_true_iff.mp k0
 have e6:=Gt.ok_of k1 k2 k3 k4 k5 k6 k7
 have e7:=obsD_flat e3 e4
 rw[hfn] at e7
 have e8:obK n fa fn cs t (HandSHeadRun.getT s)=(He.valD fn,true):=by
  show (He.obsD fa fn (Fr n s),(cs.all fun p=>cB (Fr n s) p)&&t.ok (Fr n s))=_
  rw[e7,e5,e6] <;> rfl
 show (topE r.prog M w os).map _=_
 rw[hs]
 show some (_,_,obK n fa fn cs t (HandSHeadRun.getT s))=some (true,openGood q lo,(He.valD fn,true))
 rw[e8,e1,e2]
end Dn
namespace Dn
open PySem
abbrev Ev:=(Env→M D)×(Env→M Bool)
abbrev pl (f:Env→M D):Ev:=(f,fun ρ=>M.bind (f ρ) truth)
def evL:List Ev→Env→M (List D)
|[],_=>M.pure []
|e::es,ρ=>M.bind (e.1 ρ) fun d=>M.bind (evL es ρ) fun ds=>M.pure (d::ds)
def evT:List Ev→Env→M Bool
|[],_=>M.pure true
|e::es,ρ=>M.bind (e.2 ρ) fun t=>if t then evT es ρ else M.pure false
def evP:List Ev→Env→M (Option Int)
|[],_=>M.pure none
|[e],ρ=>M.bind (e.1 ρ) fun d=>M.bind (asInt? d) fun i=>M.pure (some i)
|_,_=>no
mutual
def ev (X:Cf):E→Ev
|.k d=>pl fun _=>M.pure d
|.v i=>pl fun ρ=>orNo (ρ[i]?.join)
|.tup es=>pl fun ρ=>M.bind (evL (evs X es) ρ) fun ds=>whenM (szOk ds.length) (M.pure (.tup ds))
|.lst es=>pl fun ρ=>M.bind (evL (evs X es) ρ) fun ds=>whenM (szOk ds.length) (M.pure (.lst ds))
|.bin o a b=>pl fun ρ=>M.bind ((ev X a).1 ρ) fun x=>M.bind ((ev X b).1 ρ) fun y=>binOp o x y
|.neg a=>pl fun ρ=>M.bind ((ev X a).1 ρ) fun x=>M.bind (asInt? x) fun i=>M.pure (.int (-i))
|.not a=>(fun ρ=>M.bind ((ev X a).1 ρ) fun x=>M.bind (truth x) fun b=>M.pure (.bl (!b)),fun ρ=>M.bind ((ev X a).2 ρ) fun b=>M.pure (!b))
|.and a b=>(fun ρ=>M.bind ((ev X a).1 ρ) fun x=>M.bind (truth x) fun t=>if t then (ev X b).1 ρ else M.pure x,fun ρ=>M.bind ((ev X a).2 ρ) fun t=>if t then (ev X b).2 ρ else M.pure false)
|.or a b=>(fun ρ=>M.bind ((ev X a).1 ρ) fun x=>M.bind (truth x) fun t=>if t then M.pure x else (ev X b).1 ρ,fun ρ=>M.bind ((ev X a).2 ρ) fun t=>if t then M.pure true else (ev X b).2 ρ)
|.cmp o a b=>pl fun ρ=>M.bind ((ev X a).1 ρ) fun x=>M.bind ((ev X b).1 ρ) fun y=>cmpOp o x y
|.cmp2 o p a b c=>pl fun ρ=>M.bind ((ev X a).1 ρ) fun x=>M.bind ((ev X b).1 ρ) fun y=>M.bind (cmpOp o x y) fun t=>M.bind (orNo (isBl t)) fun t=>if t then M.bind ((ev X c).1 ρ) fun z=>cmpOp p y z else M.pure (.bl false)
|.ite c a b=>(fun ρ=>M.bind ((ev X c).2 ρ) fun t=>if t then (ev X a).1 ρ else (ev X b).1 ρ,fun ρ=>M.bind ((ev X c).2 ρ) fun t=>if t then (ev X a).2 ρ else (ev X b).2 ρ)
|.ix a i=>pl fun ρ=>M.bind ((ev X a).1 ρ) fun x=>M.bind ((ev X i).1 ρ) fun y=>ixOp x y
|.sl a lo hi=>pl fun ρ=>M.bind ((ev X a).1 ρ) fun x=>M.bind (evP (evs X lo) ρ) fun l=>M.bind (evP (evs X hi) ρ) fun h=>slOp x l h
|.rv a=>pl fun ρ=>M.bind ((ev X a).1 ρ) fun x=>rvOp x
|.call f es=>pl fun ρ=>M.bind (evL (evs X es) ρ) fun ds=>callV false (X.fn f ds)
|.callB f es=>pl fun ρ=>M.bind (evL (evs X es) ρ) fun ds=>callV true (X.fn f ds)
|.bi f es=>pl fun ρ=>M.bind (evL (evs X es) ρ) fun ds=>biOp f ds
|.me m o es=>pl fun ρ=>M.bind ((ev X o).1 ρ) fun x=>M.bind (rtM m x) fun _=>M.bind (evL (evs X es) ρ) fun ds=>meOp m x ds
|.isi t a=>pl fun ρ=>M.bind ((ev X a).1 ρ) fun x=>isiM t x
|.dsub a k=>pl fun ρ=>M.bind ((ev X a).1 ρ) fun x=>M.bind (orNo (pairsD x)) fun kvs=>M.bind ((ev X k).1 ρ) fun y=>dgOp .sub kvs y []
|.dg m ks vs k es=>pl fun ρ=>M.bind (evL (evs X vs) ρ) fun ds=>whenM (decide (ds.length=ks.length)&&decide (ks.length≤15)) (M.bind ((ev X k).1 ρ) fun y=>M.bind (evL (evs X es) ρ) fun zs=>dgOp m ((ks.map Sum.inr).zip ds) y zs)
|.lset a=>pl fun ρ=>M.bind ((ev X a).1 ρ) fun x=>lsetOp x
|.rngL es=>pl fun ρ=>M.bind (evL (evs X es) ρ) fun ds=>rngOp ds
|.box e=>pl fun ρ=>M.bind ((ev X e).1 ρ) fun d=>boxed d
|.lc own t ik ia cs e=>pl fun ρ=>M.bind (evL (evs X ia) ρ) fun ds=>M.bind (walk ik ds) fun w=>compM w.2 (fun n d=>M.bind (orNo (t.set d (wipe ρ own))) fun ρ'=>M.bind (evT (evs X cs) ρ') fun b=>if b then M.bind ((ev X e).1 ρ') fun y=>app1 n y else M.pure ()) w.1
|.lc2 own own1 t ik ia cs t1 ik1 ia1 cs1 e=>pl fun ρ=>M.bind (evL (evs X ia) ρ) fun ds=>M.bind (walk ik ds) fun w=>compM w.2 (fun n d=>M.bind (orNo (t.set d (wipe ρ own))) fun ρ'=>M.bind (evT (evs X cs) ρ') fun b=>if b then
   M.bind (evL (evs X ia1) ρ') fun ds1=>M.bind (walk ik1 ds1) fun w1=>compL w1.2 (fun d1=>M.bind (orNo (t1.set d1 (wipe ρ' own1))) fun ρ2=>M.bind (evT (evs X cs1) ρ2) fun b1=>if b1 then M.bind ((ev X e).1 ρ2) fun y=>app1 n y else M.pure ()) w1.1
   else M.pure ()) w.1
|.attr cs o f=>pl fun ρ=>M.bind ((ev X o).1 ρ) fun x=>getA cs x f
|.new c f es=>pl fun ρ=>M.bind (evL (evs X es) ρ) fun ds=>newM c fun x=>X.fn f (x::ds)
|.mc m cs o es=>pl fun ρ=>M.bind ((ev X o).1 ρ) fun x=>M.bind (methM m cs x) fun f=>M.bind (evL (evs X es) ρ) fun ds=>callV false (X.fn f (x::ds))
|.dnew=>pl fun _=>push (.dic [])
|.dof a=>pl fun ρ=>M.bind ((ev X a).1 ρ) fun x=>M.bind (orNo (pairsD x)) fun kvs=>push (.dic (mergeD [] kvs))
|.dlit es=>pl fun ρ=>M.bind (push (.dic [])) fun x=>M.bind (evL (evs X es) ρ) fun ds=>dsetM x ds
|.dm op o es=>pl fun ρ=>M.bind ((ev X o).1 ρ) fun x=>M.bind (dicM x) fun _=>M.bind (evL (evs X es) ρ) fun ds=>dmOp op x ds
|.din neg k o=>pl fun ρ=>M.bind ((ev X k).1 ρ) fun y=>M.bind ((ev X o).1 ρ) fun x=>dinOp neg y x
|.kix xs e=>pl fun ρ=>M.bind ((ev X e).1 ρ) fun y=>kixOp xs y
|.callX fs i es=>pl fun ρ=>M.bind ((ev X i).1 ρ) fun d=>M.bind (fixM fs d) fun f=>M.bind (evL (evs X es) ρ) fun ds=>callV false (X.fn f ds)
def evs (X:Cf):List E→List Ev
|[]=>[]
|e::es=>ev X e::evs X es
end
end Dn
local macro_rules | `(tactic| push_cast [$ts,*]) => `(tactic| simp only [Dn.exe, Dn.andS, Dn.den, Dn.dens, Dn.tst, Dn.M.bind, Dn.M.pure, Dn.orNo, List.getElem?_cons_succ, List.getElem?_cons_zero, Option.join_some, Dn.G.set, Dn.G.sets, List.set_cons_succ, List.set_cons_zero, Dn.whenM, List.length_cons, List.length_nil, Nat.zero_add, Nat.reduceAdd, if_true, if_false, Bool.not_true, Bool.not_false, Bool.false_eq_true, Dn.truth, Dn.exes, Dn.andC, $ts,*])
namespace Hb
open PySem PySem.Spec PyProof.Rows L2 Dn
def top (i:Nat):Stmt:=PySem.Challenge.pw_boardworks_k29_whole_worn_places.main.body.getD i (.Pass ⟨0,0,0,0⟩)
def d_is_whole:Df:=⟨"is_whole", "is_whole",top 6,["thing", "low", "high"],["thing", "low", "high"],List.contains []⟩
def d_is_byte:Df:=⟨"is_byte", "is_byte",top 7,["thing"],["thing"],List.contains []⟩
def d_blank:Df:=⟨"blank", "blank",top 11,[],[],List.contains []⟩
def d_is_flash:Df:=⟨"is_flash", "is_flash",top 12,["thing", "byte"],["thing"],List.contains []⟩
def d_need_flash:Df:=⟨"need_flash", "need_flash",top 13,["flash"],["flash"],List.contains []⟩
def d_is_step:Df:=⟨"is_step", "is_step",top 14,["thing"],["thing"],List.contains []⟩
def d_is_worn:Df:=⟨"is_worn", "is_worn",top 15,["thing", "one", "other", "place", "mask"],["thing"],List.contains []⟩
def d_done_of:Df:=⟨"done_of", "done_of",top 16,["flash", "some", "worn", "place", "step", "made", "masks", "byte"],["flash", "some", "worn"],List.contains ["made", "{}masks"]⟩
def d_done:Df:=⟨"done", "done",top 17,["flash", "some", "worn", "one"],["flash", "some", "worn"],List.contains []⟩
def d__law_cell_at:Df:=⟨"_law_cell_at", "_law_cell_at",top 19,["script", "k", "spare", "again"],["script", "k"],List.contains []⟩
def d__law_mixed:Df:=⟨"_law_mixed", "_law_mixed",top 20,["script", "k", "bound", "drawn"],["script", "k", "bound"],List.contains []⟩
def d__law_draw:Df:=⟨"_law_draw", "_law_draw",top 21,["script", "town", "bound"],["script", "town", "bound"],List.contains ["town"]⟩
def d__law_pick:Df:=⟨"_law_pick", "_law_pick",top 22,["script", "town", "some"],["script", "town", "some"],List.contains ["town"]⟩
def d__law_a_byte:Df:=⟨"_law_a_byte", "_law_a_byte",top 23,["script", "town"],["script", "town"],List.contains ["town"]⟩
def d_law:Df:=⟨"law", "law",top 24,["script", "town", "flash", "again", "masks", "worn_so", "place", "half", "row", "due", "byte"],["script"],List.contains ["due", "flash", "row", "town", "{}masks"]⟩
def cons:List (Str×D):=[(("PLACES":Str),(D.int (512))),(("FULL":Str),(D.int (255)))]
def dfls:List (Str×List D):=[(("done":Str),[(.tup [])])]
def gt:Gt:={
 at_:=[]
 cn:=[]
 mt:=[]
 org:=[]
 mn:=[]
 exs:=["NoFlash", "NoSteps", "NoWorn"]
 sub:=[]
 wh:=[]
 fns:=[(("is_whole":Str),(3:Nat)),(("is_byte":Str),(1:Nat)),(("blank":Str),(0:Nat)),(("is_flash":Str),(1:Nat)),(("need_flash":Str),(1:Nat)),(("is_step":Str),(1:Nat)),(("is_worn":Str),(1:Nat)),(("done_of":Str),(3:Nat)),(("done":Str),(3:Nat)),(("_law_cell_at":Str),(2:Nat)),(("_law_mixed":Str),(3:Nat)),(("_law_draw":Str),(3:Nat)),(("_law_pick":Str),(3:Nat)),(("_law_a_byte":Str),(2:Nat)),(("law":Str),(1:Nat))]
 dts:=[(("done",none),0)]}
def kwL:List (Str×(Nat×List Str)):=[(("done":Str),(2,["flash", "some", "worn"]))]
def kdL:List (Str×(Nat×List D)):=[]
def pg:Pg:=⟨fun x=>cons.lookup x,fun x=>gt.fns.lookup x,fun x=>(dfls.lookup x).getD [],gt.gx,[d_is_whole,d_is_byte,d_blank,d_is_flash,d_need_flash,d_is_step,d_is_worn,d_done_of,d_done,d__law_cell_at,d__law_mixed,d__law_draw,d__law_pick,d__law_a_byte,d_law],fun x=>kwL.lookup x,fun x=>kdL.lookup x⟩
def f_is_whole:Fn:=⟨3,3,[.ret (.and (.isi .int (.v 0)) (.and (.not (.isi .bool (.v 0))) (.cmp2 .LtE .LtE (.v 1) (.v 0) (.v 2))))]⟩
def f_is_byte:Fn:=⟨1,1,[.ret (.call "is_whole" [(.v 0),(.k (.int 0)),(.k (.int 255))])]⟩
def f_blank:Fn:=⟨0,0,[.ret (.bin .Mult (.tup [(.k (.int (255)))]) (.k (.int (512))))]⟩
def f_is_flash:Fn:=⟨1,2,[.ret (.and (.isi .tuple (.v 0)) (.and (.cmp .Eq (.bi .len [(.v 0)]) (.k (.int (512)))) (.bi .all [(.lc [1] (.nm 1) .seq [(.v 0)] [] (.call "is_byte" [(.v 1)]))])))]⟩
def f_need_flash:Fn:=⟨1,1,[.ifs (.not (.call "is_flash" [(.v 0)])) [.rais "NoFlash"] []]⟩
def f_is_step:Fn:=⟨1,1,[.ifs (.or (.not (.isi .tuple (.v 0))) (.or (.not (.cmp2 .LtE .LtE (.k (.int 2)) (.bi .len [(.v 0)]) (.k (.int 3)))) (.not (.call "is_whole" [(.ix (.v 0) (.k (.int 1))),(.k (.int 0)),(.bin .Sub (.k (.int (512))) (.k (.int 1)))])))) [.ret (.k (.bl false))] [],.ifs (.and (.cmp .Eq (.ix (.v 0) (.k (.int 0))) (.k (.str [99,108,101,97,114]))) (.cmp .Eq (.bi .len [(.v 0)]) (.k (.int 2)))) [.ret (.k (.bl true))] [],.ret (.and (.cmp .Eq (.ix (.v 0) (.k (.int 0))) (.k (.str [98,117,114,110]))) (.and (.cmp .Eq (.bi .len [(.v 0)]) (.k (.int 3))) (.call "is_byte" [(.ix (.v 0) (.k (.int 2)))])))]⟩
def f_is_worn:Fn:=⟨1,5,[.ifs (.or (.not (.isi .tuple (.v 0))) (.not (.bi .all [(.lc [1] (.nm 1) .seq [(.v 0)] [] (.and (.isi .tuple (.v 1)) (.cmp .Eq (.bi .len [(.v 1)]) (.k (.int 2)))))]))) [.ret (.k (.bl false))] [],.ifs (.not (.bi .all [(.lc [3,4] (.tp [(.nm 3),(.nm 4)]) .seq [(.v 0)] [] (.and (.call "is_whole" [(.v 3),(.k (.int 0)),(.bin .Sub (.k (.int (512))) (.k (.int 1)))]) (.call "is_byte" [(.v 4)])))])) [.ret (.k (.bl false))] [],.ret (.bi .all [(.lc [1,2] (.tp [(.nm 1),(.nm 2)]) .zip [(.v 0),(.sl (.v 0) [(.k (.int 1))] [])] [] (.cmp .Lt (.ix (.v 1) (.k (.int 0))) (.ix (.v 2) (.k (.int 0)))))])]⟩
def f_done_of:Fn:=⟨3,8,[.par 5 6 (.box (.bi .list [(.v 0)])) (.dof (.v 2)),.wear 3 5 6 (255),.for_ (.nm 4) .seq [(.v 1)] [.asg (.nm 3) (.ix (.v 4) (.k (.int 1))),.asg (.nm 7) (.ite (.cmp .Eq (.ix (.v 4) (.k (.int 0))) (.k (.str [99,108,101,97,114]))) (.k (.int (255))) (.bin .BitAnd (.ix (.v 5) (.v 3)) (.ix (.v 4) (.k (.int 2))))),.put (.v 5) (.v 3) (.bin .BitAnd (.v 7) (.bin .Sub (.k (.int (255))) (.dm .get (.v 6) [(.v 3),(.k (.int 0))])))],.ret (.bi .tuple [(.v 5)])]⟩
def f_done:Fn:=⟨3,4,[.exp (.call "need_flash" [(.v 0)]),.ifs (.or (.not (.isi .list (.v 1))) (.not (.bi .all [(.lc [3] (.nm 3) .seq [(.v 1)] [] (.call "is_step" [(.v 3)]))]))) [.rais "NoSteps"] [],.ifs (.not (.call "is_worn" [(.v 2)])) [.rais "NoWorn"] [],.ret (.call "done_of" [(.v 0),(.v 1),(.v 2)])]⟩
def f__law_cell_at:Fn:=⟨2,4,[.ifs (.cmp .Lt (.v 1) (.bi .len [(.v 0)])) [.ret (.ix (.v 0) (.v 1))] [],.ifs (.cmp .Eq (.v 0) (.lst [])) [.ret (.k (.int 0))] [],.asg (.nm 2) (.ix (.v 0) (.bin .Mod (.v 1) (.bi .len [(.v 0)]))),.for_ (.nm 3) .rng1 [(.bi .min [(.bin .FloorDiv (.v 1) (.bi .len [(.v 0)])),(.k (.int 60))])] [.asg (.nm 2) (.bin .FloorDiv (.v 2) (.k (.int 1000003)))],.ret (.bin .Add (.bin .Add (.bin .Mult (.ix (.v 0) (.bin .Mod (.v 1) (.bi .len [(.v 0)]))) (.k (.int 31))) (.v 1)) (.bin .Mult (.v 2) (.k (.int 101))))]⟩
def f__law_mixed:Fn:=⟨3,4,[.asg (.nm 3) (.bin .Mod (.bin .Add (.bin .Add (.bin .Mult (.call "_law_cell_at" [(.v 0),(.v 1)]) (.k (.int 1103515245))) (.bin .Mult (.k (.int 7919)) (.v 1))) (.k (.int 12345))) (.k (.int 2147483647))),.ret (.bin .Mod (.bin .Mod (.bin .Mod (.bin .Pow (.v 3) (.k (.int 5))) (.k (.int 2147483647))) (.k (.int 999983))) (.v 2))]⟩
def f__law_draw:Fn:=⟨3,3,[.exp (.me .append (.v 1) [(.k (.int 0))]),.ret (.call "_law_mixed" [(.v 0),(.bi .len [(.v 1)]),(.v 2)])]⟩
def f__law_pick:Fn:=⟨3,3,[.ret (.ix (.v 2) (.call "_law_draw" [(.v 0),(.v 1),(.bi .len [(.v 2)])]))]⟩
def f__law_a_byte:Fn:=⟨2,2,[.ret (.call "_law_pick" [(.v 0),(.v 1),(.lst [(.k (.int 0)),(.k (.int 1)),(.k (.int 255)),(.k (.int 85)),(.k (.int 170)),(.call "_law_draw" [(.v 0),(.v 1),(.k (.int 256))]),(.call "_law_draw" [(.v 0),(.v 1),(.k (.int 256))])])])]⟩
def f_law:Fn:=⟨1,11,[.asg (.nm 1) (.box (.lst [])),.asg (.nm 2) (.box (.bi .list [(.call "blank" [])])),.for_ (.nm 3) .rng1 [(.k (.int 6))] [.put (.v 2) (.call "_law_draw" [(.v 0),(.v 1),(.k (.int 40))]) (.call "_law_a_byte" [(.v 0),(.v 1)])],.asg (.nm 4) .dnew,.for_ (.nm 3) .rng1 [(.call "_law_draw" [(.v 0),(.v 1),(.k (.int 4))])] [.dput (.v 4) (.call "_law_draw" [(.v 0),(.v 1),(.k (.int 40))]) (.call "_law_a_byte" [(.v 0),(.v 1)])],.asg (.nm 5) (.bi .tuple [(.lc [6] (.nm 6) .seq [(.bi .sorted [(.bi .list [(.v 4)])])] [] (.tup [(.v 6),(.dm .ix (.v 4) [(.v 6)])]))]),.par 8 9 (.box (.lst [])) (.box (.bi .list [(.v 2)])),.wear 6 9 4 (255),.for_ (.nm 3) .rng1 [(.call "_law_draw" [(.v 0),(.v 1),(.k (.int 30))])] [.par 6 10 (.call "_law_draw" [(.v 0),(.v 1),(.k (.int 40))]) (.call "_law_a_byte" [(.v 0),(.v 1)]),.exp (.me .append (.v 8) [(.ite (.cmp .Eq (.call "_law_draw" [(.v 0),(.v 1),(.k (.int 3))]) (.k (.int 0))) (.tup [(.k (.str [99,108,101,97,114])),(.v 6)]) (.tup [(.k (.str [98,117,114,110])),(.v 6),(.v 10)]))]),.put (.v 9) (.v 6) (.ite (.cmp .Eq (.ix (.ix (.v 8) (.neg (.k (.int 1)))) (.k (.int 0))) (.k (.str [99,108,101,97,114]))) (.k (.int 255)) (.bin .BitAnd (.ix (.v 9) (.v 6)) (.v 10))),.put (.v 9) (.v 6) (.bin .BitAnd (.ix (.v 9) (.v 6)) (.bin .Sub (.k (.int 255)) (.dm .get (.v 4) [(.v 6),(.k (.int 0))])))],.ifs (.cmp .NotEq (.call "done" [(.bi .tuple [(.v 2)]),(.v 8),(.v 5)]) (.bi .tuple [(.v 9)])) [.ret (.k (.bl false))] [],.asg (.nm 7) (.call "done" [(.bi .tuple [(.v 2)]),(.sl (.v 8) [] [(.k (.int 9))]),(.v 5)]),.ret (.and (.cmp .Eq (.call "done" [(.v 7),(.sl (.v 8) [(.k (.int 9))] []),(.v 5)]) (.bi .tuple [(.v 9)])) (.cmp .Eq (.call "done" [(.bi .tuple [(.v 2)]),(.lst []),(.k (.tup []))]) (.bi .tuple [(.v 2)])))]⟩
def fnL:List (Str×Fn):=[(("is_whole":Str),f_is_whole),(("is_byte":Str),f_is_byte),(("blank":Str),f_blank),(("is_flash":Str),f_is_flash),(("need_flash":Str),f_need_flash),(("is_step":Str),f_is_step),(("is_worn":Str),f_is_worn),(("done_of":Str),f_done_of),(("done":Str),f_done),(("_law_cell_at":Str),f__law_cell_at),(("_law_mixed":Str),f__law_mixed),(("_law_draw":Str),f__law_draw),(("_law_pick":Str),f__law_pick),(("_law_a_byte":Str),f__law_a_byte),(("law":Str),f_law)]
def pr:Pr:=⟨fun x=>fnL.lookup x,100000⟩
theorem l_is_whole:pr.fns "is_whole"=some f_is_whole:=by kernel_rfl
theorem n_is_whole (k:Nat) (a:List D) (st:Sto):pr.fn (k+1) "is_whole" a st=runFn ⟨pr.fn k,pr.fuel⟩ f_is_whole a st:=by rw[Pr.fn,l_is_whole]
theorem l_is_byte:pr.fns "is_byte"=some f_is_byte:=by kernel_rfl
theorem n_is_byte (k:Nat) (a:List D) (st:Sto):pr.fn (k+1) "is_byte" a st=runFn ⟨pr.fn k,pr.fuel⟩ f_is_byte a st:=by rw[Pr.fn,l_is_byte]
theorem l_blank:pr.fns "blank"=some f_blank:=by kernel_rfl
theorem n_blank (k:Nat) (a:List D) (st:Sto):pr.fn (k+1) "blank" a st=runFn ⟨pr.fn k,pr.fuel⟩ f_blank a st:=by rw[Pr.fn,l_blank]
theorem l_is_flash:pr.fns "is_flash"=some f_is_flash:=by kernel_rfl
theorem n_is_flash (k:Nat) (a:List D) (st:Sto):pr.fn (k+1) "is_flash" a st=runFn ⟨pr.fn k,pr.fuel⟩ f_is_flash a st:=by rw[Pr.fn,l_is_flash]
theorem l_need_flash:pr.fns "need_flash"=some f_need_flash:=by kernel_rfl
theorem n_need_flash (k:Nat) (a:List D) (st:Sto):pr.fn (k+1) "need_flash" a st=runFn ⟨pr.fn k,pr.fuel⟩ f_need_flash a st:=by rw[Pr.fn,l_need_flash]
theorem l_is_step:pr.fns "is_step"=some f_is_step:=by kernel_rfl
theorem n_is_step (k:Nat) (a:List D) (st:Sto):pr.fn (k+1) "is_step" a st=runFn ⟨pr.fn k,pr.fuel⟩ f_is_step a st:=by rw[Pr.fn,l_is_step]
theorem l_is_worn:pr.fns "is_worn"=some f_is_worn:=by kernel_rfl
theorem n_is_worn (k:Nat) (a:List D) (st:Sto):pr.fn (k+1) "is_worn" a st=runFn ⟨pr.fn k,pr.fuel⟩ f_is_worn a st:=by rw[Pr.fn,l_is_worn]
theorem l_done_of:pr.fns "done_of"=some f_done_of:=by kernel_rfl
theorem n_done_of (k:Nat) (a:List D) (st:Sto):pr.fn (k+1) "done_of" a st=runFn ⟨pr.fn k,pr.fuel⟩ f_done_of a st:=by rw[Pr.fn,l_done_of]
theorem l_done:pr.fns "done"=some f_done:=by kernel_rfl
theorem n_done (k:Nat) (a:List D) (st:Sto):pr.fn (k+1) "done" a st=runFn ⟨pr.fn k,pr.fuel⟩ f_done a st:=by rw[Pr.fn,l_done]
theorem l__law_cell_at:pr.fns "_law_cell_at"=some f__law_cell_at:=by kernel_rfl
theorem n__law_cell_at (k:Nat) (a:List D) (st:Sto):pr.fn (k+1) "_law_cell_at" a st=runFn ⟨pr.fn k,pr.fuel⟩ f__law_cell_at a st:=by rw[Pr.fn,l__law_cell_at]
theorem l__law_mixed:pr.fns "_law_mixed"=some f__law_mixed:=by kernel_rfl
theorem n__law_mixed (k:Nat) (a:List D) (st:Sto):pr.fn (k+1) "_law_mixed" a st=runFn ⟨pr.fn k,pr.fuel⟩ f__law_mixed a st:=by rw[Pr.fn,l__law_mixed]
theorem l__law_draw:pr.fns "_law_draw"=some f__law_draw:=by kernel_rfl
theorem n__law_draw (k:Nat) (a:List D) (st:Sto):pr.fn (k+1) "_law_draw" a st=runFn ⟨pr.fn k,pr.fuel⟩ f__law_draw a st:=by rw[Pr.fn,l__law_draw]
theorem l__law_pick:pr.fns "_law_pick"=some f__law_pick:=by kernel_rfl
theorem n__law_pick (k:Nat) (a:List D) (st:Sto):pr.fn (k+1) "_law_pick" a st=runFn ⟨pr.fn k,pr.fuel⟩ f__law_pick a st:=by rw[Pr.fn,l__law_pick]
theorem l__law_a_byte:pr.fns "_law_a_byte"=some f__law_a_byte:=by kernel_rfl
theorem n__law_a_byte (k:Nat) (a:List D) (st:Sto):pr.fn (k+1) "_law_a_byte" a st=runFn ⟨pr.fn k,pr.fuel⟩ f__law_a_byte a st:=by rw[Pr.fn,l__law_a_byte]
theorem l_law:pr.fns "law"=some f_law:=by kernel_rfl
theorem n_law (k:Nat) (a:List D) (st:Sto):pr.fn (k+1) "law" a st=runFn ⟨pr.fn k,pr.fuel⟩ f_law a st:=by rw[Pr.fn,l_law]
end Hb
namespace Hb
open PySem PySem.Spec PyProof.Rows L2 Dn
theorem e_is_whole:pg.fn d_is_whole=f_is_whole:=by kernel_rfl
theorem s_is_whole:FnScope d_is_whole.N d_is_whole.ps (defScope d_is_whole.st):=⟨by kernel_rfl,by kernel_rfl,by kernel_rfl,by decide +kernel,by kernel_rfl,by decide +kernel,by decide +kernel⟩
def h_is_whole:He.DefD:=⟨("is_whole",none), "is_whole", "is_whole",defArgs (top 6),defBody (top 6),defScope (top 6),[],[]⟩
theorem e_is_byte:pg.fn d_is_byte=f_is_byte:=by kernel_rfl
theorem s_is_byte:FnScope d_is_byte.N d_is_byte.ps (defScope d_is_byte.st):=⟨by kernel_rfl,by kernel_rfl,by kernel_rfl,by decide +kernel,by kernel_rfl,by decide +kernel,by decide +kernel⟩
def h_is_byte:He.DefD:=⟨("is_byte",none), "is_byte", "is_byte",defArgs (top 7),defBody (top 7),defScope (top 7),[],[]⟩
theorem e_blank:pg.fn d_blank=f_blank:=by kernel_rfl
theorem s_blank:FnScope d_blank.N d_blank.ps (defScope d_blank.st):=⟨by kernel_rfl,by kernel_rfl,by kernel_rfl,by decide +kernel,by kernel_rfl,by decide +kernel,by decide +kernel⟩
def h_blank:He.DefD:=⟨("blank",none), "blank", "blank",defArgs (top 11),defBody (top 11),defScope (top 11),[],[]⟩
theorem e_is_flash:pg.fn d_is_flash=f_is_flash:=by kernel_rfl
theorem s_is_flash:FnScope d_is_flash.N d_is_flash.ps (defScope d_is_flash.st):=⟨by kernel_rfl,by kernel_rfl,by kernel_rfl,by decide +kernel,by kernel_rfl,by decide +kernel,by decide +kernel⟩
def h_is_flash:He.DefD:=⟨("is_flash",none), "is_flash", "is_flash",defArgs (top 12),defBody (top 12),defScope (top 12),[],[]⟩
theorem e_need_flash:pg.fn d_need_flash=f_need_flash:=by kernel_rfl
theorem s_need_flash:FnScope d_need_flash.N d_need_flash.ps (defScope d_need_flash.st):=⟨by kernel_rfl,by kernel_rfl,by kernel_rfl,by decide +kernel,by kernel_rfl,by decide +kernel,by decide +kernel⟩
def h_need_flash:He.DefD:=⟨("need_flash",none), "need_flash", "need_flash",defArgs (top 13),defBody (top 13),defScope (top 13),[],[]⟩
theorem e_is_step:pg.fn d_is_step=f_is_step:=by kernel_rfl
theorem s_is_step:FnScope d_is_step.N d_is_step.ps (defScope d_is_step.st):=⟨by kernel_rfl,by kernel_rfl,by kernel_rfl,by decide +kernel,by kernel_rfl,by decide +kernel,by decide +kernel⟩
def h_is_step:He.DefD:=⟨("is_step",none), "is_step", "is_step",defArgs (top 14),defBody (top 14),defScope (top 14),[],[]⟩
theorem e_is_worn:pg.fn d_is_worn=f_is_worn:=by kernel_rfl
theorem s_is_worn:FnScope d_is_worn.N d_is_worn.ps (defScope d_is_worn.st):=⟨by kernel_rfl,by kernel_rfl,by kernel_rfl,by decide +kernel,by kernel_rfl,by decide +kernel,by decide +kernel⟩
def h_is_worn:He.DefD:=⟨("is_worn",none), "is_worn", "is_worn",defArgs (top 15),defBody (top 15),defScope (top 15),[],[]⟩
theorem e_done_of:pg.fn d_done_of=f_done_of:=by kernel_rfl
theorem s_done_of:FnScope d_done_of.N d_done_of.ps (defScope d_done_of.st):=⟨by kernel_rfl,by kernel_rfl,by kernel_rfl,by decide +kernel,by kernel_rfl,by decide +kernel,by decide +kernel⟩
def h_done_of:He.DefD:=⟨("done_of",none), "done_of", "done_of",defArgs (top 16),defBody (top 16),defScope (top 16),[],[]⟩
theorem e_done:pg.fn d_done=f_done:=by kernel_rfl
theorem s_done:FnScope d_done.N d_done.ps (defScope d_done.st):=⟨by kernel_rfl,by kernel_rfl,by kernel_rfl,by decide +kernel,by kernel_rfl,by decide +kernel,by decide +kernel⟩
def h_done:He.DefD:=⟨("done",none), "done", "done",defArgs (top 17),defBody (top 17),defScope (top 17),[.adr (He.dflAt ("done",none) 0)],[]⟩
theorem e__law_cell_at:pg.fn d__law_cell_at=f__law_cell_at:=by kernel_rfl
theorem s__law_cell_at:FnScope d__law_cell_at.N d__law_cell_at.ps (defScope d__law_cell_at.st):=⟨by kernel_rfl,by kernel_rfl,by kernel_rfl,by decide +kernel,by kernel_rfl,by decide +kernel,by decide +kernel⟩
def h__law_cell_at:He.DefD:=⟨("_law_cell_at",none), "_law_cell_at", "_law_cell_at",defArgs (top 19),defBody (top 19),defScope (top 19),[],[]⟩
theorem e__law_mixed:pg.fn d__law_mixed=f__law_mixed:=by kernel_rfl
theorem s__law_mixed:FnScope d__law_mixed.N d__law_mixed.ps (defScope d__law_mixed.st):=⟨by kernel_rfl,by kernel_rfl,by kernel_rfl,by decide +kernel,by kernel_rfl,by decide +kernel,by decide +kernel⟩
def h__law_mixed:He.DefD:=⟨("_law_mixed",none), "_law_mixed", "_law_mixed",defArgs (top 20),defBody (top 20),defScope (top 20),[],[]⟩
theorem e__law_draw:pg.fn d__law_draw=f__law_draw:=by kernel_rfl
theorem s__law_draw:FnScope d__law_draw.N d__law_draw.ps (defScope d__law_draw.st):=⟨by kernel_rfl,by kernel_rfl,by kernel_rfl,by decide +kernel,by kernel_rfl,by decide +kernel,by decide +kernel⟩
def h__law_draw:He.DefD:=⟨("_law_draw",none), "_law_draw", "_law_draw",defArgs (top 21),defBody (top 21),defScope (top 21),[],[]⟩
theorem e__law_pick:pg.fn d__law_pick=f__law_pick:=by kernel_rfl
theorem s__law_pick:FnScope d__law_pick.N d__law_pick.ps (defScope d__law_pick.st):=⟨by kernel_rfl,by kernel_rfl,by kernel_rfl,by decide +kernel,by kernel_rfl,by decide +kernel,by decide +kernel⟩
def h__law_pick:He.DefD:=⟨("_law_pick",none), "_law_pick", "_law_pick",defArgs (top 22),defBody (top 22),defScope (top 22),[],[]⟩
theorem e__law_a_byte:pg.fn d__law_a_byte=f__law_a_byte:=by kernel_rfl
theorem s__law_a_byte:FnScope d__law_a_byte.N d__law_a_byte.ps (defScope d__law_a_byte.st):=⟨by kernel_rfl,by kernel_rfl,by kernel_rfl,by decide +kernel,by kernel_rfl,by decide +kernel,by decide +kernel⟩
def h__law_a_byte:He.DefD:=⟨("_law_a_byte",none), "_law_a_byte", "_law_a_byte",defArgs (top 23),defBody (top 23),defScope (top 23),[],[]⟩
theorem e_law:pg.fn d_law=f_law:=by kernel_rfl
theorem s_law:FnScope d_law.N d_law.ps (defScope d_law.st):=⟨by kernel_rfl,by kernel_rfl,by kernel_rfl,by decide +kernel,by kernel_rfl,by decide +kernel,by decide +kernel⟩
def h_law:He.DefD:=⟨("law",none), "law", "law",defArgs (top 24),defBody (top 24),defScope (top 24),[],[]⟩
def hn:List He.DefD:=[h_is_whole,h_is_byte,h_blank,h_is_flash,h_need_flash,h_is_step,h_is_worn,h_done_of,h_done,h__law_cell_at,h__law_mixed,h__law_draw,h__law_pick,h__law_a_byte,h_law]
def hf:List He.Fa:=bltNames.map He.Fa.free++[.glo "done"]
abbrev R:PySem.W.OpenRow:=PySem.W.OpenLaw.row PySem.Challenge.rw_boardworks_k29_whole_worn_places
abbrev hk:PySem.W.Hook:=hkK 1000 hf hn cons gt
def ob (s:PySem.W.SharedT):AlK:=obK 1000 hf hn cons gt (HandSHeadRun.getT s)
theorem ob_eq (s:PySem.W.SharedT):ob s=hk.obs s.abs:=obK_eq (HandSHeadRun.getT_eq s)
def lo0:List PySem.Str:=["BoardError", "NoSteps", "NoWorn", "NoFlash", "is_whole", "is_byte", "PLACES", "FULL", "blank", "is_flash", "need_flash", "is_step", "is_worn", "done_of", "done", "_law_cell_at", "_law_mixed", "_law_draw", "_law_pick", "_law_a_byte"]
def lo:List PySem.Str:=lo0
def hn_0:List He.DefD:=[h_is_whole,h_is_byte,h_blank,h_is_flash,h_need_flash,h_is_step,h_is_worn,h_done_of,h_done,h__law_cell_at,h__law_mixed,h__law_draw,h__law_pick,h__law_a_byte,h_law]
open PySem PySem.W PySem.Calls PyProof.Rows in
theorem run_a (w:PySem.World) (os:PySem.OsState):(Dn.topE R.prog 20000 w os).map (fun s=>(HandSHeadRun.looksF R.prog (boot_heap w.params) s.abs,HandSHeadRun.seenQ (PySem.W.view R.prog [24]) lo (importedModules R.prog.main.body) (fun s=>PySem.W.xlAt (PySem.W.view R.prog [24]) [] s&&PySem.W.recOk R.toRowW.records s) s.abs,(hf.all fun f=>f.ok (Dn.Fr 1000 s))&&(cons.all fun p=>cB (Dn.Fr 1000 s) p)))=some (true,PySem.W.openGood (PySem.W.view R.prog [24]) lo,true):=by
 kernel_rfl
open PySem PySem.W PySem.Calls PyProof.Rows in
theorem run_c (w:PySem.World) (os:PySem.OsState):(Dn.topE R.prog 20000 w os).map (fun s=>gt.ok1 (Dn.Fr 1000 s)&&gt.ok2 (Dn.Fr 1000 s)&&gt.ok3 (Dn.Fr 1000 s)&&gt.ok4 (Dn.Fr 1000 s)&&gt.ok5 (Dn.Fr 1000 s)&&gt.ok7 (Dn.Fr 1000 s))=some true:=by
 kernel_rfl
open PySem PySem.W PySem.Calls PyProof.Rows in
theorem run_d (w:PySem.World) (os:PySem.OsState):(Dn.topE R.prog 20000 w os).map (fun s=>gt.ok6 (Dn.Fr 1000 s))=some true:=by
 kernel_rfl
open PySem PySem.W PySem.Calls PyProof.Rows in
theorem run_n0 (w:PySem.World) (os:PySem.OsState):(Dn.topE R.prog 20000 w os).map (fun s=>He.obsD [] hn_0 (Dn.Fr 1000 s))=some (He.valD hn_0):=by
 kernel_rfl
theorem run (w:World):HandSHeadRun.RunEq R (PySem.W.view R.prog [24]) hk ob 20000 lo w:=by
 refine Dn.run_join (r:=R) (fns:=[hn_0]) (by rfl) (run_a w) ?_ (run_c w) (run_d w)
 intro c hc
 simp only[List.mem_cons,List.not_mem_nil,or_false] at hc
 rcases hc with rfl
 ·exact run_n0 w
theorem a_is_whole {K:PySem.W.Frag} (c:SaysK hf hn cons gt K):DfA K pg pr d_is_whole ("is_whole",none):=by
 obtain⟨fd,F⟩:=c.d.def_ 0 (d:=h_is_whole) rfl
 exact⟨by rw[e_is_whole];exact l_is_whole,s_is_whole,fd,⟨_,_,F⟩,F.kp,FunD.bindsN (ps:=d_is_whole.ps) F fun _ _ _ _ _ _ us hl=>match us,hl with|[_,_,_],_=>rfl,fun j hj=>absurd hj (Nat.not_lt_zero _)⟩
theorem a_is_byte {K:PySem.W.Frag} (c:SaysK hf hn cons gt K):DfA K pg pr d_is_byte ("is_byte",none):=by
 obtain⟨fd,F⟩:=c.d.def_ 1 (d:=h_is_byte) rfl
 exact⟨by rw[e_is_byte];exact l_is_byte,s_is_byte,fd,⟨_,_,F⟩,F.kp,FunD.bindsN (ps:=d_is_byte.ps) F fun _ _ _ _ _ _ us hl=>match us,hl with|[_],_=>rfl,fun j hj=>absurd hj (Nat.not_lt_zero _)⟩
theorem a_blank {K:PySem.W.Frag} (c:SaysK hf hn cons gt K):DfA K pg pr d_blank ("blank",none):=by
 obtain⟨fd,F⟩:=c.d.def_ 2 (d:=h_blank) rfl
 exact⟨by rw[e_blank];exact l_blank,s_blank,fd,⟨_,_,F⟩,F.kp,FunD.bindsN (ps:=d_blank.ps) F fun _ _ _ _ _ _ us hl=>match us,hl with|[],_=>rfl,fun j hj=>absurd hj (Nat.not_lt_zero _)⟩
theorem a_is_flash {K:PySem.W.Frag} (c:SaysK hf hn cons gt K):DfA K pg pr d_is_flash ("is_flash",none):=by
 obtain⟨fd,F⟩:=c.d.def_ 3 (d:=h_is_flash) rfl
 exact⟨by rw[e_is_flash];exact l_is_flash,s_is_flash,fd,⟨_,_,F⟩,F.kp,FunD.bindsN (ps:=d_is_flash.ps) F fun _ _ _ _ _ _ us hl=>match us,hl with|[_],_=>rfl,fun j hj=>absurd hj (Nat.not_lt_zero _)⟩
theorem a_need_flash {K:PySem.W.Frag} (c:SaysK hf hn cons gt K):DfA K pg pr d_need_flash ("need_flash",none):=by
 obtain⟨fd,F⟩:=c.d.def_ 4 (d:=h_need_flash) rfl
 exact⟨by rw[e_need_flash];exact l_need_flash,s_need_flash,fd,⟨_,_,F⟩,F.kp,FunD.bindsN (ps:=d_need_flash.ps) F fun _ _ _ _ _ _ us hl=>match us,hl with|[_],_=>rfl,fun j hj=>absurd hj (Nat.not_lt_zero _)⟩
theorem a_is_step {K:PySem.W.Frag} (c:SaysK hf hn cons gt K):DfA K pg pr d_is_step ("is_step",none):=by
 obtain⟨fd,F⟩:=c.d.def_ 5 (d:=h_is_step) rfl
 exact⟨by rw[e_is_step];exact l_is_step,s_is_step,fd,⟨_,_,F⟩,F.kp,FunD.bindsN (ps:=d_is_step.ps) F fun _ _ _ _ _ _ us hl=>match us,hl with|[_],_=>rfl,fun j hj=>absurd hj (Nat.not_lt_zero _)⟩
theorem a_is_worn {K:PySem.W.Frag} (c:SaysK hf hn cons gt K):DfA K pg pr d_is_worn ("is_worn",none):=by
 obtain⟨fd,F⟩:=c.d.def_ 6 (d:=h_is_worn) rfl
 exact⟨by rw[e_is_worn];exact l_is_worn,s_is_worn,fd,⟨_,_,F⟩,F.kp,FunD.bindsN (ps:=d_is_worn.ps) F fun _ _ _ _ _ _ us hl=>match us,hl with|[_],_=>rfl,fun j hj=>absurd hj (Nat.not_lt_zero _)⟩
theorem a_done_of {K:PySem.W.Frag} (c:SaysK hf hn cons gt K):DfA K pg pr d_done_of ("done_of",none):=by
 obtain⟨fd,F⟩:=c.d.def_ 7 (d:=h_done_of) rfl
 exact⟨by rw[e_done_of];exact l_done_of,s_done_of,fd,⟨_,_,F⟩,F.kp,FunD.bindsN (ps:=d_done_of.ps) F fun _ _ _ _ _ _ us hl=>match us,hl with|[_,_,_],_=>rfl,fun j hj=>absurd hj (Nat.not_lt_zero _)⟩
theorem a_done {K:PySem.W.Frag} (c:SaysK hf hn cons gt K):DfA K pg pr d_done ("done",none):=by
 obtain⟨fd,F⟩:=c.d.def_ 8 (d:=h_done) rfl
 obtain⟨ds,hv,hb⟩:=FunD.binds1 (ps:=d_done.ps) F 3 1 (List.cons_ne_nil _ _) rfl (fun T kV doc pm an cdv ct us its hl hi=>match us,hl,its,hi with|[_,_,_],_,[_],_=>⟨_,rfl,rfl⟩)
 cases hv
 refine⟨by rw[e_done];exact l_done,s_done,fd,⟨_,_,F⟩,F.kp,hb,fun j hj => ?_⟩
 match j,hj with
|0,_=>
  obtain⟨ds,hv,hb⟩:=FunD.binds1 (ps:=d_done.ps) F 2 0 (List.cons_ne_nil _ _) rfl (fun T kV doc pm an cdv ct us its hl hi=>match us,hl,its,hi with|[_,_],_,[_],_=>⟨_,rfl,rfl⟩)
  exact⟨ds,_,hv,fun m H=>.cons (Gt.dt (t:=gt) (p:=(("done",none),0)) c.t (.head _) m H) (.nil),hb⟩
theorem a__law_cell_at {K:PySem.W.Frag} (c:SaysK hf hn cons gt K):DfA K pg pr d__law_cell_at ("_law_cell_at",none):=by
 obtain⟨fd,F⟩:=c.d.def_ 9 (d:=h__law_cell_at) rfl
 exact⟨by rw[e__law_cell_at];exact l__law_cell_at,s__law_cell_at,fd,⟨_,_,F⟩,F.kp,FunD.bindsN (ps:=d__law_cell_at.ps) F fun _ _ _ _ _ _ us hl=>match us,hl with|[_,_],_=>rfl,fun j hj=>absurd hj (Nat.not_lt_zero _)⟩
theorem a__law_mixed {K:PySem.W.Frag} (c:SaysK hf hn cons gt K):DfA K pg pr d__law_mixed ("_law_mixed",none):=by
 obtain⟨fd,F⟩:=c.d.def_ 10 (d:=h__law_mixed) rfl
 exact⟨by rw[e__law_mixed];exact l__law_mixed,s__law_mixed,fd,⟨_,_,F⟩,F.kp,FunD.bindsN (ps:=d__law_mixed.ps) F fun _ _ _ _ _ _ us hl=>match us,hl with|[_,_,_],_=>rfl,fun j hj=>absurd hj (Nat.not_lt_zero _)⟩
theorem a__law_draw {K:PySem.W.Frag} (c:SaysK hf hn cons gt K):DfA K pg pr d__law_draw ("_law_draw",none):=by
 obtain⟨fd,F⟩:=c.d.def_ 11 (d:=h__law_draw) rfl
 exact⟨by rw[e__law_draw];exact l__law_draw,s__law_draw,fd,⟨_,_,F⟩,F.kp,FunD.bindsN (ps:=d__law_draw.ps) F fun _ _ _ _ _ _ us hl=>match us,hl with|[_,_,_],_=>rfl,fun j hj=>absurd hj (Nat.not_lt_zero _)⟩
theorem a__law_pick {K:PySem.W.Frag} (c:SaysK hf hn cons gt K):DfA K pg pr d__law_pick ("_law_pick",none):=by
 obtain⟨fd,F⟩:=c.d.def_ 12 (d:=h__law_pick) rfl
 exact⟨by rw[e__law_pick];exact l__law_pick,s__law_pick,fd,⟨_,_,F⟩,F.kp,FunD.bindsN (ps:=d__law_pick.ps) F fun _ _ _ _ _ _ us hl=>match us,hl with|[_,_,_],_=>rfl,fun j hj=>absurd hj (Nat.not_lt_zero _)⟩
theorem a__law_a_byte {K:PySem.W.Frag} (c:SaysK hf hn cons gt K):DfA K pg pr d__law_a_byte ("_law_a_byte",none):=by
 obtain⟨fd,F⟩:=c.d.def_ 13 (d:=h__law_a_byte) rfl
 exact⟨by rw[e__law_a_byte];exact l__law_a_byte,s__law_a_byte,fd,⟨_,_,F⟩,F.kp,FunD.bindsN (ps:=d__law_a_byte.ps) F fun _ _ _ _ _ _ us hl=>match us,hl with|[_,_],_=>rfl,fun j hj=>absurd hj (Nat.not_lt_zero _)⟩
theorem a_law {K:PySem.W.Frag} (c:SaysK hf hn cons gt K):DfA K pg pr d_law ("law",none):=by
 obtain⟨fd,F⟩:=c.d.def_ 14 (d:=h_law) rfl
 exact⟨by rw[e_law];exact l_law,s_law,fd,⟨_,_,F⟩,F.kp,FunD.bindsN (ps:=d_law.ps) F fun _ _ _ _ _ _ us hl=>match us,hl with|[_],_=>rfl,fun j hj=>absurd hj (Nat.not_lt_zero _)⟩
def keys:List (Str×Nat×(Str×Option Str)):=([("is_whole",3,("is_whole",none)),("is_byte",1,("is_byte",none)),("blank",0,("blank",none)),("is_flash",1,("is_flash",none)),("need_flash",1,("need_flash",none)),("is_step",1,("is_step",none)),("is_worn",1,("is_worn",none)),("done_of",3,("done_of",none)),("done",3,("done",none)),("_law_cell_at",2,("_law_cell_at",none)),("_law_mixed",3,("_law_mixed",none)),("_law_draw",3,("_law_draw",none)),("_law_pick",3,("_law_pick",none)),("_law_a_byte",2,("_law_a_byte",none)),("law",1,("law",none))]:List (Str×Nat×(Str×Option Str)))
theorem keys_ok {K:PySem.W.Frag} (c:SaysK hf hn cons gt K):∀r∈keys,∃d∈pg.defs,d.x=r.1∧d.ps.length=r.2.1∧DfA K pg pr d r.2.2:=by
 intro r hr
 simp only[keys,List.mem_append,List.mem_cons,List.not_mem_nil,or_false,or_assoc] at hr
 rcases hr with rfl|rfl|rfl|rfl|rfl|rfl|rfl|rfl|rfl|rfl|rfl|rfl|rfl|rfl|rfl
 ·exact⟨d_is_whole,.head _,rfl,rfl,a_is_whole c⟩
 ·exact⟨d_is_byte,.tail _ (.head _),rfl,rfl,a_is_byte c⟩
 ·exact⟨d_blank,.tail _ (.tail _ (.head _)),rfl,rfl,a_blank c⟩
 ·exact⟨d_is_flash,.tail _ (.tail _ (.tail _ (.head _))),rfl,rfl,a_is_flash c⟩
 ·exact⟨d_need_flash,.tail _ (.tail _ (.tail _ (.tail _ (.head _)))),rfl,rfl,a_need_flash c⟩
 ·exact⟨d_is_step,.tail _ (.tail _ (.tail _ (.tail _ (.tail _ (.head _))))),rfl,rfl,a_is_step c⟩
 ·exact⟨d_is_worn,.tail _ (.tail _ (.tail _ (.tail _ (.tail _ (.tail _ (.head _)))))),rfl,rfl,a_is_worn c⟩
 ·exact⟨d_done_of,.tail _ (.tail _ (.tail _ (.tail _ (.tail _ (.tail _ (.tail _ (.head _))))))),rfl,rfl,a_done_of c⟩
 ·exact⟨d_done,.tail _ (.tail _ (.tail _ (.tail _ (.tail _ (.tail _ (.tail _ (.tail _ (.head _)))))))),rfl,rfl,a_done c⟩
 ·exact⟨d__law_cell_at,.tail _ (.tail _ (.tail _ (.tail _ (.tail _ (.tail _ (.tail _ (.tail _ (.tail _ (.head _))))))))),rfl,rfl,a__law_cell_at c⟩
 ·exact⟨d__law_mixed,.tail _ (.tail _ (.tail _ (.tail _ (.tail _ (.tail _ (.tail _ (.tail _ (.tail _ (.tail _ (.head _)))))))))),rfl,rfl,a__law_mixed c⟩
 ·exact⟨d__law_draw,.tail _ (.tail _ (.tail _ (.tail _ (.tail _ (.tail _ (.tail _ (.tail _ (.tail _ (.tail _ (.tail _ (.head _))))))))))),rfl,rfl,a__law_draw c⟩
 ·exact⟨d__law_pick,.tail _ (.tail _ (.tail _ (.tail _ (.tail _ (.tail _ (.tail _ (.tail _ (.tail _ (.tail _ (.tail _ (.tail _ (.head _)))))))))))),rfl,rfl,a__law_pick c⟩
 ·exact⟨d__law_a_byte,.tail _ (.tail _ (.tail _ (.tail _ (.tail _ (.tail _ (.tail _ (.tail _ (.tail _ (.tail _ (.tail _ (.tail _ (.tail _ (.head _))))))))))))),rfl,rfl,a__law_a_byte c⟩
 ·exact⟨d_law,.tail _ (.tail _ (.tail _ (.tail _ (.tail _ (.tail _ (.tail _ (.tail _ (.tail _ (.tail _ (.tail _ (.tail _ (.tail _ (.tail _ (.head _)))))))))))))),rfl,rfl,a_law c⟩
theorem defs_ok:∀d∈pg.defs,pr.fns d.x=some (pg.fn d)∧FnScope d.N d.ps (defScope d.st):=by
 intro d hd
 simp only[pg,List.mem_cons,List.not_mem_nil,or_false] at hd
 rcases hd with rfl|rfl|rfl|rfl|rfl|rfl|rfl|rfl|rfl|rfl|rfl|rfl|rfl|rfl|rfl
 ·exact⟨by rw[e_is_whole];exact l_is_whole,s_is_whole⟩
 ·exact⟨by rw[e_is_byte];exact l_is_byte,s_is_byte⟩
 ·exact⟨by rw[e_blank];exact l_blank,s_blank⟩
 ·exact⟨by rw[e_is_flash];exact l_is_flash,s_is_flash⟩
 ·exact⟨by rw[e_need_flash];exact l_need_flash,s_need_flash⟩
 ·exact⟨by rw[e_is_step];exact l_is_step,s_is_step⟩
 ·exact⟨by rw[e_is_worn];exact l_is_worn,s_is_worn⟩
 ·exact⟨by rw[e_done_of];exact l_done_of,s_done_of⟩
 ·exact⟨by rw[e_done];exact l_done,s_done⟩
 ·exact⟨by rw[e__law_cell_at];exact l__law_cell_at,s__law_cell_at⟩
 ·exact⟨by rw[e__law_mixed];exact l__law_mixed,s__law_mixed⟩
 ·exact⟨by rw[e__law_draw];exact l__law_draw,s__law_draw⟩
 ·exact⟨by rw[e__law_pick];exact l__law_pick,s__law_pick⟩
 ·exact⟨by rw[e__law_a_byte];exact l__law_a_byte,s__law_a_byte⟩
 ·exact⟨by rw[e_law];exact l_law,s_law⟩
theorem wh_ok {K:PySem.W.Frag} (c:SaysK hf hn cons gt K):WhF K gt:=by
 intro f names exs e
 cases e
theorem kw_done {K:PySem.W.Frag} (c:SaysK hf hn cons gt K):∃fd gg,At K d_done (He.fAd K ("done",none)) fd∧PySem.W.keepIn K (.ref (He.fAd K ("done",none)))=true∧KBn K fd d_done.ps 2 (d_done.ps.drop 2) gg (fun vs zs=>vs++zs):=by
 obtain⟨fd,F⟩:=c.d.def_ 8 (d:=h_done) rfl
 exact⟨fd,_,⟨_,_,F⟩,F.kp,kbn_dfl (ps:=d_done.ps) F 2 (d_done.ps.drop 2) (List.cons_ne_nil _ _) fun _ _ _ _ _ _ _ us its ws hl hi hw=>match us,hl,its,hi,ws,hw with|[_,_],_,[_],_,[_],_=>⟨_,rfl,rfl⟩⟩
theorem kws_ok {K:PySem.W.Frag} {h:Heap} {mg:Str→Option Value} (X:K.In h) (G:h.Ns mainGlobals mg) (c:SaysK hf hn cons gt K):∀x n ps,pg.kw x=some (n,ps)→∃d∈pg.defs,d.x=x∧d.ps=ps∧∃fa fd gg,At K d fa fd∧PySem.W.keepIn K (.ref fa)=true∧mg x=some (.ref fa)∧KBn K fd ps n (ps.drop n) gg (fun vs zs=>vs++zs):=by
 intro x n ps e
 have hm:=PySem.mem_of_lookup (show kwL.lookup x=some (n,ps) from e)
 simp only[kwL,List.mem_cons,List.not_mem_nil,or_false,Prod.mk.injEq] at hm
 rcases hm with ⟨rfl,rfl,rfl⟩
 ·obtain⟨fd,gg,a1,a2,a3⟩:=kw_done c
  exact⟨d_done,.tail _ (.tail _ (.tail _ (.tail _ (.tail _ (.tail _ (.tail _ (.tail _ (.head _)))))))),rfl,rfl,_,fd,gg,a1,a2,He.glo_ok X G (c.d.fact (bltNames.length+0) (f:=.glo "done") (by kernel_rfl)),a3⟩
theorem kds_ok {K:PySem.W.Frag} {h:Heap} {mg:Str→Option Value} (X:K.In h) (G:h.Ns mainGlobals mg) (c:SaysK hf hn cons gt K):∀x n ds,pg.kd x=some (n,ds)→∃d∈pg.defs,d.x=x∧d.ps.length=n+ds.length∧∃fa fd,At K d fa fd∧PySem.W.keepIn K (.ref fa)=true∧mg x=some (.ref fa)∧∃us vs,Vals vs us∧(∀m H,VRs K m H ds vs)∧Binds K fd d.ps us:=by
 intro x n ds e
 cases e
theorem linked {K:PySem.W.Frag} {h:Heap} {mg:Str→Option Value} (X:K.In h) (G:h.Ns mainGlobals mg) (c:SaysK hf hn cons gt K):Lk K mg pg pr:=by
 refine lk_of (t:=gt) X G (fun x hx => ?_) (fun x d hx=>cBs_ok X G c.c x d hx) rfl rfl c.t keys (keys_ok c) defs_ok (by decide +kernel) (wh_ok c) (kws_ok X G c) (kds_ok X G c)
 obtain⟨i,hi⟩:=List.mem_iff_getElem?.mp hx
 refine He.free_ok X G (c.d.fact i (f:=.free x) ?_)
 unfold hf
 rw[List.getElem?_append_left (by rw[List.length_map];exact (List.getElem?_eq_some_iff.mp hi).1),List.getElem?_map,hi] <;> rfl
theorem glo_law {K:PySem.W.Frag} (h:gt.ok K=true):(He.Fa.glo "law").ok K=true:=by
 obtain⟨_,h⟩:=b2 h
 obtain⟨_,h⟩:=b2 h
 obtain⟨_,h⟩:=b2 h
 obtain⟨_,h⟩:=b2 h
 obtain⟨_,h⟩:=b2 h
 obtain⟨_,h⟩:=b2 h
 obtain⟨h,_⟩:=b2 h
 exact al h (a:=(("law":Str),(1:Nat))) (by decide +kernel)
theorem facts {P:Program} {w:World} {K:PySem.W.Frag} {h:Heap} {mg:Str→Option Value} {f:Addr} (X:K.In h) (G:h.Ns mainGlobals mg) (hfa:mg ("law":Str)=some (.ref f)) (c:SaysK hf hn cons gt K) :
  ∃fd:FuncData,(∀(s:Shared) (v:Value),BindsTo s fd ⟨[v],[]⟩ [("script",v)])∧∀base:Heap,K.In base→base.Ns mainGlobals mg→FnOk P w K mg base (CXw P) (2*40) f fd ["script"] (spF K 1 (pr.fn 40 "law")):=by
 have L:=linked X G c
 obtain⟨fd,F⟩:=c.d.def_ 14 (d:=h_law) rfl
 obtain⟨d,hd,hx,hn,fa,fd2,F2,kp,g2,_⟩:=L.fnd "law" 1 (by kernel_rfl)
 have e:=hfa.symm.trans g2
 cases e
 have e3:f=He.fAd K ("law",none):=by
  have z:=He.glo_ok X G (x := "law") (glo_law c.t)
  rw[hfa] at z
  cases z
  rfl
 subst e3
 have b:=FunD.bindsA (ps:=["script"]) F fun _ _ _ _ _ _ us hl=>match us,hl with|[_],_=>rfl
 exact⟨fd,fun s v=>b s [v] rfl,fun base _ _=>wideFn (fns_ok L 40 d_law (.tail _ (.tail _ (.tail _ (.tail _ (.tail _ (.tail _ (.tail _ (.tail _ (.tail _ (.tail _ (.tail _ (.tail _ (.tail _ (.tail _ (.head _))))))))))))))) _ fd ⟨_,_,F⟩)⟩
end Hb
open PySem PySem.W PySem.Calls PyProof.Rows
theorem Hb.closes (hP:∀ns:List Int,ns.length≤63→∃st,Hb.pr.fn 40 "law" [.fz (ns.map Dn.D.int)] []=.ok (.bl true) st):PySem.Challenge.rw_boardworks_k29_whole_worn_places.Holds:=by
 w_on;o_law
 refine HandSHeadRun.head_any (r:=OpenLaw.row PySem.Challenge.rw_boardworks_k29_whole_worn_places) (q:=view (OpenLaw.row PySem.Challenge.rw_boardworks_k29_whole_worn_places).prog [24]) (H:=Hb.hk) (ob:=Hb.ob) (M:=20000) (loose:=Hb.lo) (d:=HandSHeadRun.topDef (OpenLaw.row PySem.Challenge.rw_boardworks_k29_whole_worn_places).prog 24) (kwd:=[]) Hb.ob_eq
  (by kernel_rfl) (fun s=>by kernel_rfl) Hb.run (by kernel_rfl) (by kernel_rfl) (by kernel_rfl) (by rfl) (by first|assumption|decide +kernel) (by decide +kernel) ⟨rfl,rfl,rfl,rfl,rfl,by decide +kernel⟩ ?hw ?hc
 case hw=>w_witness2
 case hc=>
  refine L2.walk_ofE (l:=PySem.Challenge.rw_boardworks_k29_whole_worn_places) (n:=63) (k:=2*40) (x := "script") (CX:=Dn.CXw (PySem.Challenge.rw_boardworks_k29_whole_worn_places).prog) rfl (by decide) (by kernel_rfl) ⟨rfl,by decide,by decide⟩ ?F (fun H s e s' z=>Dn.cx_no H s e s' z)
  intro w mg fa h Y G hmg0
  obtain⟨K,KX,c⟩:=Y
  have hmg:mg ("law":PySem.Str)=some (.ref fa):=by
   have e:(HandSHeadRun.topDef (OpenLaw.row PySem.Challenge.rw_boardworks_k29_whole_worn_places).prog 24).name=("law":PySem.Str):=by kernel_rfl
   rw[←e]
   exact hmg0
  obtain⟨fd,hb,hF⟩:=Hb.facts (P:=(PySem.Challenge.rw_boardworks_k29_whole_worn_places).prog) (w:=w) KX G hmg c
  exact⟨K,fd,Dn.spF K 1 (Hb.pr.fn 40 "law"),KX,hb,fun H a ns hl hO hS=>Dn.law_sp hP H a ns hl hO hS,hF⟩
namespace Dn
theorem forL_inv {P:Env→Prop} {turn:D→Env→Sto→RS} {st:Sto}:∀(xs:List D) (ρ:Env),(∀d ρ,d∈xs→P ρ→∃ρ',turn d ρ st=.ok (.nx ρ') st∧P ρ')→P ρ→∃ρ',forL [] turn xs ρ st=.ok (.nx ρ') st∧P ρ'
|[],ρ,_,h=>⟨ρ,by simp[forL,grd],h⟩
|d::r,ρ,ht,h=>by
  obtain⟨ρ1,e,h1⟩:=ht d ρ List.mem_cons_self h
  obtain⟨ρ2,e2,h2⟩:=forL_inv r ρ1 (fun d ρ hd=>ht d ρ (List.mem_cons_of_mem _ hd)) h1
  exact⟨ρ2,by simp[forL,grd,e,e2],h2⟩
theorem cmpOks_ints (n:Nat):∀ns:List Int,cmpOks n (ns.map D.int)=true
|[]=>by simp[cmpOks]
|i::r=>by rw[List.map_cons,cmpOks,cmpOks_ints n r];cases n <;> simp[cmpOk]
theorem eqvs_nil:∀xs:List D,eqvs xs []=xs.isEmpty
|[]=>by simp[eqvs]
|_::_=>by simp[eqvs]
theorem atI_nat {α:Type} (xs:List α) (i:Nat):atI xs (i:Int)=xs[i]?:=by
 unfold atI ixN
 rw[if_pos (Int.natCast_nonneg i)]
 by_cases h:i<xs.length
 ·rw[if_pos (by omega)];rfl
 ·rw[if_neg (by omega)];rw[List.getElem?_eq_none (by omega)];rfl
section
variable {X:Cf} {s:S} {r:List S} {ρ ρ':Env} {st st':Sto} {d:D} {res:RS}
theorem exes_nx (e:exe X s ρ st=.ok (.nx ρ') st'):exes X (s::r) ρ st=exes X r ρ' st':=by rw[exes,e];rfl
theorem exes_rt (e:exe X s ρ st=.ok (.rt d) st'):exes X (s::r) ρ st=.ok (.rt d) st':=by rw[exes,e];rfl
theorem nx (e:exe X s ρ st=.ok (.nx ρ') st') (h:exes X r ρ' st'=res):exes X (s::r) ρ st=res:=(exes_nx e).trans h
theorem exe_for {t:G} {ik:Ik} {ia:List E} {b:List S} {ds xs:List D} {P:Env→Prop} (h:dens X ia ρ st=.ok ds st) (hw:walk ik ds st=.ok (xs,[]) st) (hP:P ρ)
  (ht:∀d ρ,d∈xs→P ρ→∃ρ1 ρ',t.set d ρ=some ρ1∧exes X b ρ1 st=.ok (.nx ρ') st∧P ρ'):∃ρ',exe X (.for_ t ik ia b) ρ st=.ok (.nx ρ') st∧P ρ':=by
 obtain⟨ρ',e,h'⟩:=forL_inv (P:=P) (turn:=fun d ρ st=>match t.set d ρ with
 |some ρ'=>exes X b ρ' st
 |none=>.no) (st:=st) xs ρ (fun d ρ hd hρ=>by
   obtain⟨ρ1,ρ',e1,e2,h2⟩:=ht d ρ hd hρ
   exact⟨ρ',by simp only[e1,e2],h2⟩) hP
 refine⟨ρ',?_,h'⟩
 rw[exe,h]
 simp only[andS,hw]
 exact e
theorem fn_ret {f:Fn} {args:List D} (h:args.length=f.np) (h0:args.map some++List.replicate (f.n - args.length) none=ρ) (e:exes X f.body ρ st=.ok (.rt d) st'):runFn X f args st=.ok d st':=by rw[runFn_eq h,h0,e];rfl
theorem fn_nx {f:Fn} {args:List D} (h:args.length=f.np) (h0:args.map some++List.replicate (f.n - args.length) none=ρ) (e:exes X f.body ρ st=.ok (.nx ρ') st'):runFn X f args st=.ok .non st':=by rw[runFn_eq h,h0,e];rfl
end
mutual
theorem lim_mono {n:Nat}:∀d:D,D.lim 0 d=true→D.lim n d=true
|.ref k,h=>by simp[D.lim] at h
|.tup xs,h=>by rw[D.lim] at h ⊢;exact lims_mono xs h
|.lst xs,h=>by rw[D.lim] at h ⊢;exact lims_mono xs h
|.fz xs,h=>by rw[D.lim] at h ⊢;exact lims_mono xs h
|.non,_=>rfl
|.bl _,_=>rfl
|.int _,_=>rfl
|.str _,_=>rfl
theorem lims_mono {n:Nat}:∀d:List D,D.lims 0 d=true→D.lims n d=true
|[],_=>rfl
|a::r,h=>by
  rw[D.lims,Bool.and_eq_true] at h ⊢
  exact⟨lim_mono a h.1,lims_mono r h.2⟩
end
theorem oldOk_refl {n:Nat}:∀st:Sto,oldOk n st st=true
|[]=>by simp[oldOk]
|a::r=>by simp[oldOk,oldOk_refl r]
theorem oldOk_app {n:Nat} {e:Sto}:∀st:Sto,oldOk n st (st++e)=true
|[]=>by simp[oldOk]
|a::r=>by simp[oldOk,oldOk_app r]
theorem callV_pure {m:M D} {st ext:Sto} {d:D} (e:m st=.ok d (st++ext)) (hd:D.lim 0 d=true):callV false m st=.ok d st:=by
 unfold callV
 rw[e]
 simp only[oldOk_app,if_true]
 have h:=lim_mono (n:=st.length) d hd
 have:unb st.length (st++ext) false d=some d:=by
  unfold unb
  cases d <;> simp_all [D.lim]
 rw[this]
 simp
theorem callV_pure0 {m:M D} {st:Sto} {d:D} (e:m st=.ok d st) (hd:D.lim 0 d=true):callV false m st=.ok d st:=callV_pure (ext:=[]) (by rw[List.append_nil];exact e) hd
theorem callV_new {b:Bool} {m:M D} {st ext:Sto} {j:Nat} {xs:List D} (e:m st=.ok (.ref (st.length+j)) (st++ext)) (hj:ext[j]?=some (.lst xs)) (hx:D.lims 0 xs=true):callV b m st=.ok (.lst xs) st:=by
 unfold callV
 rw[e]
 simp only[oldOk_app,if_true]
 have:unb st.length (st++ext) b (.ref (st.length+j))=some (.lst xs):=by
  unfold unb
  have h1:¬st.length+j<st.length:=by omega
  have h2:(st++ext)[st.length+j]?=some (.lst xs):=by rw[List.getElem?_append_right (by omega),Nat.add_sub_cancel_left,hj]
  simp only[h1,if_false,h2,lims_mono xs hx,if_true]
 rw[this]
 simp
theorem lims_rep (n t:Nat):D.lims n (List.replicate t (.int 0))=true:=by
 induction t with
|zero=>rfl
|succ t ih=>rw[List.replicate_succ,D.lims,ih];rfl
def T (t:Nat) (r:Sto):Sto:=.lst (List.replicate t (.int 0))::r
theorem T_get (t:Nat) (r:Sto):(T t r)[0]?=some (.lst (List.replicate t (.int 0))):=rfl
theorem callV_T {m:M D} {t t':Nat} {r:Sto} {d:D} (e:m (T t r)=.ok d (T t' r)) (hd:D.lim 0 d=true):callV false m (T t r)=.ok d (T t' r):=by
 unfold callV
 rw[e]
 have h1:oldOk (T t r).length (T t r) (T t' r)=true:=by
  unfold T
  simp only[oldOk,Ob.lim,Ob.ds,lims_rep,Bool.or_true,Bool.true_and]
  exact oldOk_refl r
 simp only[h1,if_true]
 have h:=lim_mono (n:=(T t r).length) d hd
 have:unb (T t r).length (T t' r) false d=some d:=by
  unfold unb
  cases d <;> simp_all [D.lim]
 rw[this]
 simp[T]
theorem T_app (t:Nat) (r:Sto) (h:t≤1000000):meOp .append (.ref 0) [.int 0] (T t r)=.ok .non (T (t+1) r):=by
 simp only[meOp,T_get,List.length_replicate]
 rw[if_pos (show szOk t=true from Nat.ble_eq_true_of_le h)]
 rw[←List.replicate_succ' (n:=t)] <;> rfl
end Dn
namespace Dn
theorem compL_inv {gd:Gd} {turn:D→M Unit} {P:List D→Sto→Prop} (hg:∀r st,P r st→grd st gd=true) (hs:∀d r st,P (d::r) st→∃st',turn d st=.ok () st'∧P r st'):∀(xs:List D) (st:Sto),P xs st→∃st',compL gd turn xs st=.ok () st'∧P [] st'
|[],st,h=>⟨st,by rw[compL];simp only[hg _ _ h,if_true],h⟩
|d::r,st,h=>by
  obtain⟨st1,e1,h1⟩:=hs d r st h
  obtain⟨st2,e2,h2⟩:=compL_inv hg hs r st1 h1
  refine⟨st2,?_,h2⟩
  rw[compL]
  simp only[hg _ _ h,if_true]
  unfold M.bind noEx
  rw[e1]
  exact e2
theorem app1_ok' {st r:Sto} {acc:List D} {y:D} (h:acc.length≤1000000):app1 st.length y (st++[.lst acc])=.ok () (st++[.lst (acc++[y])]):=by
 unfold app1
 rw[List.getElem?_append_right (Nat.le_refl _),Nat.sub_self]
 simp only[List.getElem?_cons_zero]
 rw[if_pos (show szOk acc.length=true from Nat.ble_eq_true_of_le h)]
 congr 1
 rw[List.set_append_right _ _ (Nat.le_refl _),Nat.sub_self] <;> rfl
theorem lims_app {n:Nat}:∀{xs ys:List D},D.lims n (xs++ys)=(D.lims n xs&&D.lims n ys)
|[],ys=>by simp[D.lims]
|a::r,ys=>by rw[List.cons_append,D.lims,lims_app,D.lims,Bool.and_assoc]
section
variable {X:Cf} {own:List Nat} {t:G} {ik:Ik} {ia cs:List E} {e c:E} {ρ:Env} {st:Sto} {ds xs:List D} {gd:Gd}
end
section
variable {test:Env→M Bool} {turn:Env→Sto→RS} {n:Nat} {ρ ρ':Env} {st st1 st':Sto} {d:D}
end
theorem alls_int:∀xs:List Int,alls isInt (xs.map D.int)=some xs
|[]=>rfl
|x::r=>by rw[List.map_cons,alls,alls_int r];rfl
theorem eqI {c d:Int} {st:Sto}:cmpOp .Eq (.int c) (.int d) st=.ok (.bl (decide (c=d))) st:=by
 simp[cmpOp,derf,cmpOk,eqv]
theorem forL_inv2 {turn:D→Env→Sto→RS} {P:List D→Env→Sto→Prop} (hs:∀d r ρ st,P (d::r) ρ st→∃ρ' st',turn d ρ st=.ok (.nx ρ') st'∧P r ρ' st'):∀(xs:List D) (ρ:Env) (st:Sto),P xs ρ st→∃ρ' st',forL [] turn xs ρ st=.ok (.nx ρ') st'∧P [] ρ' st'
|[],ρ,st,h=>⟨ρ,st,by simp[forL,grd],h⟩
|d::r,ρ,st,h=>by
  obtain⟨ρ1,st1,e1,h1⟩:=hs d r ρ st h
  obtain⟨ρ2,st2,e2,h2⟩:=forL_inv2 hs r ρ1 st1 h1
  exact⟨ρ2,st2,by simp[forL,grd,e1,e2],h2⟩
theorem exe_for2 {X:Cf} {ρ:Env} {st st1:Sto} {t:G} {ik:Ik} {ia:List E} {b:List S} {ds xs:List D} {P:List D→Env→Sto→Prop} (h:dens X ia ρ st=.ok ds st1) (hw:walk ik ds st1=.ok (xs,[]) st1) (hP:P xs ρ st1)
  (ht:∀d r ρ st,P (d::r) ρ st→∃ρ1 ρ' st',t.set d ρ=some ρ1∧exes X b ρ1 st=.ok (.nx ρ') st'∧P r ρ' st'):∃ρ' st',exe X (.for_ t ik ia b) ρ st=.ok (.nx ρ') st'∧P [] ρ' st':=by
 obtain⟨ρ',st',e,h'⟩:=forL_inv2 (P:=P) (turn:=fun d ρ st=>match t.set d ρ with
 |some ρ'=>exes X b ρ' st
 |none=>.no) (fun d r ρ st hρ=>by
   obtain⟨ρ1,ρ',st',e1,e2,h2⟩:=ht d r ρ st hρ
   exact⟨ρ',st',by simp only[e1,e2],h2⟩) xs ρ st1 hP
 refine⟨ρ',st',?_,h'⟩
 rw[exe,h]
 simp only[andS,hw]
 exact e
end Dn
namespace Dn
section
variable {X:Cf} {own:List Nat} {t:G} {ik:Ik} {ia cs:List E} {e c:E} {ρ:Env} {st:Sto} {ds xs:List D} {gd:Gd}
theorem lc_zip {st0:Sto} {ys:List D} (h1:dens X ia ρ st0=.ok ds st) (h2:walk ik ds st=.ok (xs,gd) st) (hg:∀acc,grd (st++[.lst acc]) gd=true) (hl:xs.length≤1000000) (hxy:xs.length=ys.length)
  (hy:∀p∈xs.zip ys,∃ρd,t.set p.1 (wipe ρ own)=some ρd∧D.lim 0 p.2=true∧∀acc,den X e ρd (st++[.lst acc])=.ok p.2 (st++[.lst acc])) :
  den X (.lc own t ik ia [] e) ρ st0=.ok (.lst ys) st:=by
 rw[den]
 unfold M.bind
 rw[h1]
 simp only[h2]
 unfold compM
 obtain⟨st',e1,q,acc,he,he2,hql,rfl,hlim⟩:=compL_inv (gd:=gd) (turn:=fun d=>M.bind (orNo (t.set d (wipe ρ own))) fun ρ'=>M.bind (tsts X [] ρ') fun b=>if b then M.bind (den X e ρ') fun y=>app1 st.length y else M.pure ())
  (P:=fun r s=>∃q acc,(∃p,xs=p++r∧p.length=acc.length)∧ys=acc++q∧q.length=r.length∧s=st++[.lst acc]∧D.lims 0 acc=true) (by rintro r s ⟨q,acc,_,_,_,rfl,_⟩;exact hg acc) (by
   rintro d r s ⟨q,acc,⟨p,hp,hpl⟩,hys,hql,rfl,hlim⟩
   cases q with
  |nil=>simp at hql
  |cons v q=>
    have hm:(d,v)∈xs.zip ys:=by
     rw[hp,hys,List.zip_append hpl,List.zip_cons_cons]
     simp
    obtain⟨ρd,e1,e6,e2⟩:=hy _ hm
    have hal:acc.length≤1000000:=by
     rw[hp,List.length_append] at hl
     omega
    refine⟨st++[.lst (acc++[v])],?_,q,acc++[v],⟨p++[d],by rw[hp];simp,by simp[hpl]⟩,by rw[hys];simp,by simpa using hql,rfl,by rw[lims_app,hlim];simp[D.lims];exact e6⟩
    have e3:tsts X [] ρd (st++[.lst acc])=.ok true (st++[.lst acc]):=by rw[tsts];rfl
    simp only[M.bind,orNo,e1,M.pure,e3,if_true,e2]
    exact app1_ok' (r:=[]) hal) xs (st++[.lst []]) ⟨ys,[],⟨[],rfl,rfl⟩,rfl,hxy.symm,rfl,rfl⟩
 have hq:q=[]:=List.length_eq_zero_iff.mp hql
 subst hq
 rw[List.append_nil] at he2
 subst he2
 refine callV_new (ext:=[.lst ys]) (j:=0) ?_ rfl hlim
 show M.bind (compL gd _ xs) _ _=_
 unfold M.bind at e1 ⊢
 rw[e1] <;> rfl
end
end Dn
namespace Dn
section
variable {X:Cf} {own:List Nat} {t:G} {ik:Ik} {ia cs:List E} {e c:E} {ρ:Env} {st:Sto} {ds xs:List D} {gd:Gd} {α:Type} {f g:α→D} {l:List α}
theorem lc_map {st0:Sto} (h1:dens X ia ρ st0=.ok ds st) (h2:walk ik ds st=.ok (l.map f,gd) st) (hg:∀acc,grd (st++[.lst acc]) gd=true) (hl:l.length≤1000000)
  (hy:∀a∈l,∃ρd,t.set (f a) (wipe ρ own)=some ρd∧D.lim 0 (g a)=true∧∀acc,den X e ρd (st++[.lst acc])=.ok (g a) (st++[.lst acc])) :
  den X (.lc own t ik ia [] e) ρ st0=.ok (.lst (l.map g)) st:=by
 refine lc_zip h1 h2 hg (by rw[List.length_map];exact hl) (by simp) ?_
 intro p hp
 rw[List.zip_map'] at hp
 obtain⟨a,ha,rfl⟩:=List.mem_map.mp hp
 exact hy a ha
end
theorem alls_blm {α:Type} {p:α→Bool} (l:List α):alls isBl (l.map fun a=>D.bl (p a))=some (l.map p):=by
 induction l with
|nil=>rfl
|cons a r ih=>simp[alls,ih,isBl]
theorem all_map {α:Type} {p:α→Bool} {l:List α} {st:Sto}:biOp .all [.lst (l.map fun a=>D.bl (p a))] st=.ok (.bl (l.all p)) st:=by
 simp only[biOp,listOf,alls_blm]
 simp[List.all_map]
theorem any_map {α:Type} {p:α→Bool} {l:List α} {st:Sto}:biOp .any [.lst (l.map fun a=>D.bl (p a))] st=.ok (.bl (l.any p)) st:=by
 simp only[biOp,listOf,alls_blm]
 simp[List.any_map]
theorem dens1 {X:Cf} {e:E} {ρ:Env} {st st1:Sto} {d:D} (h:den X e ρ st=.ok d st1):dens X [e] ρ st=.ok [d] st1:=by
 rw[dens,M.bind,h]
 simp only[dens,M.bind,M.pure]
theorem t_bi {X:Cf} {f:Bi} {es:List E} {ρ:Env}:tst X (.bi f es) ρ=M.bind (den X (.bi f es) ρ) truth:=by rw[tst] <;> simp
theorem bi1 {X:Cf} {b:Bi} {e:E} {ρ:Env} {st st1:Sto} {d d':D} (h:den X e ρ st=.ok d st1) (h2:biOp b [d] st1=.ok d' st1):den X (.bi b [e]) ρ st=.ok d' st1:=by
 rw[den,M.bind,dens1 h]
 exact h2
theorem t_den {X:Cf} {e:E} {ρ:Env} {st st1:Sto} {b:Bool} (hp:tst X e ρ=M.bind (den X e ρ) truth) (h:den X e ρ st=.ok (.bl b) st1):tst X e ρ st=.ok b st1:=by
 rw[hp,M.bind,h] <;> rfl
theorem ifs_e {X:Cf} {c:E} {a:List S} {ρ:Env} {st st':Sto} (h:tst X c ρ st=.ok false st'):exe X (.ifs c a []) ρ st=.ok (.nx ρ) st':=by rw[exe,h];simp[andS,exes]
end Dn
namespace Hb
open PySem Dn
theorem cell_ok (k:Nat) (ns:List Int) (i:Nat) (st:Sto) (hn:ns.length≤63):∃r,pr.fn (k+1) "_law_cell_at" [.fz (ns.map D.int),.int i] st=.ok (.int r) st:=by
 rw[n__law_cell_at]
 by_cases h1:i<ns.length
 ·refine⟨ns[i],?_⟩
  have h1':(i:Int)<(ns.length:Int):=by omega
  simp[f__law_cell_at,runFn,exes,exe,tst,den,dens,tsts,part,andS,andC,M.bind,M.pure,Dn.orNo,Dn.no,biOp,Dn.listOf,cmpOp,Dn.truth,ixOp,derf,cmpOk,cmpOks,eqv,whenM,szOk,binOp,augOp,walk,Dn.asInt?,D.lim,D.lims,meOp,rtM,rtOf,meHas,isiM,seqOf,Dn.G.set,Dn.G.sets,isBl,isiOp,slOp,gdOf,boxed,Dn.push,setIx,catOf,inD,inF,inL,flatD,atI_nat,h1,h1']
 ·have h1':¬(i:Int)<(ns.length:Int):=by omega
  by_cases h2:ns=[]
  ·subst h2
   have h0:¬(i:Int)<0:=by omega
   exact⟨0,by simp[f__law_cell_at,runFn,exes,exe,tst,den,dens,tsts,part,andS,andC,M.bind,M.pure,Dn.orNo,Dn.no,biOp,Dn.listOf,cmpOp,Dn.truth,ixOp,derf,cmpOk,cmpOks,eqv,whenM,szOk,binOp,augOp,walk,Dn.asInt?,D.lim,D.lims,meOp,rtM,rtOf,meHas,isiM,seqOf,Dn.G.set,Dn.G.sets,isBl,isiOp,slOp,gdOf,boxed,Dn.push,setIx,catOf,inD,inF,inL,flatD,eqvs,h0]⟩
  ·have h3:(ns.length:Int)≠0:=by have:=List.length_pos_iff.mpr h2;omega
   have hm:∃j:Nat,(i:Int).fmod (ns.length:Int)=(j:Int)∧j<ns.length:=by
    have a:=Int.fmod_nonneg_of_pos (i:Int) (b:=(ns.length:Int)) (by omega)
    have b:=Int.fmod_lt_of_pos (i:Int) (b:=(ns.length:Int)) (by omega)
    exact⟨((i:Int).fmod ns.length).toNat,by omega,by omega⟩
   obtain⟨j,hj,hj2⟩:=hm
   have hc:=cmpOks_ints 59 ns
   have hlen:ns.length<1073741824:=by omega
   have hq:0≤(i:Int).fdiv (ns.length:Int):=Int.fdiv_nonneg (by omega) (by omega)
   have hok:okI (if (60:Int)<(i:Int).fdiv (ns.length:Int) then 60 else (i:Int).fdiv (ns.length:Int))=true:=by unfold okI;split <;> simp <;> omega
   obtain⟨ρ',e,s,a,hρ⟩:=exe_for (X:=⟨pr.fn k,pr.fuel⟩) (t:=.nm 3) (ik:=.rng1) (ia:=[(.bi .min [(.bin .FloorDiv (.v 1) (.bi .len [(.v 0)])),(.k (.int 60))])]) (b:=[.asg (.nm 2) (.bin .FloorDiv (.v 2) (.k (.int 1000003)))])
    (ρ:=[some (.fz (ns.map D.int)),some (.int i),some (.int ns[j]),none]) (st:=st) (xs:=rangeL 0 (if (60:Int)<(i:Int).fdiv (ns.length:Int) then 60 else (i:Int).fdiv (ns.length:Int)))
    (P:=fun ρ=>∃s a,ρ=[some (.fz (ns.map D.int)),some (.int i),some (.int s),a]) (ds:=[.int (if (60:Int)<(i:Int).fdiv (ns.length:Int) then 60 else (i:Int).fdiv (ns.length:Int))]) (by simp[runFn,exes,exe,tst,den,dens,tsts,part,andS,andC,M.bind,M.pure,Dn.orNo,Dn.no,biOp,Dn.listOf,cmpOp,Dn.truth,ixOp,derf,cmpOk,cmpOks,eqv,whenM,szOk,binOp,augOp,walk,Dn.asInt?,D.lim,D.lims,meOp,rtM,rtOf,meHas,isiM,seqOf,Dn.G.set,Dn.G.sets,isBl,isiOp,slOp,gdOf,boxed,Dn.push,setIx,catOf,inD,inF,inL,flatD,hlen,h3,h2]) (by simp[walk,hok]) ⟨_,_,rfl⟩ (fun d ρ hd hP=>by
     obtain⟨s,a,rfl⟩:=hP
     refine⟨_,[some (.fz (ns.map D.int)),some (.int i),some (.int (s.fdiv 1000003)),some d],rfl,?_,_,_,rfl⟩
     simp[runFn,exes,exe,tst,den,dens,tsts,part,andS,andC,M.bind,M.pure,Dn.orNo,Dn.no,biOp,Dn.listOf,cmpOp,Dn.truth,ixOp,derf,cmpOk,cmpOks,eqv,whenM,szOk,binOp,augOp,walk,Dn.asInt?,D.lim,D.lims,meOp,rtM,rtOf,meHas,isiM,seqOf,Dn.G.set,Dn.G.sets,isBl,isiOp,slOp,gdOf,boxed,Dn.push,setIx,catOf,inD,inF,inL,flatD])
   subst hρ
   refine⟨_,fn_ret (ρ:=[some (.fz (ns.map D.int)),some (.int i),none,none]) rfl rfl (nx (ρ':=[some (.fz (ns.map D.int)),some (.int i),none,none]) (st':=st) ?_ (nx (ρ':=[some (.fz (ns.map D.int)),some (.int i),none,none]) (st':=st) ?_ (nx (ρ':=[some (.fz (ns.map D.int)),some (.int i),some (.int ns[j]),none]) (st':=st) ?_ (nx e (exes_rt (d:=.int (ns[j]*31+i+s*101)) (st':=st) ?_)))))⟩
   ·simp[runFn,exes,exe,tst,den,dens,tsts,part,andS,andC,M.bind,M.pure,Dn.orNo,Dn.no,biOp,Dn.listOf,cmpOp,Dn.truth,ixOp,derf,cmpOk,cmpOks,eqv,whenM,szOk,binOp,augOp,walk,Dn.asInt?,D.lim,D.lims,meOp,rtM,rtOf,meHas,isiM,seqOf,Dn.G.set,Dn.G.sets,isBl,isiOp,slOp,gdOf,boxed,Dn.push,setIx,catOf,inD,inF,inL,flatD,h1']
   ·simp[runFn,exes,exe,tst,den,dens,tsts,part,andS,andC,M.bind,M.pure,Dn.orNo,Dn.no,biOp,Dn.listOf,cmpOp,Dn.truth,ixOp,derf,cmpOk,cmpOks,eqv,whenM,szOk,binOp,augOp,walk,Dn.asInt?,D.lim,D.lims,meOp,rtM,rtOf,meHas,isiM,seqOf,Dn.G.set,Dn.G.sets,isBl,isiOp,slOp,gdOf,boxed,Dn.push,setIx,catOf,inD,inF,inL,flatD,hc,eqvs_nil,h2]
   ·simp[runFn,exes,exe,tst,den,dens,tsts,part,andS,andC,M.bind,M.pure,Dn.orNo,Dn.no,biOp,Dn.listOf,cmpOp,Dn.truth,ixOp,derf,cmpOk,cmpOks,eqv,whenM,szOk,binOp,augOp,walk,Dn.asInt?,D.lim,D.lims,meOp,rtM,rtOf,meHas,isiM,seqOf,Dn.G.set,Dn.G.sets,isBl,isiOp,slOp,gdOf,boxed,Dn.push,setIx,catOf,inD,inF,inL,flatD,h2,h3,hj,atI_nat,hj2]
   ·simp[runFn,exes,exe,tst,den,dens,tsts,part,andS,andC,M.bind,M.pure,Dn.orNo,Dn.no,biOp,Dn.listOf,cmpOp,Dn.truth,ixOp,derf,cmpOk,cmpOks,eqv,whenM,szOk,binOp,augOp,walk,Dn.asInt?,D.lim,D.lims,meOp,rtM,rtOf,meHas,isiM,seqOf,Dn.G.set,Dn.G.sets,isBl,isiOp,slOp,gdOf,boxed,Dn.push,setIx,catOf,inD,inF,inL,flatD,h2,h3,hj,atI_nat,hj2,small64]
theorem mixed_ok (k:Nat) (ns:List Int) (i:Nat) (b:Int) (st:Sto) (hn:ns.length≤63) (hb:0<b):∃r,callV false (pr.fn (k+2) "_law_mixed" [.fz (ns.map D.int),.int i,.int b]) st=.ok (.int r) st∧0≤r∧r<b:=by
 obtain⟨c,hc⟩:=cell_ok k ns i st hn
 have hc:=callV_pure0 hc rfl
 have hm:∀x:Int,0≤x.fmod 2147483647∧x.fmod 2147483647<2147483647:=fun x=>⟨Int.fmod_nonneg_of_pos x (by omega),Int.fmod_lt_of_pos x (by omega)⟩
 have hs:small64 ((c*1103515245+7919*i+12345).fmod 2147483647)=true:=by
  have:=hm (c*1103515245+7919*i+12345)
  unfold small64
  simp
  omega
 have hb0:b≠0:=by omega
 refine⟨_,callV_pure0 ((n__law_mixed (k+1) _ st).trans (fn_ret (ρ:=[some (.fz (ns.map D.int)),some (.int i),some (.int b),none]) rfl rfl (nx (ρ':=[some (.fz (ns.map D.int)),some (.int i),some (.int b),some (.int ((c*1103515245+7919*i+12345).fmod 2147483647))]) (st':=st) ?_
  (exes_rt (d:=.int (((((c*1103515245+7919*i+12345).fmod 2147483647) ^ 5).fmod 2147483647).fmod 999983 |>.fmod b)) (st':=st) ?_)))) rfl,Int.fmod_nonneg_of_pos _ hb,Int.fmod_lt_of_pos _ hb⟩
 ·simp[runFn,exes,exe,tst,den,dens,tsts,part,andS,andC,M.bind,M.pure,Dn.orNo,Dn.no,biOp,Dn.listOf,cmpOp,Dn.truth,ixOp,derf,cmpOk,cmpOks,eqv,whenM,szOk,binOp,augOp,walk,Dn.asInt?,D.lim,D.lims,meOp,rtM,rtOf,meHas,isiM,seqOf,Dn.G.set,Dn.G.sets,isBl,isiOp,slOp,gdOf,boxed,Dn.push,setIx,catOf,inD,inF,inL,flatD,hc,small64]
 ·simp[runFn,exes,exe,tst,den,dens,tsts,part,andS,andC,M.bind,M.pure,Dn.orNo,Dn.no,biOp,Dn.listOf,cmpOp,Dn.truth,ixOp,derf,cmpOk,cmpOks,eqv,whenM,szOk,binOp,augOp,walk,Dn.asInt?,D.lim,D.lims,meOp,rtM,rtOf,meHas,isiM,seqOf,Dn.G.set,Dn.G.sets,isBl,isiOp,slOp,gdOf,boxed,Dn.push,setIx,catOf,inD,inF,inL,flatD,hs,hb0]
theorem draw_ok (k:Nat) (ns:List Int) (t:Nat) (b:Int) (r:Sto) (hn:ns.length≤63) (hb:0<b) (ht:t≤100000) :
  ∃x,callV false (pr.fn (k+3) "_law_draw" [.fz (ns.map D.int),.ref 0,.int b]) (T t r)=.ok (.int x) (T (t+1) r)∧0≤x∧x<b:=by
 obtain⟨x,hx,h1,h2⟩:=mixed_ok k ns (t+1) b (T (t+1) r) hn hb
 refine⟨x,callV_T ((n__law_draw (k+2) _ _).trans (fn_ret (ρ:=[some (.fz (ns.map D.int)),some (.ref 0),some (.int b)]) rfl rfl (nx (ρ':=[some (.fz (ns.map D.int)),some (.ref 0),some (.int b)]) (st':=T (t+1) r) ?_ (exes_rt ?_)))) rfl,h1,h2⟩
 ·have:t≤1000000:=by omega
  simp[exe,den,dens,M.bind,M.pure,Dn.orNo,andS,whenM,rtM,rtOf,meHas,T_get,T_app t r this]
 ·simp only[Int.natCast_add,Int.natCast_one] at hx
  simp[runFn,exes,exe,tst,den,dens,tsts,part,andS,andC,M.bind,M.pure,Dn.orNo,Dn.no,biOp,Dn.listOf,cmpOp,Dn.truth,ixOp,derf,cmpOk,cmpOks,eqv,whenM,szOk,binOp,augOp,walk,Dn.asInt?,D.lim,D.lims,meOp,rtM,rtOf,meHas,isiM,seqOf,Dn.G.set,Dn.G.sets,isBl,isiOp,slOp,gdOf,boxed,Dn.push,setIx,catOf,inD,inF,inL,flatD,T_get,hx]
end Hb
namespace Hb
open PySem Dn
abbrev xX (k:Nat):Cf:=⟨pr.fn k,pr.fuel⟩
abbrev lets:List Nat:=[97,98,99,100,101,102,103,104,105,106,107,108,109,110,111,112,113,114,115,116,117,118,119,120,121,122]
def nmOk (z:List Nat):Prop:=1≤z.length∧z.length≤8∧∀c∈z,c∈lets
theorem is_whole_ok (k:Nat) (x lo hi:Int) (st:Sto):callV false (pr.fn (k+1) "is_whole" [.int x,.int lo,.int hi]) st=.ok (.bl (decide (lo≤x)&&decide (x≤hi))) st:=by
 refine callV_pure0 ((n_is_whole k _ st).trans (fn_ret (ρ:=[some (.int x),some (.int lo),some (.int hi)]) rfl rfl (exes_rt ?_))) rfl
 by_cases h:lo≤x <;> simp[runFn,exes,exe,tst,den,dens,tsts,part,andS,andC,M.bind,M.pure,Dn.orNo,Dn.no,biOp,Dn.listOf,cmpOp,Dn.truth,ixOp,derf,cmpOk,cmpOks,eqv,whenM,szOk,binOp,augOp,walk,Dn.asInt?,D.lim,D.lims,meOp,rtM,rtOf,meHas,isiM,seqOf,Dn.G.set,Dn.G.sets,isBl,isiOp,slOp,gdOf,boxed,Dn.push,setIx,catOf,inD,inF,inL,flatD,h]
theorem is_whole_t (k:Nat) {x lo hi:Int} (st:Sto) (h1:lo≤x) (h2:x≤hi):callV false (pr.fn (k+1) "is_whole" [.int x,.int lo,.int hi]) st=.ok (.bl true) st:=by
 rw[is_whole_ok,decide_eq_true h1,decide_eq_true h2] <;> rfl
theorem is_byte_ok (k:Nat) (b:Nat) (st:Sto) (h:b<256):callV false (pr.fn (k+2) "is_byte" [.int (b:Int)]) st=.ok (.bl true) st:=by
 have e:=is_whole_t k (x:=(b:Int)) (lo:=0) (hi:=255) st (by omega) (by omega)
 refine callV_pure0 ((n_is_byte (k+1) _ st).trans (fn_ret (ρ:=[some (.int b)]) rfl rfl (exes_rt ?_))) rfl
 simp[runFn,exes,exe,tst,den,dens,tsts,part,andS,andC,M.bind,M.pure,Dn.orNo,Dn.no,biOp,Dn.listOf,cmpOp,Dn.truth,ixOp,derf,cmpOk,cmpOks,eqv,whenM,szOk,binOp,augOp,walk,Dn.asInt?,D.lim,D.lims,meOp,rtM,rtOf,meHas,isiM,seqOf,Dn.G.set,Dn.G.sets,isBl,isiOp,slOp,gdOf,boxed,Dn.push,setIx,catOf,inD,inF,inL,flatD,e]
abbrev txs (xs:List (List Nat)):List D:=xs.map D.str
structure Rg where
 nm:List Nat
 ac:List Nat
 msk:Nat
 rs:Nat
def Rg.l (r:Rg):List D:=[.str r.nm,.str r.ac,.int (r.msk:Int),.int (r.rs:Int)]
abbrev Rg.d (r:Rg):D:=.tup r.l
structure Kd where
 nm:List Nat
 rs:List Rg
def Kd.l (r:Kd):List D:=[.str r.nm,.tup (r.rs.map Rg.d)]
abbrev Kd.d (r:Kd):D:=.tup r.l
structure Ln where
 nm:List Nat
 pin:Nat
 way:List Nat
def Ln.l (r:Ln):List D:=[.str r.nm,.int (r.pin:Int),.str r.way]
abbrev Ln.d (r:Ln):D:=.tup r.l
structure Dv where
 nm:List Nat
 kn:List Nat
 ad:Nat
def Dv.l (r:Dv):List D:=[.str r.nm,.str r.kn,.int (r.ad:Int)]
abbrev Dv.d (r:Dv):D:=.tup r.l
abbrev sRw:List Nat:=[114,119]
abbrev sRo:List Nat:=[114,111]
abbrev sWo:List Nat:=[119,111]
abbrev sClear:List Nat:=[99,108,101,97,114]
abbrev sCount:List Nat:=[99,111,117,110,116]
abbrev sIn:List Nat:=[105,110]
abbrev sOut:List Nat:=[111,117,116]
abbrev access:List (List Nat):=[sRw,sRo,sWo,sClear,sCount]
abbrev round:List Nat:=[1,3,7,15,31,63,127,255]
structure RgOk (r:Rg):Prop where
 nm:nmOk r.nm
 ac:r.ac∈access
 msk:r.msk<256
 rs:r.rs&&&r.msk=r.rs
 cn:r.ac=sCount→r.msk∈round
end Hb
namespace Hb
open PySem Dn
structure KdOk (k:Kd):Prop where
 nm:nmOk k.nm
 lo:1≤k.rs.length
 hi:k.rs.length≤4
 rs:∀r∈k.rs,RgOk r
 nd:(k.rs.map Rg.nm).Nodup
structure LnOk (pins:Nat) (l:Ln):Prop where
 nm:nmOk l.nm
 pin:l.pin<pins
 way:l.way∈[sIn,sOut]
structure DvOk (ks:List Kd) (d:Dv):Prop where
 nm:nmOk d.nm
 ad:d.ad<16
 kn:d.kn∈ks.map Kd.nm
def isWay (ls:List Ln) (z way:List Nat):Bool:=ls.any fun l=>decide (l.nm=z)&&decide (l.way=way)
def regsK (ks:List Kd) (kn:List Nat):List Rg:=match ks.find? fun k=>decide (k.nm=kn) with
|some k=>k.rs
|none=>[]
end Hb
namespace Hb
open PySem Dn
inductive Ft where
|held (z:List Nat) (b:Nat)
|silent (z:List Nat)
|stuck (b:Nat)
|flip (n:Nat)
def Ft.l:Ft→List D
|.held z b=>[.str [104,101,108,100],.str z,.int (b:Int)]
|.silent z=>[.str [115,105,108,101,110,116],.str z]
|.stuck b=>[.str [115,116,117,99,107],.int (b:Int)]
|.flip n=>[.str [102,108,105,112],.int (n:Int)]
abbrev Ft.d (f:Ft):D:=.tup f.l
def FtOk (ls:List Ln) (ds:List Dv):Ft→Prop
|.held z b=>okStr z=true∧isWay ls z sIn=true∧b<2
|.silent z=>okStr z=true∧(ds.any fun d=>decide (d.nm=z))=true
|.stuck b=>b<2
|.flip n=>n≤400
inductive Ru where
|within (i:List Nat) (b:Nat) (o:List Nat) (c late:Nat)
|never (o:List Nat) (b:Nat) (o2:List Nat) (c:Nat)
|kept (dv rg:List Nat) (lo hi:Nat)
def Ru.l:Ru→List D
|.within i b o c late=>[.str [119,105,116,104,105,110],.str i,.int (b:Int),.str o,.int (c:Int),.int (late:Int)]
|.never o b o2 c=>[.str [110,101,118,101,114],.str o,.int (b:Int),.str o2,.int (c:Int)]
|.kept dv rg lo hi=>[.str [107,101,112,116],.str dv,.str rg,.int (lo:Int),.int (hi:Int)]
abbrev Ru.d (f:Ru):D:=.tup f.l
def RuOk (ks:List Kd) (ls:List Ln) (ds:List Dv):Ru→Prop
|.within i b o c late=>okStr i=true∧okStr o=true∧isWay ls i sIn=true∧isWay ls o sOut=true∧b<2∧c<2∧late≤999
|.never o b o2 c=>okStr o=true∧okStr o2=true∧isWay ls o sOut=true∧isWay ls o2 sOut=true∧b<2∧c<2
|.kept dv rg lo hi=>okStr dv=true∧(∃d,(ds.find? fun d=>decide (d.nm=dv))=some d∧rg∈(regsK ks d.kn).map Rg.nm)∧lo<256∧hi<256
end Hb
namespace Hb
open PySem Dn
structure Bd where
 nm:List Nat
 pins:Nat
 rate:Nat
 ks:List Kd
 ls:List Ln
 ds:List Dv
 fs:List Ft
 us:List Ru
def Bd.l (b:Bd):List D:=[.str b.nm,.int (b.pins:Int),.int (b.rate:Int),.tup (b.ks.map Kd.d),.tup (b.ls.map Ln.d),.tup (b.ds.map Dv.d),.tup (b.fs.map Ft.d),.tup (b.us.map Ru.d)]
abbrev Bd.d (b:Bd):D:=.tup b.l
abbrev sBoard:List Nat:=[98,111,97,114,100]
structure BdOk (b:Bd):Prop where
 nm:nmOk b.nm
 pins:1≤b.pins∧b.pins≤16
 rate:1≤b.rate∧b.rate≤4
 kl:b.ks.length≤4
 ks:∀k∈b.ks,KdOk k
 kd:(b.ks.map Kd.nm).Nodup
 ll:b.ls.length≤8
 ls:∀l∈b.ls,LnOk b.pins l
 dl:b.ds.length≤4
 ds:∀d∈b.ds,DvOk b.ks d
 nd:(sBoard::(b.ls.map Ln.nm++b.ds.map Dv.nm)).Nodup
 pd:(b.ls.map Ln.pin).Nodup
 ad:(b.ds.map Dv.ad).Nodup
 fl:b.fs.length≤6
 fs:∀f∈b.fs,FtOk b.ls b.ds f
 ul:b.us.length≤6
 us:∀u∈b.us,RuOk b.ks b.ls b.ds u
abbrev bE (b:Bd):Dn.Env:=[some b.d,some (.str b.nm),some (.int (b.pins:Int)),some (.int (b.rate:Int)),some (.tup (b.ks.map Kd.d)),some (.tup (b.ls.map Ln.d)),some (.tup (b.ds.map Dv.d)),some (.tup (b.fs.map Ft.d)),some (.tup (b.us.map Ru.d)),none,none,none,none,none,none]
theorem lcT {X:Cf} {ρ:Dn.Env} {st:Sto} {i o:Nat} {e:E} {α:Type} {f g:α→D} {l:List α} (hv:ρ[i]?=some (some (.tup (l.map f)))) (hl:l.length≤1000)
  (hy:∀a∈l,D.lim 0 (g a)=true∧∀acc,den X e ((ρ.set o none).set o (some (f a))) (st++[.lst acc])=.ok (g a) (st++[.lst acc])) :
  den X (.lc [o] (.nm o) .seq [(.v i)] [] e) ρ st=.ok (.lst (l.map g)) st:=by
 refine lc_map (f:=f) (ds:=[.tup (l.map f)]) (gd:=[]) (by simp[dens,den,M.bind,M.pure,Dn.orNo,hv]) (by simp[walk]) (fun _=>rfl) (by omega) fun a ha => ?_
 exact⟨_,rfl,(hy a ha).1,(hy a ha).2⟩
end Hb
namespace Dn
section
variable {X:Cf} {own:List Nat} {t:G} {ik:Ik} {ia cs:List E} {e c:E} {ρ:Env} {ds xs:List D} {α β:Type} {f:α→D} {g:β→D} {l:List α}
end
end Dn
namespace Hb
open PySem Dn
theorem draw_nat (k:Nat) (ns:List Int) (t:Nat) (b:Nat) (r:Sto) (hn:ns.length≤63) (hb:0<b) (ht:t≤100000) :
  ∃x:Nat,callV false (pr.fn (k+3) "_law_draw" [.fz (ns.map D.int),.ref 0,.int (b:Int)]) (T t r)=.ok (.int (x:Int)) (T (t+1) r)∧x<b:=by
 obtain⟨x,e,h1,h2⟩:=draw_ok k ns t b r hn (by omega) ht
 exact⟨x.toNat,by rw[e,Int.toNat_of_nonneg h1],by omega⟩
section
variable {ns:List Int} (hn:ns.length≤63)
include hn in
theorem DR (k t b:Nat) (r:Sto) (hb:0<b) (ht:t≤100000):∃x:Nat,callV false (pr.fn (k+3) "_law_draw" [.fz (ns.map D.int),.ref 0,.int (b:Int)]) (T t r)=.ok (.int (x:Int)) (T (t+1) r)∧x<b:=draw_nat k ns t b r hn hb ht
include hn in
theorem pick_lst (k t:Nat) (xs:List D) (r:Sto) (hx:0<xs.length) (hl:D.lims 0 xs=true) (ht:t≤100000) :
  ∃d,callV false (pr.fn (k+4) "_law_pick" [.fz (ns.map D.int),.ref 0,.lst xs]) (T t r)=.ok d (T (t+1) r)∧d∈xs:=by
 obtain⟨x,e,h⟩:=draw_nat k ns t xs.length r hn hx ht
 have hg:xs[x]?=some xs[x]:=List.getElem?_eq_getElem h
 refine⟨xs[x],callV_T ((n__law_pick (k+3) _ _).trans (fn_ret (ρ:=[some (.fz (ns.map D.int)),some (.ref 0),some (.lst xs)]) rfl rfl (exes_rt ?_))) (lims_iff.mp hl _ (List.getElem_mem h)),List.getElem_mem h⟩
 simp[runFn,exes,exe,tst,den,dens,tsts,part,andS,andC,M.bind,M.pure,Dn.orNo,Dn.no,biOp,Dn.listOf,cmpOp,Dn.truth,ixOp,derf,cmpOk,cmpOks,eqv,whenM,szOk,binOp,augOp,walk,Dn.asInt?,D.lim,D.lims,meOp,rtM,rtOf,meHas,isiM,seqOf,Dn.G.set,Dn.G.sets,isBl,isiOp,slOp,gdOf,boxed,Dn.push,setIx,catOf,inD,inF,inL,flatD,e,atI_nat,hg]
abbrev nats (xs:List Nat):List D:=xs.map fun (i:Nat)=>D.int (i:Int)
theorem lims_nats (xs:List Nat):D.lims 0 (nats xs)=true:=by
 rw[lims_iff]
 intro d hd
 obtain⟨z,_,rfl⟩:=List.mem_map.mp hd
 rfl
include hn in
theorem pick_i (k t:Nat) (xs:List Nat) (r:Sto) (hx:0<xs.length) (ht:t≤100000) :
  ∃z∈xs,callV false (pr.fn (k+4) "_law_pick" [.fz (ns.map D.int),.ref 0,.lst (nats xs)]) (T t r)=.ok (.int (z:Int)) (T (t+1) r):=by
 obtain⟨d,e,hd⟩:=pick_lst hn k t (nats xs) r (by simpa using hx) (lims_nats xs) ht
 obtain⟨z,hz,rfl⟩:=List.mem_map.mp hd
 exact⟨z,hz,e⟩
end
end Hb
namespace Dn
theorem forL_inv3 {gd:Gd} {turn:D→Env→Sto→RS} {P:List D→Env→Sto→Prop} (hg:∀r ρ st,P r ρ st→grd st gd=true) (hs:∀d r ρ st,P (d::r) ρ st→∃ρ' st',turn d ρ st=.ok (.nx ρ') st'∧P r ρ' st'):∀(xs:List D) (ρ:Env) (st:Sto),P xs ρ st→∃ρ' st',forL gd turn xs ρ st=.ok (.nx ρ') st'∧P [] ρ' st'
|[],ρ,st,h=>⟨ρ,st,by rw[forL,if_pos (hg _ _ _ h)],h⟩
|d::r,ρ,st,h=>by
  obtain⟨ρ1,st1,e1,h1⟩:=hs d r ρ st h
  obtain⟨ρ2,st2,e2,h2⟩:=forL_inv3 hg hs r ρ1 st1 h1
  exact⟨ρ2,st2,by rw[forL,if_pos (hg _ _ _ h)];simp only[e1,e2],h2⟩
theorem exe_for3 {X:Cf} {ρ:Env} {st st1:Sto} {t:G} {ik:Ik} {ia:List E} {b:List S} {ds xs:List D} {gd:Gd} {P:List D→Env→Sto→Prop} (h:dens X ia ρ st=.ok ds st1) (hw:walk ik ds st1=.ok (xs,gd) st1) (hg:∀r ρ st,P r ρ st→grd st gd=true) (hP:P xs ρ st1)
  (ht:∀d r ρ st,P (d::r) ρ st→∃ρ1 ρ' st',t.set d ρ=some ρ1∧exes X b ρ1 st=.ok (.nx ρ') st'∧P r ρ' st'):∃ρ' st',exe X (.for_ t ik ia b) ρ st=.ok (.nx ρ') st'∧P [] ρ' st':=by
 obtain⟨ρ',st',e,h'⟩:=forL_inv3 (gd:=gd) (P:=P) (turn:=fun d ρ st=>match t.set d ρ with
 |some ρ'=>exes X b ρ' st
 |none=>.no) hg (fun d r ρ st hρ=>by
   obtain⟨ρ1,ρ',st',e1,e2,h2⟩:=ht d r ρ st hρ
   exact⟨ρ',st',by simp only[e1,e2],h2⟩) xs ρ st1 hP
 refine⟨ρ',st',?_,h'⟩
 rw[exe,h]
 simp only[andS,hw]
 exact e
def Rd (x:D) (xs:List D) (st:Sto):Prop:=x=.lst xs∨∃n,x=.ref n∧n<st.length∧st[n]?=some (.lst xs)
theorem Rd.lst {xs:List D} {st:Sto}:Rd (.lst xs) xs st:=.inl rfl
theorem Rd.ref {n:Nat} {xs:List D} {st:Sto} (h:st[n]?=some (.lst xs)):Rd (.ref n) xs st:=.inr ⟨n,rfl,(List.getElem?_eq_some_iff.mp h).1,h⟩
theorem Rd.app {x:D} {xs:List D} {st:Sto} (h:Rd x xs st) (e:Sto):Rd x xs (st++e):=by
 rcases h with rfl|⟨n,rfl,hn,h⟩
 ·exact .inl rfl
 ·exact .inr ⟨n,rfl,by rw[List.length_append];omega,by rw[List.getElem?_append_left hn];exact h⟩
theorem Rd.listOf {x:D} {xs:List D} {st:Sto} (h:Rd x xs st):listOf x st=.ok xs st:=by
 rcases h with rfl|⟨n,rfl,hn,h⟩
 ·rfl
 ·simp only[Dn.listOf,h]
theorem Rd.len {x:D} {xs:List D} {st:Sto} (h:Rd x xs st):biOp .len [x] st=.ok (.int (xs.length:Int)) st:=by
 have q:=h.listOf
 rcases h with rfl|⟨n,rfl,hn,h⟩ <;> simp only[biOp,q]
theorem Rd.walk {x:D} {xs:List D} {st:Sto} (h:Rd x xs st):walk .seq [x] st=.ok (xs,gdOf x st) st:=by
 have q:=h.listOf
 rcases h with rfl|⟨n,rfl,hn,h⟩ <;> simp only[Dn.walk,q]
theorem Rd.grd {x:D} {xs:List D} {st st':Sto} (h:Rd x xs st) (h':Rd x xs st'):grd st' (gdOf x st)=true:=by
 rcases h with rfl|⟨n,rfl,hn,h⟩
 ·rfl
 ·rcases h' with h'|⟨n',h',hn',h2⟩
  ·cases h'
  ·cases h'
   simp[gdOf,h,Dn.grd,h2]
theorem Rd.isi {x:D} {xs:List D} {st:Sto} (h:Rd x xs st):isiM .list x st=.ok (.bl true) st:=by
 rcases h with rfl|⟨n,rfl,hn,h⟩
 ·rfl
 ·simp only[isiM,h] <;> rfl
theorem Rd.sl {x:D} {xs:List D} {st:Sto} (h:Rd x xs st) (lo hi:Option Int):slOp x lo hi st=.ok (.lst (cut xs lo hi)) st:=by
 have q:=h.listOf
 rcases h with rfl|⟨n,rfl,hn,h⟩ <;> simp only[slOp,q]
theorem Rd.ix {x:D} {xs:List D} {st:Sto} (h:Rd x xs st) (i:Int) {d:D} (hi:atI xs i=some d):ixOp x (.int i) st=.ok d st:=by
 have q:=h.listOf
 rcases h with rfl|⟨n,rfl,hn,h⟩ <;> simp only[ixOp,q,hi]
end Dn
namespace Hb
open PySem Dn
def sBurn:List Nat:=[98,117,114,110]
structure Stp where
 p:Nat
 b:Option Nat
 deriving DecidableEq
def Stp.d (s:Stp):D:=match s.b with
|none=>.tup [.str sClear,.int (s.p:Int)]
|some x=>.tup [.str sBurn,.int (s.p:Int),.int (x:Int)]
def StpOk (s:Stp):Prop:=s.p<512∧∀x,s.b=some x→x<256
abbrev Wn:=List (Nat×Nat)
def wn1 (x:Nat×Nat):D:=.tup [.int (x.1:Int),.int (x.2:Int)]
def wnD (ws:Wn):D:=.tup (ws.map wn1)
def WnOk (ws:Wn):Prop:=ws.Pairwise (fun x y=>x.1<y.1)∧∀x∈ws,x.1<512∧x.2<256
def kvN (ws:Wn):List (Ky×D):=ws.map fun x=>((.inl (x.1:Int):Ky),D.int (x.2:Int))
def mskN (ws:Wn) (p:Nat):Nat:=((ws.find? fun x=>decide (x.1=p)).map (·.2)).getD 0
def wear1 (l:List Nat) (x:Nat×Nat):List Nat:=l.set x.1 (l.getD x.1 0&&&(255 - x.2))
def wearN (ws:Wn) (l:List Nat):List Nat:=ws.foldl wear1 l
def stepN (ws:Wn) (l:List Nat) (s:Stp):List Nat:=l.set s.p ((match s.b with
|none=>255
|some x=>l.getD s.p 0&&&x)&&&(255 - mskN ws s.p))
def doneN (ws:Wn) (ss:List Stp) (l:List Nat):List Nat:=ss.foldl (stepN ws) (wearN ws l)
structure FlOk (l:List Nat):Prop where
 len:l.length=512
 lt:∀x∈l,x<256
def flD (l:List Nat):D:=.tup (nats l)
theorem flD_lim (n:Nat) (l:List Nat):D.lim n (flD l)=true:=lim_mono _ (by rw[flD,D.lim];exact lims_nats l)
theorem bandF (a b:Nat) (st:Sto):binOp .BitAnd (.int (a:Int)) (.int (b:Int)) st=.ok (.int ((a&&&b:Nat):Int)) st:=by simp[binOp]
theorem subF {a b:Nat} (h:b≤a) (st:Sto):binOp .Sub (.int (a:Int)) (.int (b:Int)) st=.ok (.int ((a - b:Nat):Int)) st:=by
 simp only[binOp]
 congr 2
 omega
theorem and_lt {a b:Nat} (h:a<256):a&&&b<256:=Nat.lt_of_le_of_lt Nat.and_le_left h
theorem getD_lt {l:List Nat} (h:∀x∈l,x<256) (p:Nat):l.getD p 0<256:=by
 rw[List.getD_eq_getElem?_getD]
 cases e:l[p]? with
|none=>decide
|some x=>exact h x (List.mem_of_getElem? e)
theorem FlOk.set {l:List Nat} (h:FlOk l) (p:Nat) {x:Nat} (hx:x<256):FlOk (l.set p x):=
 ⟨by rw[List.length_set];exact h.len,fun y hy=>(List.mem_or_eq_of_mem_set hy).elim (h.lt y) fun e=>by rw[e];exact hx⟩
theorem FlOk.wear {l:List Nat} (h:FlOk l):∀ws:Wn,FlOk (wearN ws l):=fun ws=>by
 induction ws generalizing l with
|nil=>exact h
|cons a r ih=>exact ih (h.set _ (and_lt (getD_lt h.lt _)))
theorem FlOk.step {l:List Nat} (h:FlOk l) (ws:Wn) (s:Stp):FlOk (stepN ws l s):=by
 refine h.set _ (and_lt ?_)
 cases s.b with
|none=>exact (by decide:255<256)
|some x=>exact and_lt (getD_lt h.lt _)
theorem FlOk.steps {l:List Nat} (h:FlOk l) (ws:Wn):∀ss:List Stp,FlOk (ss.foldl (stepN ws) l):=fun ss=>by
 induction ss generalizing l with
|nil=>exact h
|cons a r ih=>exact ih (h.step ws a)
theorem FlOk.done {l:List Nat} (h:FlOk l) (ws:Wn) (ss:List Stp):FlOk (doneN ws ss l):=(h.wear ws).steps ws ss
theorem is_flash_ok (k:Nat) {l:List Nat} (h:FlOk l) (st:Sto):callV false (pr.fn (k+3) "is_flash" [flD l]) st=.ok (.bl true) st:=by
 have e:den (xX (k+2)) (.lc [1] (.nm 1) .seq [(.v 0)] [] (.call "is_byte" [(.v 1)])) [some (flD l),none] st=.ok (.lst (l.map fun _=>.bl true)) st:=by
  refine lc_map (f:=fun (i:Nat)=>D.int (i:Int)) (ds:=[flD l]) (gd:=[]) (by simp[dens,den,M.bind,M.pure,Dn.orNo]) (by simp[walk,flD]) (fun _=>rfl) (by have:=h.len;omega) fun x hx => ?_
  refine⟨_,rfl,rfl,fun acc => ?_⟩
  have:=is_byte_ok k x (st++[.lst acc]) (h.lt x hx)
  simp[den,dens,M.bind,M.pure,Dn.orNo,wipe,this]
 have b:=bi1 e (all_map (p:=fun _=>true) (l:=l) (st:=st))
 rw[show (l.all fun _=>true)=true by simp] at b
 have ln:∀st,biOp .len [flD l] st=.ok (.int 512) st:=fun st=>by simp[biOp,flD,h.len]
 have is:∀st,isiM .tuple (flD l) st=.ok (.bl true) st:=fun st=>rfl
 have eq:∀st,cmpOp .Eq (.int 512) (.int 512) st=.ok (.bl true) st:=fun st=>rfl
 have s0:exe (xX (k+2)) (.ret (.and (.isi .tuple (.v 0)) (.and (.cmp .Eq (.bi .len [(.v 0)]) (.k (.int (512)))) (.bi .all [(.lc [1] (.nm 1) .seq [(.v 0)] [] (.call "is_byte" [(.v 1)]))])))) [some (flD l),none] st=.ok (.rt (.bl true)) st:=by
  generalize (E.bi .all [(.lc [1] (.nm 1) .seq [(.v 0)] [] (.call "is_byte" [(.v 1)]))])=EC at b ⊢
  generalize flD l=L at *
  push_cast[is,ln,eq,b]
 exact callV_pure0 ((n_is_flash (k+2) _ st).trans (fn_ret (ρ:=[some (flD l),none]) (by rfl) (by rfl) (exes_rt s0))) rfl
theorem need_flash_ok (k:Nat) {l:List Nat} (h:FlOk l) (st:Sto):callV false (pr.fn (k+4) "need_flash" [flD l]) st=.ok .non st:=by
 have e:=is_flash_ok k h st
 generalize flD l=L at *
 refine callV_pure0 ((n_need_flash (k+3) _ st).trans (fn_nx (ρ:=[some L]) (ρ':=[some L]) (by rfl) (by rfl) (nx (ρ':=[some L]) (st':=st) (ifs_e ?_) (by rw[exes])))) rfl
 push_cast[e]
theorem is_step_ok (k:Nat) {s:Stp} (h:StpOk s) (st:Sto):callV false (pr.fn (k+3) "is_step" [s.d]) st=.ok (.bl true) st:=by
 obtain⟨p,b⟩:=s
 obtain⟨h1,h2⟩:=h
 simp only at h1 h2
 have e1:∀st,callV false (pr.fn (k+2) "is_whole" [.int (p:Int),.int 0,.int 511]) st=.ok (.bl true) st:=fun st=>is_whole_t (k+1) st (by omega) (by omega)
 have o0:szOk 0=true:=rfl
 cases b with
|none=>
  refine callV_pure0 ((n_is_step (k+2) _ st).trans (fn_ret (ρ:=[some (Stp.d ⟨p,none⟩)]) (by rfl) (by rfl) ?_)) rfl
  refine nx (ρ':=[some (Stp.d ⟨p,none⟩)]) (st':=st) (ifs_e ?_) ?_
  ·simp[runFn,exes,exe,tst,den,dens,tsts,part,andS,andC,M.bind,M.pure,Dn.orNo,Dn.no,biOp,Dn.listOf,cmpOp,Dn.truth,ixOp,derf,cmpOk,cmpOks,eqv,whenM,szOk,binOp,augOp,walk,Dn.asInt?,D.lim,D.lims,meOp,rtM,rtOf,meHas,isiM,seqOf,Dn.G.set,Dn.G.sets,isBl,isiOp,slOp,gdOf,boxed,Dn.push,setIx,catOf,inD,inF,inL,flatD,Stp.d,atI,ixN,e1]
  ·simp[runFn,exes,exe,tst,den,dens,tsts,part,andS,andC,M.bind,M.pure,Dn.orNo,Dn.no,biOp,Dn.listOf,cmpOp,Dn.truth,ixOp,derf,cmpOk,cmpOks,eqv,whenM,szOk,binOp,augOp,walk,Dn.asInt?,D.lim,D.lims,meOp,rtM,rtOf,meHas,isiM,seqOf,Dn.G.set,Dn.G.sets,isBl,isiOp,slOp,gdOf,boxed,Dn.push,setIx,catOf,inD,inF,inL,flatD,Stp.d,atI,ixN,e1,sClear,okStr]
|some x=>
  have e2:=is_byte_ok k x st (h2 x rfl)
  refine callV_pure0 ((n_is_step (k+2) _ st).trans (fn_ret (ρ:=[some (Stp.d ⟨p,some x⟩)]) (by rfl) (by rfl) ?_)) rfl
  refine nx (ρ':=[some (Stp.d ⟨p,some x⟩)]) (st':=st) (ifs_e ?_) ?_
  ·simp[runFn,exes,exe,tst,den,dens,tsts,part,andS,andC,M.bind,M.pure,Dn.orNo,Dn.no,biOp,Dn.listOf,cmpOp,Dn.truth,ixOp,derf,cmpOk,cmpOks,eqv,whenM,szOk,binOp,augOp,walk,Dn.asInt?,D.lim,D.lims,meOp,rtM,rtOf,meHas,isiM,seqOf,Dn.G.set,Dn.G.sets,isBl,isiOp,slOp,gdOf,boxed,Dn.push,setIx,catOf,inD,inF,inL,flatD,Stp.d,atI,ixN,e1]
  ·simp[runFn,exes,exe,tst,den,dens,tsts,part,andS,andC,M.bind,M.pure,Dn.orNo,Dn.no,biOp,Dn.listOf,cmpOp,Dn.truth,ixOp,derf,cmpOk,cmpOks,eqv,whenM,szOk,binOp,augOp,walk,Dn.asInt?,D.lim,D.lims,meOp,rtM,rtOf,meHas,isiM,seqOf,Dn.G.set,Dn.G.sets,isBl,isiOp,slOp,gdOf,boxed,Dn.push,setIx,catOf,inD,inF,inL,flatD,Stp.d,atI,ixN,e1,e2,sBurn,okStr]
theorem is_worn_ok (k:Nat) {ws:Wn} (h:WnOk ws) (hl:ws.length≤1000) (st:Sto):callV false (pr.fn (k+3) "is_worn" [wnD ws]) st=.ok (.bl true) st:=by
 have a1:den (xX (k+2)) (.bi .all [(.lc [1] (.nm 1) .seq [(.v 0)] [] (.and (.isi .tuple (.v 1)) (.cmp .Eq (.bi .len [(.v 1)]) (.k (.int 2)))))]) [some (wnD ws),none,none,none,none] st=.ok (.bl true) st:=by
  refine bi1 (lc_map (f:=wn1) (g:=fun _=>.bl true) (l:=ws) (ds:=[wnD ws]) (gd:=[]) (by simp[dens,den,M.bind,M.pure,Dn.orNo]) (by simp[walk,wnD]) (fun _=>rfl) (by omega) fun x hx=>⟨_,rfl,rfl,fun acc => ?_⟩) (by rw[all_map (p:=fun _=>true) (l:=ws) (st:=st),show (ws.all fun _=>true)=true by simp])
  simp[runFn,exes,exe,tst,den,dens,tsts,part,andS,andC,M.bind,M.pure,Dn.orNo,Dn.no,biOp,Dn.listOf,cmpOp,Dn.truth,ixOp,derf,cmpOk,cmpOks,eqv,whenM,szOk,binOp,augOp,walk,Dn.asInt?,D.lim,D.lims,meOp,rtM,rtOf,meHas,isiM,seqOf,Dn.G.set,Dn.G.sets,isBl,isiOp,slOp,gdOf,boxed,Dn.push,setIx,catOf,inD,inF,inL,flatD,wipe,wn1]
 have a2:den (xX (k+2)) (.bi .all [(.lc [3,4] (.tp [(.nm 3),(.nm 4)]) .seq [(.v 0)] [] (.and (.call "is_whole" [(.v 3),(.k (.int 0)),(.bin .Sub (.k (.int (512))) (.k (.int 1)))]) (.call "is_byte" [(.v 4)])))]) [some (wnD ws),none,none,none,none] st=.ok (.bl true) st:=by
  refine bi1 (lc_map (f:=wn1) (g:=fun _=>.bl true) (l:=ws) (ds:=[wnD ws]) (gd:=[]) (by simp[dens,den,M.bind,M.pure,Dn.orNo]) (by simp[walk,wnD]) (fun _=>rfl) (by omega) fun x hx=>⟨[some (wnD ws),none,none,some (.int (x.1:Int)),some (.int (x.2:Int))],rfl,rfl,fun acc => ?_⟩) (by rw[all_map (p:=fun _=>true) (l:=ws) (st:=st),show (ws.all fun _=>true)=true by simp])
  obtain⟨q1,q2⟩:=h.2 x hx
  have e1:∀st,callV false (pr.fn (k+2) "is_whole" [.int (x.1:Int),.int 0,.int 511]) st=.ok (.bl true) st:=fun st=>is_whole_t (k+1) st (by omega) (by omega)
  have e2:=fun st=>is_byte_ok k x.2 st q2
  simp[runFn,exes,exe,tst,den,dens,tsts,part,andS,andC,M.bind,M.pure,Dn.orNo,Dn.no,biOp,Dn.listOf,cmpOp,Dn.truth,ixOp,derf,cmpOk,cmpOks,eqv,whenM,szOk,binOp,augOp,walk,Dn.asInt?,D.lim,D.lims,meOp,rtM,rtOf,meHas,isiM,seqOf,Dn.G.set,Dn.G.sets,isBl,isiOp,slOp,gdOf,boxed,Dn.push,setIx,catOf,inD,inF,inL,flatD,e1,e2]
 have z:∀{l:Wn},l.Pairwise (fun x y=>x.1<y.1)→∀p∈l.zip l.tail,p.1.1<p.2.1:=fun {l} hp=>by
  induction l with
 |nil=>intro p hp;simp at hp
 |cons a r ih=>
   intro p hpm
   cases r with
  |nil=>simp at hpm
  |cons c r=>
    rw[List.tail_cons,List.zip_cons_cons] at hpm
    rcases List.mem_cons.mp hpm with rfl|hpm
    ·exact (List.pairwise_cons.mp hp).1 c (List.mem_cons_self ..)
    ·exact ih (List.pairwise_cons.mp hp).2 p hpm
 have a3:den (xX (k+2)) (.bi .all [(.lc [1,2] (.tp [(.nm 1),(.nm 2)]) .zip [(.v 0),(.sl (.v 0) [(.k (.int 1))] [])] [] (.cmp .Lt (.ix (.v 1) (.k (.int 0))) (.ix (.v 2) (.k (.int 0)))))]) [some (wnD ws),none,none,none,none] st=.ok (.bl true) st:=by
  refine bi1 (lc_map (f:=fun p:(Nat×Nat)×(Nat×Nat)=>D.tup [wn1 p.1,wn1 p.2]) (g:=fun _=>.bl true) (l:=ws.zip ws.tail) (ds:=[wnD ws,.tup (ws.tail.map wn1)]) (gd:=[]) ?_ ?_ (fun _=>rfl) (by rw[List.length_zip];omega) fun x hx=>⟨[some (wnD ws),some (wn1 x.1),some (wn1 x.2),none,none],rfl,rfl,fun acc => ?_⟩) (by rw[all_map (p:=fun _=>true) (l:=ws.zip ws.tail) (st:=st),show ((ws.zip ws.tail).all fun _=>true)=true by simp])
  ·simp[dens,den,M.bind,M.pure,Dn.orNo,slOp,wnD,Dn.cut,Dn.sIx,part,Dn.asInt?]
   rcases ws with _|⟨a,r⟩
   ·rfl
   ·simp only[List.tail_cons,List.map_cons,List.drop_succ_cons,List.drop_zero,List.length_cons,List.length_map,Nat.add_sub_cancel]
    exact List.take_of_length_le (by simp)
  ·simp only[walk,wnD,seqOf]
   congr 2
   clear z a1 a2 h hl
   cases ws with
  |nil=>rfl
  |cons a r=>
    rw[List.tail_cons]
    induction r generalizing a with
   |nil=>rfl
   |cons c r ih=>have:=ih c;simp_all [zipL]
  ·have:=z h.1 x hx
   obtain⟨⟨p,u⟩,⟨q,v⟩⟩:=x
   simp only at this
   have hpq:(p:Int)<(q:Int):=by omega
   simp[runFn,exes,exe,tst,den,dens,tsts,part,andS,andC,M.bind,M.pure,Dn.orNo,Dn.no,biOp,Dn.listOf,cmpOp,Dn.truth,ixOp,derf,cmpOk,cmpOks,eqv,whenM,szOk,binOp,augOp,walk,Dn.asInt?,D.lim,D.lims,meOp,rtM,rtOf,meHas,isiM,seqOf,Dn.G.set,Dn.G.sets,isBl,isiOp,slOp,gdOf,boxed,Dn.push,setIx,catOf,inD,inF,inL,flatD,wn1,atI,ixN,hpq]
 refine callV_pure0 ((n_is_worn (k+2) _ st).trans (fn_ret (ρ:=[some (wnD ws),none,none,none,none]) (by rfl) (by rfl) ?_)) rfl
 have is:∀st,isiM .tuple (wnD ws) st=.ok (.bl true) st:=fun st=>rfl
 have b1:=t_den t_bi a1
 have b2:=t_den t_bi a2
 clear a1 a2
 have s0:exe (xX (k+2)) (.ifs (.or (.not (.isi .tuple (.v 0))) (.not (.bi .all [(.lc [1] (.nm 1) .seq [(.v 0)] [] (.and (.isi .tuple (.v 1)) (.cmp .Eq (.bi .len [(.v 1)]) (.k (.int 2)))))]))) [.ret (.k (.bl false))] []) [some (wnD ws),none,none,none,none] st=.ok (.nx [some (wnD ws),none,none,none,none]) st:=by
  generalize (E.bi .all [(.lc [1] (.nm 1) .seq [(.v 0)] [] (.and (.isi .tuple (.v 1)) (.cmp .Eq (.bi .len [(.v 1)]) (.k (.int 2)))))])=EA at b1 ⊢
  generalize wnD ws=L at *
  exact ifs_e (by push_cast[is,b1])
 have s1:exe (xX (k+2)) (.ifs (.not (.bi .all [(.lc [3,4] (.tp [(.nm 3),(.nm 4)]) .seq [(.v 0)] [] (.and (.call "is_whole" [(.v 3),(.k (.int 0)),(.bin .Sub (.k (.int (512))) (.k (.int 1)))]) (.call "is_byte" [(.v 4)])))])) [.ret (.k (.bl false))] []) [some (wnD ws),none,none,none,none] st=.ok (.nx [some (wnD ws),none,none,none,none]) st:=by
  generalize (E.bi .all [(.lc [3,4] (.tp [(.nm 3),(.nm 4)]) .seq [(.v 0)] [] (.and (.call "is_whole" [(.v 3),(.k (.int 0)),(.bin .Sub (.k (.int (512))) (.k (.int 1)))]) (.call "is_byte" [(.v 4)])))])=EB at b2 ⊢
  generalize wnD ws=L at *
  exact ifs_e (by push_cast[b2])
 exact nx s0 (nx s1 (exes_rt (by rw[exe,a3];rfl)))
theorem valD_msk (ws:Wn) (p:Nat):valD (kvN ws) (.inl (p:Int))=(ws.find? fun x=>decide (x.1=p)).map fun x=>D.int (x.2:Int):=by
 unfold valD kvN
 induction ws with
|nil=>rfl
|cons a r ih=>
  rw[List.map_cons,List.find?_cons,List.find?_cons]
  by_cases c:a.1=p
  ·rw[decide_eq_true c,decide_eq_true (show (Sum.inl (a.1:Int):Ky)=.inl (p:Int) by rw[c])] <;> rfl
  ·rw[decide_eq_false c,decide_eq_false (show ¬(Sum.inl (a.1:Int):Ky)=.inl (p:Int) by intro q;injection q with q;omega)]
   exact ih
theorem valD_get (ws:Wn) (p:Nat):(valD (kvN ws) (.inl (p:Int))).getD (.int 0)=.int (mskN ws p:Int):=by
 rw[valD_msk,mskN]
 cases ws.find? fun x=>decide (x.1=p) <;> rfl
theorem msk_lt {ws:Wn} (h:∀x∈ws,x.1<512∧x.2<256) (p:Nat):mskN ws p<256:=by
 unfold mskN
 cases e:ws.find? fun x=>decide (x.1=p) with
|none=>exact (by decide:0<256)
|some x=>exact (h x (List.mem_of_find?_eq_some e)).2
theorem find_nd {ws:Wn} (hn:(ws.map (·.1)).Nodup) {x:Nat×Nat} (hx:x∈ws):(ws.find? fun y=>decide (y.1=x.1))=some x:=by
 induction ws with
|nil=>cases hx
|cons a r ih=>
  rw[List.map_cons,List.nodup_cons] at hn
  rw[List.find?_cons]
  rcases List.mem_cons.mp hx with rfl|hx
  ·rw[decide_eq_true rfl]
  ·have:a.1≠x.1:=fun q=>hn.1 (q ▸ List.mem_map_of_mem hx)
   rw[decide_eq_false this]
   exact ih hn.2 hx
theorem ixN_natF {n i:Nat} (h:i<n):ixN n (i:Int)=some i:=by
 unfold ixN
 rw[if_pos (by omega),if_pos (by omega)]
 simp
theorem natsF_get {l:List Nat} {i:Nat} (h:i<l.length):(nats l)[i]?=some (.int (l.getD i 0:Int)):=by
 simp[nats,List.getD_eq_getElem?_getD,h]
theorem natsF_set (l:List Nat) (i x:Nat):(nats l).set i (.int (x:Int))=nats (l.set i x):=List.map_set.symm
theorem wearL_ok {all:Wn} (hn:(all.map (·.1)).Nodup) (ha:∀x∈all,x.1<512∧x.2<256):∀(r:Wn) (l:List Nat),(∀x∈r,x∈all)→l.length=512→wearL 255 (kvN all) (kvN r) (nats l)=some (nats (wearN r l))
|[],l,_,_=>rfl
|x::r,l,hr,hl=>by
  have hx:=hr x (List.mem_cons_self ..)
  obtain⟨h1,h2⟩:=ha x hx
  have e1:valD (kvN all) (.inl (x.1:Int))=some (.int (x.2:Int)):=by rw[valD_msk,find_nd hn hx] <;> rfl
  have e2:ixN (nats l).length (x.1:Int)=some x.1:=ixN_natF (by rw[List.length_map];omega)
  have e3:(nats l)[x.1]?=some (.int (l.getD x.1 0:Int)):=natsF_get (by omega)
  show wearL 255 (kvN all) (((.inl (x.1:Int):Ky),D.int (x.2:Int))::kvN r) (nats l)=_
  rw[wearL,e1,e2]
  simp only[e3]
  rw[if_pos (by rw[decide_eq_true (by omega),decide_eq_true (by omega)] <;> rfl)]
  have e4:(((l.getD x.1 0:Nat):Int).toNat&&&((255:Int) - (x.2:Int)).toNat)=l.getD x.1 0&&&(255 - x.2):=by
   congr 1
   omega
  rw[e4,natsF_set]
  exact wearL_ok hn ha r _ (fun y hy=>hr y (List.mem_cons_of_mem _ hy)) (by rw[List.length_set];exact hl)
theorem lastP_3 (F x W b p q c:Option D):∀(r:Wn) (a:Option D),∃a',lastP 3 (kvN r) [F,x,W,a,b,p,q,c]=[F,x,W,a',b,p,q,c]
|[],a=>⟨a,rfl⟩
|y::r,a=>by
  rw[kvN,List.map_cons,lastP]
  exact lastP_3 F x W b p q c r _
theorem pairs_wn:∀ws:Wn,pairsD (wnD ws)=some (kvN ws)
|[]=>rfl
|a::r=>by
  have:=pairs_wn r
  unfold pairsD wnD at this ⊢
  simp only at this ⊢
  rw[List.map_cons,alls,this] <;> rfl
theorem mergeF:∀(r acc:Wn),((acc++r).map (·.1)).Nodup→mergeD (kvN acc) (kvN r)=kvN (acc++r)
|[],acc,_=>by simp[mergeD,kvN]
|a::r,acc,h=>by
  have e:putKD (kvN acc) (.inl (a.1:Int)) (.int (a.2:Int))=kvN (acc++[a]):=by
   unfold putKD
   rw[if_neg]
   ·simp[kvN]
   ·intro q
    obtain⟨kv,hkv,hq⟩:=List.any_eq_true.mp q
    obtain⟨y,hy,rfl⟩:=List.mem_map.mp hkv
    have hq:=of_decide_eq_true hq
    injection hq with hq
    have hq:y.1=a.1:=by omega
    rw[List.map_append,List.nodup_append] at h
    exact h.2.2 y.1 (List.mem_map_of_mem hy) a.1 (by simp) hq
  show mergeD (putKD (kvN acc) (.inl (a.1:Int)) (.int (a.2:Int))) (kvN r)=_
  rw[e,mergeF r (acc++[a]) (by rw[List.append_assoc];exact h),List.append_assoc] <;> rfl
theorem WnOk.nd {ws:Wn} (h:WnOk ws):(ws.map (·.1)).Nodup:=by
 rw[List.nodup_iff_pairwise_ne,List.pairwise_map]
 exact h.1.imp fun h=>by omega
theorem done_of_ok (k:Nat) {l:List Nat} (hf:FlOk l) {ws:Wn} (hw:WnOk ws) {ss:List Stp} (hs:∀s∈ss,StpOk s) {x:D} {st:Sto} (hx:Rd x (ss.map Stp.d) st) :
  callV false (pr.fn (k+1) "done_of" [flD l,x,wnD ws]) st=.ok (flD (doneN ws ss l)) st:=by
 obtain⟨F,hF⟩:∃F,F=flD l:=⟨_,rfl⟩
 obtain⟨W,hW⟩:∃F,F=wnD ws:=⟨_,rfl⟩
 have g0:(st++[Ob.lst (nats l),Ob.dic (kvN ws)])[st.length]?=some (.lst (nats l)):=by simp
 have g1:(st++[Ob.lst (nats l),Ob.dic (kvN ws)])[st.length+1]?=some (.dic (kvN ws)):=by simp
 have gg0:∀z:List Nat,(st++[Ob.lst (nats z),Ob.dic (kvN ws)])[st.length]?=some (.lst (nats z)):=fun z=>by simp
 have gg1:∀z:List Nat,(st++[Ob.lst (nats z),Ob.dic (kvN ws)])[st.length+1]?=some (.dic (kvN ws)):=fun z=>by simp
 have ss0:∀z y:List Nat,(st++[Ob.lst (nats z),Ob.dic (kvN ws)]).set st.length (.lst (nats y))=st++[Ob.lst (nats y),Ob.dic (kvN ws)]:=fun z y=>by simp
 have p0:exe (xX k) (.par 5 6 (.box (.bi .list [(.v 0)])) (.dof (.v 2))) [some F,some x,some W,none,none,none,none,none] st=.ok (.nx [some F,some x,some W,none,none,some (.ref st.length),some (.ref (st.length+1)),none]) (st++[.lst (nats l),.dic (kvN ws)]):=by
  have e1:biOp .list [F] st=.ok (.lst (nats l)) st:=by rw[hF] <;> rfl
  have e2:pairsD W=some (kvN ws):=by rw[hW];exact pairs_wn ws
  have e3:mergeD [] (kvN ws)=kvN ws:=mergeF ws [] hw.nd
  push_cast[e1,e2,e3,boxed,Dn.push,List.length_append,List.length_singleton,List.append_assoc,List.cons_append,List.nil_append]
 obtain⟨a0,ha0⟩:=lastP_3 (some F) (some x) (some W) none (some (.ref st.length)) (some (.ref (st.length+1))) none ws none
 have hl0:=hf.wear ws
 have p1:exe (xX k) (.wear 3 5 6 (255)) [some F,some x,some W,none,none,some (.ref st.length),some (.ref (st.length+1)),none] (st++[.lst (nats l),.dic (kvN ws)])=.ok (.nx [some F,some x,some W,a0,none,some (.ref st.length),some (.ref (st.length+1)),none]) (st++[.lst (nats (wearN ws l)),.dic (kvN ws)]):=by
  have e:=wearL_ok hw.nd hw.2 ws l (fun _ h=>h) hf.len
  rw[exe]
  simp only[wearX,List.getElem?_cons_succ,List.getElem?_cons_zero,Option.join_some,g0,g1,e,ha0,ss0] <;> rfl
 obtain⟨ρ',st',p2,q,w,l',a,c,e,hqw,hr,rfl,rfl,hl',hlen⟩:=exe_for3 (X:=xX k) (t:=.nm 4) (ik:=.seq) (ia:=[.v 1]) (b:=[.asg (.nm 3) (.ix (.v 4) (.k (.int 1))),.asg (.nm 7) (.ite (.cmp .Eq (.ix (.v 4) (.k (.int 0))) (.k (.str [99,108,101,97,114]))) (.k (.int (255))) (.bin .BitAnd (.ix (.v 5) (.v 3)) (.ix (.v 4) (.k (.int 2))))),.put (.v 5) (.v 3) (.bin .BitAnd (.v 7) (.bin .Sub (.k (.int (255))) (.dm .get (.v 6) [(.v 3),(.k (.int 0))])))]) (ρ:=[some F,some x,some W,a0,none,some (.ref st.length),some (.ref (st.length+1)),none]) (st:=st++[.lst (nats (wearN ws l)),.dic (kvN ws)]) (st1:=st++[.lst (nats (wearN ws l)),.dic (kvN ws)]) (ds:=[x]) (xs:=ss.map Stp.d) (gd:=gdOf x (st++[.lst (nats (wearN ws l)),.dic (kvN ws)]))
  (P:=fun rest ρ s=>∃(q w:List Stp) (l':List Nat) (a c e:Option D),ss=q++w∧rest=w.map Stp.d∧ρ=[some F,some x,some W,a,c,some (.ref st.length),some (.ref (st.length+1)),e]∧s=st++[.lst (nats l'),.dic (kvN ws)]∧l'=q.foldl (stepN ws) (wearN ws l)∧FlOk l')
  (by simp[dens,den,M.bind,M.pure,Dn.orNo]) (hx.app _).walk (by
   rintro r ρ s ⟨q,w,l',a,c,e,hqw,hr,rfl,rfl,hl',hfl⟩
   exact (hx.app _).grd (hx.app _)) ⟨[],ss,wearN ws l,a0,none,none,rfl,rfl,rfl,rfl,rfl,hl0⟩ (by
   rintro d rest ρ s ⟨q,w,l',a,c,e,hqw,hr,rfl,rfl,hl',hfl⟩
   cases w with
  |nil=>cases hr
  |cons z w=>
    rw[List.map_cons] at hr
    obtain⟨rfl,rfl⟩:=List.cons.inj hr
    obtain⟨hp,hb⟩:=hs z (by rw[hqw];simp)
    have hm:=msk_lt hw.2 z.p
    have hstep:stepN ws l' z=(q++[z]).foldl (stepN ws) (wearN ws l):=by rw[List.foldl_append,←hl'] <;> rfl
    have hfs:=hfl.step ws z
    have i5:ixOp (.ref st.length) (.int (z.p:Int)) (st++[.lst (nats l'),.dic (kvN ws)])=.ok (.int (l'.getD z.p 0:Int)) (st++[.lst (nats l'),.dic (kvN ws)]):=by
     simp only[ixOp,Dn.listOf,gg0,atI,List.length_map,ixN_natF (show z.p<l'.length by rw[hfl.len];exact hp),Option.bind_some,natsF_get (show z.p<l'.length by rw[hfl.len];exact hp)]
    have dg:dmOp .get (.ref (st.length+1)) [.int (z.p:Int),.int 0] (st++[.lst (nats l'),.dic (kvN ws)])=.ok (.int (mskN ws z.p:Int)) (st++[.lst (nats l'),.dic (kvN ws)]):=by
     simp only[dmOp,dicOf,gg1,kyOf,valD_get]
    have dm0:dicM (.ref (st.length+1)) (st++[.lst (nats l'),.dic (kvN ws)])=.ok () (st++[.lst (nats l'),.dic (kvN ws)]):=by
     simp only[dicM,dicOf,gg1]
    have su:∀st,binOp .Sub (.int 255) (.int (mskN ws z.p:Int)) st=.ok (.int ((255 - mskN ws z.p:Nat):Int)) st:=fun st=>subF (a:=255) (by omega) st
    have an:∀(x y:Nat) st,binOp .BitAnd (.int (x:Int)) (.int (y:Int)) st=.ok (.int ((x&&&y:Nat):Int)) st:=bandF
    have an5:∀(y:Nat) st,binOp .BitAnd (.int 255) (.int (y:Int)) st=.ok (.int ((255&&&y:Nat):Int)) st:=fun y st=>bandF 255 y st
    have sx:∀y:Nat,setIx (.ref st.length) (.int (z.p:Int)) (.int (y:Int)) (st++[.lst (nats l'),.dic (kvN ws)])=.ok () (st++[.lst (nats (l'.set z.p y)),.dic (kvN ws)]):=fun y=>by
     simp only[setIx,gg0,List.length_map,ixN_natF (show z.p<l'.length by rw[hfl.len];exact hp),natsF_set,ss0]
    have i1:∀st,ixOp z.d (.int 1) st=.ok (.int (z.p:Int)) st:=fun st=>by
     unfold Stp.d
     cases z.b <;> rfl
    have m4:(G.nm 4).set z.d [some F,some x,some W,a,c,some (.ref st.length),some (.ref (st.length+1)),e]=some [some F,some x,some W,a,some z.d,some (.ref st.length),some (.ref (st.length+1)),e]:=rfl
    obtain⟨y,hy,b2⟩:∃y:Nat,stepN ws l' z=l'.set z.p (y&&&(255 - mskN ws z.p))∧exe (xX k) (.asg (.nm 7) (.ite (.cmp .Eq (.ix (.v 4) (.k (.int 0))) (.k (.str [99,108,101,97,114]))) (.k (.int (255))) (.bin .BitAnd (.ix (.v 5) (.v 3)) (.ix (.v 4) (.k (.int 2)))))) [some F,some x,some W,some (.int (z.p:Int)),some z.d,some (.ref st.length),some (.ref (st.length+1)),e] (st++[.lst (nats l'),.dic (kvN ws)])=.ok (.nx [some F,some x,some W,some (.int (z.p:Int)),some z.d,some (.ref st.length),some (.ref (st.length+1)),some (.int (y:Int))]) (st++[.lst (nats l'),.dic (kvN ws)]):=by
     cases hzb:z.b with
    |none=>
      have i0:∀st,ixOp z.d (.int 0) st=.ok (.str sClear) st:=fun st=>by unfold Stp.d;rw[hzb] <;> rfl
      have eq:∀st,cmpOp .Eq (.str sClear) (.str [99,108,101,97,114]) st=.ok (.bl true) st:=fun st=>rfl
      refine⟨255,by rw[stepN,hzb],?_⟩
      generalize z.d=Z at *
      generalize sClear=SC at *
      push_cast[i0,eq] <;> rfl
    |some v=>
      have i0:∀st,ixOp z.d (.int 0) st=.ok (.str sBurn) st:=fun st=>by unfold Stp.d;rw[hzb] <;> rfl
      have i2:∀st,ixOp z.d (.int 2) st=.ok (.int (v:Int)) st:=fun st=>by unfold Stp.d;rw[hzb] <;> rfl
      have eq:∀st,cmpOp .Eq (.str sBurn) (.str [99,108,101,97,114]) st=.ok (.bl false) st:=fun st=>rfl
      refine⟨l'.getD z.p 0&&&v,by rw[stepN,hzb],?_⟩
      generalize z.d=Z at *
      generalize sBurn=SC at *
      push_cast[i0,eq,i2,i5,an]
    refine⟨_,[some F,some x,some W,some (.int (z.p:Int)),some z.d,some (.ref st.length),some (.ref (st.length+1)),some (.int (y:Int))],st++[.lst (nats (stepN ws l' z)),.dic (kvN ws)],m4,nx (ρ':=[some F,some x,some W,some (.int (z.p:Int)),some z.d,some (.ref st.length),some (.ref (st.length+1)),e]) (st':=st++[.lst (nats l'),.dic (kvN ws)]) ?_ (nx b2 (nx (ρ':=[some F,some x,some W,some (.int (z.p:Int)),some z.d,some (.ref st.length),some (.ref (st.length+1)),some (.int (y:Int))]) (st':=st++[.lst (nats (stepN ws l' z)),.dic (kvN ws)]) ?_ (by rw[exes]))),q++[z],w,stepN ws l' z,_,_,_,by rw[hqw];simp,rfl,rfl,rfl,hstep,hfs⟩
    ·generalize z.d=Z at *
     push_cast[i1]
    ·rw[hy]
     generalize z.d=Z at *
     push_cast[dm0,dg,su,an,sx])
 have hw0:w=[]:=by
  cases w with
 |nil=>rfl
 |cons a w=>cases hr
 subst hw0
 rw[List.append_nil] at hqw
 subst hqw
 rw[←hF,←hW]
 refine callV_pure (ext:=[.lst (nats l'),.dic (kvN ws)]) ((n_done_of k _ st).trans (fn_ret (ρ:=[some F,some x,some W,none,none,none,none,none]) (by rfl) (by rfl) (nx p0 (nx p1 (nx p2 (exes_rt ?_)))))) (flD_lim 0 _)
 have e3:biOp .tuple [.ref st.length] (st++[.lst (nats l'),.dic (kvN ws)])=.ok (flD (doneN ws ss l)) (st++[.lst (nats l'),.dic (kvN ws)]):=by
  simp only[biOp,Dn.listOf,gg0,flD,doneN,hl']
 push_cast[e3]
theorem done_ok (k:Nat) {l:List Nat} (hf:FlOk l) {ws:Wn} (hw:WnOk ws) (hwl:ws.length≤1000) {ss:List Stp} (hs:∀s∈ss,StpOk s) (hsl:ss.length≤1000) {x:D} {st:Sto} (hx:Rd x (ss.map Stp.d) st) :
  callV false (pr.fn (k+5) "done" [flD l,x,wnD ws]) st=.ok (flD (doneN ws ss l)) st:=by
 have e1:=need_flash_ok k hf st
 have e2:=is_worn_ok (k+1) hw hwl st
 have e2:callV false (pr.fn (k+4) "is_worn" [wnD ws]) st=.ok (.bl true) st:=e2
 have e3:=done_of_ok (k+3) hf hw hs hx
 have e3:callV false (pr.fn (k+4) "done_of" [flD l,x,wnD ws]) st=.ok (flD (doneN ws ss l)) st:=e3
 have a1:den (xX (k+4)) (.bi .all [(.lc [3] (.nm 3) .seq [(.v 1)] [] (.call "is_step" [(.v 3)]))]) [some (flD l),some x,some (wnD ws),none] st=.ok (.bl true) st:=by
  refine bi1 (lc_map (f:=Stp.d) (g:=fun _=>.bl true) (l:=ss) (ds:=[x]) (gd:=gdOf x st) (by simp[dens,den,M.bind,M.pure,Dn.orNo]) hx.walk (fun acc=>hx.grd (hx.app _)) (by omega) fun s hsm=>⟨_,rfl,rfl,fun acc => ?_⟩) (by rw[all_map (p:=fun _=>true) (l:=ss) (st:=st),show (ss.all fun _=>true)=true by simp])
  have:=is_step_ok (k+1) (hs s hsm) (st++[.lst acc])
  have:callV false (pr.fn (k+4) "is_step" [s.d]) (st++[.lst acc])=.ok (.bl true) (st++[.lst acc]):=this
  simp[den,dens,M.bind,M.pure,Dn.orNo,wipe,this]
 have b1:=t_den t_bi a1
 have is:=hx.isi
 have s1:exe (xX (k+4)) (.ifs (.or (.not (.isi .list (.v 1))) (.not (.bi .all [(.lc [3] (.nm 3) .seq [(.v 1)] [] (.call "is_step" [(.v 3)]))]))) [.rais "NoSteps"] []) [some (flD l),some x,some (wnD ws),none] st=.ok (.nx [some (flD l),some x,some (wnD ws),none]) st:=by
  generalize (E.bi .all [(.lc [3] (.nm 3) .seq [(.v 1)] [] (.call "is_step" [(.v 3)]))])=EA at b1 ⊢
  generalize wnD ws=L at *
  generalize flD l=M0 at *
  exact ifs_e (by push_cast[is,b1])
 obtain⟨R0,hR⟩:∃R0,R0=flD (doneN ws ss l):=⟨_,rfl⟩
 have lm:D.lim 0 R0=true:=by rw[hR];exact flD_lim 0 _
 rw[←hR] at e3 ⊢
 clear a1 b1 is
 clear hR
 generalize wnD ws=W0 at e2 e3 s1 ⊢
 generalize flD l=F0 at e1 e3 s1 ⊢
 refine callV_pure0 ((n_done (k+4) _ st).trans (fn_ret (ρ:=[some F0,some x,some W0,none]) (by rfl) (by rfl) (nx (ρ':=[some F0,some x,some W0,none]) (st':=st) ?_ (nx s1 (nx (ρ':=[some F0,some x,some W0,none]) (st':=st) (ifs_e ?_) (exes_rt ?_)))))) lm
 ·push_cast[e1]
 ·push_cast[e2]
 ·push_cast[e3]
theorem blank_ok (k:Nat) (st:Sto):callV false (pr.fn (k+1) "blank" []) st=.ok (flD (List.replicate 512 255)) st:=by
 refine callV_pure0 ((n_blank k _ st).trans (fn_ret (ρ:=[]) (by rfl) (by rfl) (exes_rt ?_))) (flD_lim 0 _)
 have e:rep [D.int 255] 512=nats (List.replicate 512 255):=by decide +kernel
 simp[runFn,exes,exe,tst,den,dens,tsts,part,andS,andC,M.bind,M.pure,Dn.orNo,Dn.no,biOp,Dn.listOf,cmpOp,Dn.truth,ixOp,derf,cmpOk,cmpOks,eqv,whenM,szOk,binOp,augOp,walk,Dn.asInt?,D.lim,D.lims,meOp,rtM,rtOf,meHas,isiM,seqOf,Dn.G.set,Dn.G.sets,isBl,isiOp,slOp,gdOf,boxed,Dn.push,setIx,catOf,inD,inF,inL,flatD,e,flD]
theorem blank_fl:FlOk (List.replicate 512 255):=⟨by rw[List.length_replicate],fun x hx=>by rw[(List.mem_replicate.mp hx).2];decide⟩
end Hb
namespace Hb
open PySem Dn
theorem and255 {x:Nat} (h:x<256):x&&&255=x:=by
 have:=Nat.and_two_pow_sub_one_eq_mod x 8
 rw[show 2 ^ 8 - 1=255 from rfl] at this
 rw[this]
 exact Nat.mod_eq_of_lt h
theorem getD_set (l:List Nat) (p i x:Nat) (h:p<l.length):(l.set p x).getD i 0=if p=i then x else l.getD i 0:=by
 rw[List.getD_eq_getElem?_getD,List.getD_eq_getElem?_getD,List.getElem?_set]
 by_cases c:p=i
 ·subst c
  rw[if_pos rfl,if_pos h,if_pos rfl] <;> rfl
 ·rw[if_neg c,if_neg c]
theorem ext_getD {l m:List Nat} (hl:l.length=m.length) (h:∀i,i<l.length→l.getD i 0=m.getD i 0):l=m:=by
 apply List.ext_getElem hl
 intro i h1 h2
 have:=h i h1
 rw[List.getD_eq_getElem?_getD,List.getD_eq_getElem?_getD,List.getElem?_eq_getElem h1,List.getElem?_eq_getElem h2] at this
 exact this
theorem msk_cons (a:Nat×Nat) (r:Wn) (i:Nat):mskN (a::r) i=if a.1=i then a.2 else mskN r i:=by
 unfold mskN
 rw[List.find?_cons]
 by_cases c:a.1=i
 ·rw[decide_eq_true c,if_pos c] <;> rfl
 ·rw[decide_eq_false c,if_neg c]
theorem msk_none {r:Wn} {i:Nat} (h:i ∉ r.map (·.1)):mskN r i=0:=by
 induction r with
|nil=>rfl
|cons a r ih=>
  rw[List.map_cons,List.mem_cons,not_or] at h
  rw[msk_cons,if_neg (fun q=>h.1 q.symm)]
  exact ih h.2
theorem wear_get {ws:Wn} (hn:(ws.map (·.1)).Nodup) (hw:∀x∈ws,x.1<512∧x.2<256):∀{l:List Nat},FlOk l→∀i,(wearN ws l).getD i 0=l.getD i 0&&&(255 - mskN ws i):=by
 induction ws with
|nil=>
  intro l h i
  exact (and255 (getD_lt h.lt i)).symm
|cons a r ih=>
  intro l h i
  rw[List.map_cons,List.nodup_cons] at hn
  have ha:=hw a (List.mem_cons_self ..)
  show (wearN r (wear1 l a)).getD i 0=_
  have h1:FlOk (wear1 l a):=h.set _ (and_lt (getD_lt h.lt _))
  rw[ih hn.2 (fun x hx=>hw x (List.mem_cons_of_mem _ hx)) h1 i,wear1,getD_set _ _ _ _ (by rw[h.len];exact ha.1),msk_cons]
  by_cases c:a.1=i
  ·subst c
   rw[if_pos rfl,if_pos rfl,msk_none hn.1]
   exact and255 (and_lt (getD_lt h.lt _))
  ·rw[if_neg c,if_neg c]
theorem wear_same {ws vs:Wn} (h1:(ws.map (·.1)).Nodup) (h2:(vs.map (·.1)).Nodup) (hw:∀x∈ws,x.1<512∧x.2<256) (hv:∀x∈vs,x.1<512∧x.2<256) (hm:∀i,mskN ws i=mskN vs i) {l:List Nat} (h:FlOk l):wearN ws l=wearN vs l:=by
 refine ext_getD (by rw[(h.wear ws).len,(h.wear vs).len]) fun i _ => ?_
 rw[wear_get h1 hw h,wear_get h2 hv h,hm]
theorem steps_same {ws vs:Wn} (hm:∀i,mskN ws i=mskN vs i) (ss:List Stp) (l:List Nat):ss.foldl (stepN ws) l=ss.foldl (stepN vs) l:=by
 have:stepN ws=stepN vs:=by
  funext l s
  rw[stepN,stepN,hm]
 rw[this]
theorem done_same {ws vs:Wn} (h1:(ws.map (·.1)).Nodup) (h2:(vs.map (·.1)).Nodup) (hw:∀x∈ws,x.1<512∧x.2<256) (hv:∀x∈vs,x.1<512∧x.2<256) (hm:∀i,mskN ws i=mskN vs i) (ss:List Stp) {l:List Nat} (h:FlOk l):doneN ws ss l=doneN vs ss l:=by
 rw[doneN,doneN,wear_same h1 h2 hw hv hm h,steps_same hm]
def Worn (ws:Wn) (l:List Nat):Prop:=∀i,l.getD i 0&&&(255 - mskN ws i)=l.getD i 0
theorem and_twice (x y:Nat):x&&&y&&&y=x&&&y:=by rw[Nat.and_assoc,Nat.and_self]
theorem wear_worn {ws:Wn} (hn:(ws.map (·.1)).Nodup) (hw:∀x∈ws,x.1<512∧x.2<256) {l:List Nat} (h:FlOk l):Worn ws (wearN ws l):=fun i=>by
 rw[wear_get hn hw h,and_twice]
theorem step_worn {ws:Wn} {l:List Nat} (h:FlOk l) (hl:Worn ws l) {s:Stp} (hs:s.p<512):Worn ws (stepN ws l s):=fun i=>by
 rw[stepN,getD_set _ _ _ _ (by rw[h.len];exact hs)]
 by_cases c:s.p=i
 ·subst c
  rw[if_pos rfl,and_twice]
 ·rw[if_neg c]
  exact hl i
theorem steps_worn {ws:Wn}:∀(ss:List Stp) {l:List Nat},FlOk l→Worn ws l→(∀s∈ss,s.p<512)→Worn ws (ss.foldl (stepN ws) l)
|[],_,_,hl,_=>hl
|s::r,_,h,hl,hs=>steps_worn r (h.step ws s) (step_worn h hl (hs s (List.mem_cons_self ..))) fun x hx=>hs x (List.mem_cons_of_mem _ hx)
theorem wear_id {ws:Wn} (hn:(ws.map (·.1)).Nodup) (hw:∀x∈ws,x.1<512∧x.2<256) {l:List Nat} (h:FlOk l) (hl:Worn ws l):wearN ws l=l:=by
 refine ext_getD (by rw[(h.wear ws).len,h.len]) fun i _ => ?_
 rw[wear_get hn hw h]
 exact hl i
theorem done_app {ws:Wn} (hn:(ws.map (·.1)).Nodup) (hw:∀x∈ws,x.1<512∧x.2<256) (A B:List Stp) (hs:∀s∈A,s.p<512) {l:List Nat} (h:FlOk l):doneN ws B (doneN ws A l)=doneN ws (A++B) l:=by
 have e:wearN ws (doneN ws A l)=doneN ws A l:=wear_id hn hw (h.done ws A) (steps_worn A (h.wear ws) (wear_worn hn hw h) hs)
 rw[doneN,e,doneN,doneN,List.foldl_append]
theorem sIxF (n d i:Nat):sIx n d (some (i:Int))=min i n:=by
 have h0:¬(i:Int)<0:=by omega
 simp only[sIx,if_neg h0,Int.toNat_natCast]
theorem cutL {α:Type} (l:List α) (i:Nat):cut l none (some (i:Int))=l.take i:=by
 have e:cut l none (some (i:Int))=(l.drop 0).take (sIx l.length l.length (some (i:Int)) - 0):=rfl
 rw[e,sIxF,List.drop_zero,Nat.sub_zero]
 by_cases h:i≤l.length
 ·rw[Nat.min_eq_left h]
 ·rw[Nat.min_eq_right (by omega),List.take_of_length_le (Nat.le_refl _),List.take_of_length_le (by omega)]
theorem cutR {α:Type} (l:List α) (i:Nat):cut l (some (i:Int)) none=l.drop i:=by
 have e:cut l (some (i:Int)) none=(l.drop (sIx l.length 0 (some (i:Int)))).take (l.length - sIx l.length 0 (some (i:Int))):=rfl
 rw[e,sIxF]
 by_cases h:i≤l.length
 ·rw[Nat.min_eq_left h]
  exact List.take_of_length_le (by simp)
 ·rw[Nat.min_eq_right (by omega),List.drop_of_length_le (Nat.le_refl _),List.drop_of_length_le (by omega)] <;> simp
theorem fl_cmps (n:Nat):∀l:List Nat,cmpOks n (nats l)=true
|[]=>rfl
|a::r=>by
  show cmpOks n (.int (a:Int)::nats r)=true
  rw[cmpOks,fl_cmps n r,Bool.and_true]
  cases n <;> rfl
theorem fl_inj:∀{l m:List Nat},eqvs (nats l) (nats m)=decide (l=m)
|[],[]=>rfl
|[],_::_=>rfl
|_::_,[]=>rfl
|a::r,c::t=>by
  show (decide ((a:Int)=(c:Int))&&eqvs (nats r) (nats t))=_
  rw[fl_inj,Bool.eq_iff_iff]
  simp only[Bool.and_eq_true,decide_eq_true_eq,List.cons.injEq]
  exact⟨fun ⟨h1,h2⟩=>⟨by omega,h2⟩,fun ⟨h1,h2⟩=>⟨by omega,h2⟩⟩
theorem fl_eq (l m:List Nat) (st:Sto):cmpOp .Eq (flD l) (flD m) st=.ok (.bl (decide (l=m))) st:=by
 have c1:cmpOk 60 (flD l)=true:=by show cmpOks 59 (nats l)=true;exact fl_cmps 59 l
 have c2:cmpOk 60 (flD m)=true:=by show cmpOks 59 (nats m)=true;exact fl_cmps 59 m
 have d1:derf (flD l) st=flD l:=rfl
 have d2:derf (flD m) st=flD m:=rfl
 have e:eqv (flD l) (flD m)=decide (l=m):=fl_inj
 simp only[cmpOp,d1,d2,c1,c2,e] <;> rfl
theorem fl_ne (l m:List Nat) (st:Sto):cmpOp .NotEq (flD l) (flD m) st=.ok (.bl (!decide (l=m))) st:=by
 have c1:cmpOk 60 (flD l)=true:=by show cmpOks 59 (nats l)=true;exact fl_cmps 59 l
 have c2:cmpOk 60 (flD m)=true:=by show cmpOks 59 (nats m)=true;exact fl_cmps 59 m
 have d1:derf (flD l) st=flD l:=rfl
 have d2:derf (flD m) st=flD m:=rfl
 have e:eqv (flD l) (flD m)=decide (l=m):=fl_inj
 simp only[cmpOp,d1,d2,c1,c2,e] <;> rfl
end Hb
namespace Hb
open PySem Dn
theorem aByte29 {ns:List Int} (hn:ns.length≤63) (k t:Nat) (r:Sto) (ht:t≤90000):∃x:Nat,callV false (pr.fn (k+5) "_law_a_byte" [.fz (ns.map D.int),.ref 0]) (T t r)=.ok (.int (x:Int)) (T (t+3) r)∧x<256:=by
 obtain⟨x,d1,hx⟩:=DR hn (k+1) t 256 r (by decide) (by omega)
 obtain⟨y,d2,hy⟩:=DR hn (k+1) (t+1) 256 r (by decide) (by omega)
 obtain⟨v,hv,d3⟩:=pick_i hn k (t+2) [0,1,255,85,170,x,y] r (by simp) (by omega)
 have d1:callV false (pr.fn (k+4) "_law_draw" [.fz (ns.map D.int),.ref 0,.int 256]) (T t r)=.ok (.int (x:Int)) (T (t+1) r):=d1
 have d2:callV false (pr.fn (k+4) "_law_draw" [.fz (ns.map D.int),.ref 0,.int 256]) (T (t+1) r)=.ok (.int (y:Int)) (T (t+2) r):=d2
 have d3:callV false (pr.fn (k+4) "_law_pick" [.fz (ns.map D.int),.ref 0,.lst [.int 0,.int 1,.int 255,.int 85,.int 170,.int (x:Int),.int (y:Int)]]) (T (t+2) r)=.ok (.int (v:Int)) (T (t+3) r):=d3
 generalize D.fz (ns.map D.int)=F at *
 refine⟨v,callV_T ((n__law_a_byte (k+4) _ _).trans (fn_ret (ρ:=[some F,some (.ref 0)]) (by rfl) (by rfl) (exes_rt ?_))) rfl,?_⟩
 ·generalize T t r=S0 at *
  generalize T (t+1) r=S1 at *
  generalize T (t+2) r=S2 at *
  generalize T (t+3) r=S3 at *
  have sz7:szOk 7=true:=rfl
  push_cast[d1,d2,d3,sz7]
 ·simp only[List.mem_cons,List.not_mem_nil,or_false] at hv
  omega
def putW (ms:Wn) (p m:Nat):Wn:=if p∈ms.map (·.1) then ms.map (fun x=>if x.1=p then (x.1,m) else x) else ms++[(p,m)]
structure MsOk (ms:Wn):Prop where
 nd:(ms.map (·.1)).Nodup
 lt:∀x∈ms,x.1<40∧x.2<256
theorem MsOk.w {ms:Wn} (h:MsOk ms):∀x∈ms,x.1<512∧x.2<256:=fun x hx=>⟨by have:=(h.lt x hx).1;omega,(h.lt x hx).2⟩
theorem putKD_kv (ms:Wn) (p m:Nat):putKD (kvN ms) (.inl (p:Int)) (.int (m:Int))=kvN (putW ms p m):=by
 have e:((kvN ms).any fun kv=>decide (kv.1=.inl (p:Int)))=decide (p∈ms.map (·.1)):=by
  rw[Bool.eq_iff_iff,List.any_eq_true,decide_eq_true_eq,List.mem_map]
  constructor
  ·rintro⟨kv,hkv,h⟩
   obtain⟨x,hx,rfl⟩:=List.mem_map.mp hkv
   have h:=of_decide_eq_true h
   injection h with h
   exact⟨x,hx,by omega⟩
  ·rintro⟨x,hx,rfl⟩
   exact⟨_,List.mem_map_of_mem hx,decide_eq_true rfl⟩
 unfold putKD putW
 rw[e]
 by_cases c:p∈ms.map (·.1)
 ·rw[decide_eq_true c,if_pos rfl,if_pos c,kvN,List.map_map,kvN,List.map_map]
  refine List.map_congr_left fun x _ => ?_
  show (if (Sum.inl (x.1:Int):Ky)=.inl (p:Int) then ((Sum.inl (x.1:Int):Ky),D.int (m:Int)) else ((Sum.inl (x.1:Int):Ky),D.int (x.2:Int)))=_
  by_cases d:x.1=p
  ·rw[if_pos (by rw[d])]
   show _=((Sum.inl (((if x.1=p then (x.1,m) else x):Nat×Nat).1:Int):Ky),D.int (((if x.1=p then (x.1,m) else x):Nat×Nat).2:Int))
   rw[if_pos d]
  ·rw[if_neg (by intro q;injection q with q;omega)]
   show _=((Sum.inl (((if x.1=p then (x.1,m) else x):Nat×Nat).1:Int):Ky),D.int (((if x.1=p then (x.1,m) else x):Nat×Nat).2:Int))
   rw[if_neg d]
 ·rw[decide_eq_false c,if_neg (by decide),if_neg c,kvN,kvN,List.map_append] <;> rfl
theorem putW_ok {ms:Wn} (h:MsOk ms) {p m:Nat} (hp:p<40) (hm:m<256):MsOk (putW ms p m)∧(putW ms p m).length≤ms.length+1:=by
 unfold putW
 by_cases c:p∈ms.map (·.1)
 ·rw[if_pos c]
  refine⟨⟨?_,fun x hx => ?_⟩,by rw[List.length_map];omega⟩
  ·rw[List.map_map,show ((fun x:Nat×Nat=>x.1)∘fun x:Nat×Nat=>if x.1=p then (x.1,m) else x)=fun x:Nat×Nat=>x.1 by
    funext x
    show (if x.1=p then (x.1,m) else x).1=x.1
    by_cases d:x.1=p
    ·rw[if_pos d]
    ·rw[if_neg d]]
   exact h.nd
  ·obtain⟨y,hy,rfl⟩:=List.mem_map.mp hx
   have:=h.lt y hy
   by_cases d:y.1=p
   ·rw[if_pos d]
    exact⟨this.1,hm⟩
   ·rw[if_neg d]
    exact this
 ·rw[if_neg c]
  refine⟨⟨?_,fun x hx => ?_⟩,by simp⟩
  ·rw[List.map_append,List.nodup_append]
   exact⟨h.nd,List.nodup_cons.mpr ⟨List.not_mem_nil,List.nodup_nil⟩,fun a ha b hb=>by
    rw[List.map_cons,List.map_nil,List.mem_singleton] at hb
    subst hb
    exact fun q=>c (q ▸ ha)⟩
  ·rcases List.mem_append.mp hx with hx|hx
   ·exact h.lt x hx
   ·rw[List.mem_singleton] at hx
    subst hx
    exact⟨hp,hm⟩
def srtK (ms:Wn):List Int:=srtG ltI (ms.map fun x=>(x.1:Int))
def srtW (ms:Wn):Wn:=(srtK ms).map fun z=>(z.toNat,mskN ms z.toNat)
theorem srtK_mem {ms:Wn} {z:Int} (h:z∈srtK ms):∃x∈ms,z=(x.1:Int):=by
 have:=(Dn.H.srtG_perm (lt:=ltI) _).mem_iff.mp h
 obtain⟨x,hx,rfl⟩:=List.mem_map.mp this
 exact⟨x,hx,rfl⟩
theorem srtK_lt {ms:Wn} (h:MsOk ms):(srtK ms).Pairwise (·<·):=by
 have h1:SrtO.Srtd ltI (srtK ms):=Dn.H.srtG_srtd Dn.H.sto_int.swo _
 have h2:(srtK ms).Nodup:=(Dn.H.srtG_perm (lt:=ltI) _).nodup_iff.mpr (by
  rw[List.nodup_iff_pairwise_ne,List.pairwise_map]
  have:=h.nd
  rw[List.nodup_iff_pairwise_ne,List.pairwise_map] at this
  exact this.imp fun h q=>h (by omega))
 have h3:(srtK ms).Pairwise fun x y=>ltI y x=false:=h1
 rw[List.nodup_iff_pairwise_ne] at h2
 exact (h3.and h2).imp fun {x y} ⟨a,b⟩=>by
  have a:=of_decide_eq_false a
  omega
theorem srtW_ok {ms:Wn} (h:MsOk ms):WnOk (srtW ms):=by
 refine⟨?_,fun x hx => ?_⟩
 ·unfold srtW
  rw[List.pairwise_map]
  refine (srtK_lt h).imp_of_mem fun {x y} hx hy hxy => ?_
  obtain⟨a,_,rfl⟩:=srtK_mem hx
  obtain⟨b,_,rfl⟩:=srtK_mem hy
  simp only[Int.toNat_natCast]
  omega
 ·obtain⟨z,hz,rfl⟩:=List.mem_map.mp hx
  obtain⟨a,ha,rfl⟩:=srtK_mem hz
  simp only[Int.toNat_natCast]
  exact⟨(h.w a ha).1,msk_lt h.w _⟩
theorem srtW_msk (ms:Wn) (i:Nat):mskN (srtW ms) i=mskN ms i:=by
 by_cases c:i∈ms.map (·.1)
 ·obtain⟨x,hx,rfl⟩:=List.mem_map.mp c
  have hm:(x.1:Int)∈srtK ms:=(Dn.H.srtG_perm (lt:=ltI) _).mem_iff.mpr (List.mem_map_of_mem (f:=fun x:Nat×Nat=>(x.1:Int)) hx)
  have key:∀l:List Int,(∀z∈l,0≤z)→(x.1:Int)∈l→mskN (l.map fun z=>(z.toNat,mskN ms z.toNat)) x.1=mskN ms x.1:=fun l=>by
   induction l with
  |nil=>exact fun _ h=>nomatch h
  |cons a r ih=>
    intro h0 hm
    rw[List.map_cons,msk_cons]
    by_cases d:a.toNat=x.1
    ·rw[if_pos d,d]
    ·rw[if_neg d]
     rcases List.mem_cons.mp hm with e|e
     ·exact absurd (by omega) d
     ·exact ih (fun z hz=>h0 z (List.mem_cons_of_mem _ hz)) e
  exact key _ (fun z hz=>by obtain⟨a,_,rfl⟩:=srtK_mem hz;omega) hm
 ·rw[msk_none c]
  refine msk_none fun h=>c ?_
  obtain⟨y,hy,rfl⟩:=List.mem_map.mp h
  obtain⟨z,hz,rfl⟩:=List.mem_map.mp hy
  obtain⟨a,ha,rfl⟩:=srtK_mem hz
  simp only[Int.toNat_natCast]
  exact List.mem_map_of_mem ha
theorem sorted_kv (ms:Wn) (hl:ms.length<64) (st:Sto):biOp .sorted [.lst ((kvN ms).map fun kv=>kyD kv.1)] st=.ok (.lst ((srtK ms).map .int)) st:=by
 have e:((kvN ms).map fun kv=>kyD kv.1)=(ms.map fun x=>(x.1:Int)).map D.int:=by
  rw[kvN,List.map_map,List.map_map] <;> rfl
 rw[e]
 cases ms with
|nil=>rfl
|cons a r=>
  have a1:alls tupT (((a::r).map fun x=>(x.1:Int)).map D.int)=none:=rfl
  have a2:=alls_int ((a::r).map fun x=>(x.1:Int))
  simp only[biOp,Dn.listOf,a1,a2]
  rw[if_pos (decide_eq_true (by rw[List.length_map];exact hl))] <;> rfl
end Hb
namespace Hb
open PySem Dn
theorem okI_nat29 {n:Nat} (h:n≤1000):okI (n:Int)=true:=by unfold okI;simp;omega
theorem rangeL_nat29 (n:Nat):rangeL 0 (n:Int)=(List.range n).map fun (i:Nat)=>D.int (i:Int):=by simp[rangeL]
theorem eq29 (a b:Nat) (st:Sto):cmpOp .Eq (.int (a:Int)) (.int (b:Int)) st=.ok (.bl (decide (a=b))) st:=by
 rw[eqI]
 congr 3
 exact propext ⟨fun h=>by omega,fun h=>by omega⟩
end Hb
namespace Hb
open PySem Dn
theorem law_ok (ns:List Int) (hn:ns.length≤63):∃st,pr.fn 40 "law" [.fz (ns.map D.int)] []=.ok (.bl true) st:=by
 obtain⟨F,hF⟩:∃F,F=D.fz (ns.map D.int):=⟨_,rfl⟩
 have draw:∀(t b:Nat) (r:Sto),0<b→t≤100000→∃x:Nat,callV false (pr.fn 39 "_law_draw" [F,.ref 0,.int (b:Int)]) (T t r)=.ok (.int (x:Int)) (T (t+1) r)∧x<b:=fun t b r hb ht=>by rw[hF];exact DR hn 36 t b r hb ht
 have byte:∀(t:Nat) (r:Sto),t≤90000→∃x:Nat,callV false (pr.fn 39 "_law_a_byte" [F,.ref 0]) (T t r)=.ok (.int (x:Int)) (T (t+3) r)∧x<256:=fun t r ht=>by rw[hF];exact aByte29 hn 34 t r ht
 rw[←hF]
 clear hF
 have sz2:szOk 2=true:=rfl
 have sz3:szOk 3=true:=rfl
 have p0:exe (xX 39) (.asg (.nm 1) (.box (.lst []))) [some F,none,none,none,none,none,none,none,none,none,none] []=.ok (.nx [some F,some ((.ref 0)),none,none,none,none,none,none,none,none,none]) (T 0 []):=by
  simp[exe,andS,den,dens,M.bind,M.pure,whenM,szOk,boxed,Dn.push,Dn.G.set,T]
 have e1:∀st,callV false (pr.fn 39 "blank" []) st=.ok (flD (List.replicate 512 255)) st:=fun st=>blank_ok 38 st
 obtain⟨l0,hl0⟩:∃l,l=List.replicate 512 255:=⟨_,rfl⟩
 have f0:FlOk l0:=by rw[hl0];exact blank_fl
 rw[←hl0] at e1
 have p1:exe (xX 39) (.asg (.nm 2) (.box (.bi .list [(.call "blank" [])]))) [some F,some ((.ref 0)),none,none,none,none,none,none,none,none,none] (T 0 [])=.ok (.nx [some F,some ((.ref 0)),some ((.ref 1)),none,none,none,none,none,none,none,none]) (T 0 [.lst (nats l0)]):=by
  have bl:∀st,biOp .list [flD l0] st=.ok (.lst (nats l0)) st:=fun st=>rfl
  have bx:boxed (.lst (nats l0)) (T 0 [])=.ok (.ref 1) (T 0 [.lst (nats l0)]):=rfl
  push_cast[e1,bl,bx]
 have rng:∀(n:Nat) (st:Sto),n≤1000→walk .rng1 [.int (n:Int)] st=.ok ((List.range n).map fun (i:Nat)=>D.int (i:Int),[]) st:=fun n st h=>by
  have okm:=okI_nat29 h
  have rgm:=rangeL_nat29 n
  unfold walk
  simp only[okm,if_true,rgm]
 obtain⟨ρ2,st2,p2,q,w,l,t,c,hqw,hr,rfl,rfl,ht,hl⟩:=exe_for2 (X:=xX 39) (t:=.nm 3) (ik:=.rng1) (ia:=[.k (.int 6)]) (b:=[.put (.v 2) (.call "_law_draw" [(.v 0),(.v 1),(.k (.int 40))]) (.call "_law_a_byte" [(.v 0),(.v 1)])]) (ρ:=[some F,some ((.ref 0)),some ((.ref 1)),none,none,none,none,none,none,none,none]) (st:=T 0 [.lst (nats l0)]) (st1:=T 0 [.lst (nats l0)]) (ds:=[.int 6]) (xs:=(List.range 6).map fun (i:Nat)=>D.int (i:Int))
  (P:=fun rest ρ s=>∃(q w:List Nat) (l:List Nat) (t:Nat) (c:Option D),List.range 6=q++w∧rest=w.map (fun (i:Nat)=>D.int (i:Int))∧ρ=[some F,some ((.ref 0)),some ((.ref 1)),c,none,none,none,none,none,none,none]∧s=T t [.lst (nats l)]∧t≤4*q.length∧FlOk l)
  (by simp[dens,den,M.bind,M.pure]) (rng 6 _ (by decide)) ⟨[],_,l0,0,none,rfl,rfl,rfl,rfl,Nat.le_refl _,f0⟩ (by
   rintro d rest ρ s ⟨q,w,l,t,c,hqw,hr,rfl,rfl,ht,hl⟩
   cases w with
  |nil=>cases hr
  |cons z w=>
    rw[List.map_cons] at hr
    obtain⟨rfl,rfl⟩:=List.cons.inj hr
    have hq:q.length<6:=by have:=congrArg List.length hqw;rw[List.length_range,List.length_append,List.length_cons] at this;omega
    obtain⟨x,ex,hx⟩:=byte t [.lst (nats l)] (by omega)
    obtain⟨p,ep,hp⟩:=draw (t+3) 40 [.lst (nats l)] (by decide) (by omega)
    have ep:callV false (pr.fn 39 "_law_draw" [F,.ref 0,.int 40]) (T (t+3) [.lst (nats l)])=.ok (.int (p:Int)) (T (t+4) [.lst (nats l)]):=ep
    have sx:setIx (.ref 1) (.int (p:Int)) (.int (x:Int)) (T (t+4) [.lst (nats l)])=.ok () (T (t+4) [.lst (nats (l.set p x))]):=by
     have g:(T (t+4) [.lst (nats l)])[1]?=some (.lst (nats l)):=rfl
     simp only[setIx,g,List.length_map,ixN_natF (show p<l.length by rw[hl.len];omega),natsF_set] <;> rfl
    refine⟨[some F,some ((.ref 0)),some ((.ref 1)),some ((.int (z:Int))),none,none,none,none,none,none,none],[some F,some ((.ref 0)),some ((.ref 1)),some ((.int (z:Int))),none,none,none,none,none,none,none],T (t+4) [.lst (nats (l.set p x))],rfl,nx (ρ':=[some F,some ((.ref 0)),some ((.ref 1)),some ((.int (z:Int))),none,none,none,none,none,none,none]) (st':=T (t+4) [.lst (nats (l.set p x))]) ?_ (by rw[exes]),q++[z],w,l.set p x,t+4,some (.int (z:Int)),by rw[hqw];simp,rfl,rfl,rfl,by rw[List.length_append,List.length_singleton];omega,hl.set p hx⟩
    generalize T t [.lst (nats l)]=S0 at *
    generalize T (t+3) [.lst (nats l)]=S1 at *
    generalize T (t+4) [.lst (nats l)]=S2 at *
    generalize T (t+4) [.lst (nats (l.set p x))]=S3 at *
    push_cast[ex,ep,sx])
 have hw0:w=[]:=by
  cases w with
 |nil=>rfl
 |cons a w=>cases hr
 subst hw0
 have ht2:t≤24:=by
  have:=congrArg List.length hqw
  rw[List.length_range,List.append_nil] at this
  omega
 clear ht hqw hr
 have p3:exe (xX 39) (.asg (.nm 4) .dnew) [some F,some ((.ref 0)),some ((.ref 1)),c,none,none,none,none,none,none,none] (T t [.lst (nats l)])=.ok (.nx [some F,some ((.ref 0)),some ((.ref 1)),c,some ((.ref 2)),none,none,none,none,none,none]) (T t [.lst (nats l),.dic []]):=by
  have pu:Dn.push (.dic []) (T t [.lst (nats l)])=.ok (.ref 2) (T t [.lst (nats l),.dic []]):=rfl
  push_cast[pu]
 obtain⟨n4,e4,hn4⟩:=draw t 4 [.lst (nats l),.dic []] (by decide) (by omega)
 have e4:callV false (pr.fn 39 "_law_draw" [F,.ref 0,.int 4]) (T t [.lst (nats l),.dic []])=.ok (.int (n4:Int)) (T (t+1) [.lst (nats l),.dic []]):=e4
 obtain⟨ρ4,st4,p4,q,w,ms,t4,c4,hqw,hr,rfl,rfl,ht,hms,hml⟩:=exe_for2 (X:=xX 39) (t:=.nm 3) (ik:=.rng1) (ia:=[.call "_law_draw" [(.v 0),(.v 1),(.k (.int 4))]]) (b:=[.dput (.v 4) (.call "_law_draw" [(.v 0),(.v 1),(.k (.int 40))]) (.call "_law_a_byte" [(.v 0),(.v 1)])]) (ρ:=[some F,some ((.ref 0)),some ((.ref 1)),c,some ((.ref 2)),none,none,none,none,none,none]) (st:=T t [.lst (nats l),.dic []]) (st1:=T (t+1) [.lst (nats l),.dic []]) (ds:=[.int (n4:Int)]) (xs:=(List.range n4).map fun (i:Nat)=>D.int (i:Int))
  (P:=fun rest ρ s=>∃(q w:List Nat) (ms:Wn) (t4:Nat) (c4:Option D),List.range n4=q++w∧rest=w.map (fun (i:Nat)=>D.int (i:Int))∧ρ=[some F,some ((.ref 0)),some ((.ref 1)),c4,some ((.ref 2)),none,none,none,none,none,none]∧s=T t4 [.lst (nats l),.dic (kvN ms)]∧t4≤t+1+4*q.length∧MsOk ms∧ms.length≤q.length)
  (dens1 (by push_cast[e4])) (rng n4 _ (by omega)) ⟨[],_,[],t+1,c,rfl,rfl,rfl,rfl,Nat.le_refl _,⟨List.nodup_nil,fun x hx=>nomatch hx⟩,Nat.le_refl _⟩ (by
   rintro d rest ρ s ⟨q,w,ms,t4,c4,hqw,hr,rfl,rfl,ht,hms,hml⟩
   cases w with
  |nil=>cases hr
  |cons z w=>
    rw[List.map_cons] at hr
    obtain⟨rfl,rfl⟩:=List.cons.inj hr
    have hq:q.length<n4:=by have:=congrArg List.length hqw;rw[List.length_range,List.length_append,List.length_cons] at this;omega
    obtain⟨x,ex,hx⟩:=byte t4 [.lst (nats l),.dic (kvN ms)] (by omega)
    obtain⟨p,ep,hp⟩:=draw (t4+3) 40 [.lst (nats l),.dic (kvN ms)] (by decide) (by omega)
    have ep:callV false (pr.fn 39 "_law_draw" [F,.ref 0,.int 40]) (T (t4+3) [.lst (nats l),.dic (kvN ms)])=.ok (.int (p:Int)) (T (t4+4) [.lst (nats l),.dic (kvN ms)]):=ep
    have sx:dputM (.ref 2) (.int (p:Int)) (.int (x:Int)) (T (t4+4) [.lst (nats l),.dic (kvN ms)])=.ok () (T (t4+4) [.lst (nats l),.dic (kvN (putW ms p x))]):=by
     have g:(T (t4+4) [.lst (nats l),.dic (kvN ms)])[2]?=some (.dic (kvN ms)):=rfl
     have hz:szOk (kvN ms).length=true:=Nat.ble_eq_true_of_le (by rw[kvN,List.length_map];omega)
     simp only[dputM,dicOf,g,kyOf,hz,if_true,putKD_kv] <;> rfl
    obtain⟨hm1,hm2⟩:=putW_ok hms hp hx
    refine⟨[some F,some ((.ref 0)),some ((.ref 1)),some ((.int (z:Int))),some ((.ref 2)),none,none,none,none,none,none],[some F,some ((.ref 0)),some ((.ref 1)),some ((.int (z:Int))),some ((.ref 2)),none,none,none,none,none,none],T (t4+4) [.lst (nats l),.dic (kvN (putW ms p x))],rfl,nx (ρ':=[some F,some ((.ref 0)),some ((.ref 1)),some ((.int (z:Int))),some ((.ref 2)),none,none,none,none,none,none]) (st':=T (t4+4) [.lst (nats l),.dic (kvN (putW ms p x))]) ?_ (by rw[exes]),q++[z],w,putW ms p x,t4+4,some (.int (z:Int)),by rw[hqw];simp,rfl,rfl,rfl,by rw[List.length_append,List.length_singleton];omega,hm1,by rw[List.length_append,List.length_singleton];omega⟩
    have dm:dicM (.ref 2) (T (t4+4) [.lst (nats l),.dic (kvN ms)])=.ok () (T (t4+4) [.lst (nats l),.dic (kvN ms)]):=rfl
    generalize T t4 [.lst (nats l),.dic (kvN ms)]=S0 at *
    generalize T (t4+3) [.lst (nats l),.dic (kvN ms)]=S1 at *
    generalize T (t4+4) [.lst (nats l),.dic (kvN ms)]=S2 at *
    generalize T (t4+4) [.lst (nats l),.dic (kvN (putW ms p x))]=S3 at *
    push_cast[ex,ep,sx])
 have hw0:w=[]:=by
  cases w with
 |nil=>rfl
 |cons a w=>cases hr
 subst hw0
 have hq4:q.length=n4:=by
  have:=congrArg List.length hqw
  rw[List.length_range,List.append_nil] at this
  omega
 have ht4:t4≤60:=by omega
 have hml:ms.length<10:=by omega
 clear ht hqw hr hq4
 have hws:=srtW_ok hms
 have hwl:(srtW ms).length<10:=by rw[srtW,List.length_map,srtK,(Dn.H.srtG_perm (lt:=ltI) _).length_eq,List.length_map];exact hml
 have p5:exe (xX 39) (.asg (.nm 5) (.bi .tuple [(.lc [6] (.nm 6) .seq [(.bi .sorted [(.bi .list [(.v 4)])])] [] (.tup [(.v 6),(.dm .ix (.v 4) [(.v 6)])]))])) [some F,some ((.ref 0)),some ((.ref 1)),c4,some ((.ref 2)),none,none,none,none,none,none] (T t4 [.lst (nats l),.dic (kvN ms)])=.ok (.nx [some F,some ((.ref 0)),some ((.ref 1)),c4,some ((.ref 2)),some ((wnD (srtW ms))),none,none,none,none,none]) (T t4 [.lst (nats l),.dic (kvN ms)]):=by
  have g:∀a:List D,(T t4 [.lst (nats l),.dic (kvN ms)]++[.lst a])[2]?=some (.dic (kvN ms)):=fun a=>rfl
  have e1:biOp .list [.ref 2] (T t4 [.lst (nats l),.dic (kvN ms)])=.ok (.lst ((kvN ms).map fun kv=>kyD kv.1)) (T t4 [.lst (nats l),.dic (kvN ms)]):=rfl
  have e2:=sorted_kv ms (by omega) (T t4 [.lst (nats l),.dic (kvN ms)])
  have a1:den (xX 39) (.lc [6] (.nm 6) .seq [(.bi .sorted [(.bi .list [(.v 4)])])] [] (.tup [(.v 6),(.dm .ix (.v 4) [(.v 6)])])) [some F,some ((.ref 0)),some ((.ref 1)),c4,some ((.ref 2)),none,none,none,none,none,none] (T t4 [.lst (nats l),.dic (kvN ms)])=.ok (.lst ((srtK ms).map fun z=>wn1 (z.toNat,mskN ms z.toNat))) (T t4 [.lst (nats l),.dic (kvN ms)]):=by
   refine lc_map (f:=D.int) (ds:=[.lst ((srtK ms).map .int)]) (gd:=[]) (dens1 (by push_cast[e1,e2])) (by simp[walk,Dn.listOf,gdOf]) (fun _=>rfl) (by have:=hwl;rw[srtW,List.length_map] at this;omega) fun z hz=>⟨[some F,some ((.ref 0)),some ((.ref 1)),c4,some ((.ref 2)),none,some ((.int z)),none,none,none,none],rfl,rfl,fun acc => ?_⟩
   obtain⟨x,hx,rfl⟩:=srtK_mem hz
   have hv:valD (kvN ms) (.inl (x.1:Int))=some (.int (mskN ms x.1:Int)):=by
    rw[valD_msk,mskN,find_nd hms.nd hx] <;> rfl
   have d1:dmOp .ix (.ref 2) [.int (x.1:Int)] (T t4 [.lst (nats l),.dic (kvN ms)]++[.lst acc])=.ok (.int (mskN ms x.1:Int)) (T t4 [.lst (nats l),.dic (kvN ms)]++[.lst acc]):=by
    simp only[dmOp,dicOf,g,kyOf,hv]
   have dm:dicM (.ref 2) (T t4 [.lst (nats l),.dic (kvN ms)]++[.lst acc])=.ok () (T t4 [.lst (nats l),.dic (kvN ms)]++[.lst acc]):=rfl
   rw[Int.toNat_natCast]
   show _=R.ok (D.tup [.int (x.1:Int),.int (mskN ms x.1:Int)]) _
   generalize T t4 [.lst (nats l),.dic (kvN ms)]++[.lst acc]=S0 at *
   push_cast[d1,dm,sz2]
  have e3:biOp .tuple [.lst ((srtK ms).map fun z=>wn1 (z.toNat,mskN ms z.toNat))] (T t4 [.lst (nats l),.dic (kvN ms)])=.ok (wnD (srtW ms)) (T t4 [.lst (nats l),.dic (kvN ms)]):=by
   rw[wnD,srtW,List.map_map] <;> rfl
  have a2:=bi1 a1 e3
  generalize (E.bi .tuple [(.lc [6] (.nm 6) .seq [(.bi .sorted [(.bi .list [(.v 4)])])] [] (.tup [(.v 6),(.dm .ix (.v 4) [(.v 6)])]))])=EA at a2 ⊢
  push_cast[a2]
 obtain⟨WD,hWD⟩:∃W,W=wnD (srtW ms):=⟨_,rfl⟩
 rw[←hWD] at p5
 have p6:exe (xX 39) (.par 8 9 (.box (.lst [])) (.box (.bi .list [(.v 2)]))) [some F,some ((.ref 0)),some ((.ref 1)),c4,some ((.ref 2)),some WD,none,none,none,none,none] (T t4 [.lst (nats l),.dic (kvN ms)])=.ok (.nx [some F,some ((.ref 0)),some ((.ref 1)),c4,some ((.ref 2)),some WD,none,none,some ((.ref 3)),some ((.ref 4)),none]) (T t4 [.lst (nats l),.dic (kvN ms),.lst [],.lst (nats l)]):=by
  have g:biOp .list [.ref 1] (T t4 [.lst (nats l),.dic (kvN ms),.lst []])=.ok (.lst (nats l)) (T t4 [.lst (nats l),.dic (kvN ms),.lst []]):=rfl
  have b1:boxed (.lst []) (T t4 [.lst (nats l),.dic (kvN ms)])=.ok (.ref 3) (T t4 [.lst (nats l),.dic (kvN ms),.lst []]):=rfl
  have b2:boxed (.lst (nats l)) (T t4 [.lst (nats l),.dic (kvN ms),.lst []])=.ok (.ref 4) (T t4 [.lst (nats l),.dic (kvN ms),.lst [],.lst (nats l)]):=rfl
  have sz0:szOk 0=true:=rfl
  push_cast[g,b1,b2,sz0]
 obtain⟨c7,hc7⟩:∃c7,lastP 6 (kvN ms) [some F,some ((.ref 0)),some ((.ref 1)),c4,some ((.ref 2)),some WD,none,none,some ((.ref 3)),some ((.ref 4)),none]=[some F,some ((.ref 0)),some ((.ref 1)),c4,some ((.ref 2)),some WD,c7,none,some ((.ref 3)),some ((.ref 4)),none]:=by
  have:∀(r:Wn) (a:Option D),∃c7,lastP 6 (kvN r) [some F,some ((.ref 0)),some ((.ref 1)),c4,some ((.ref 2)),some WD,a,none,some ((.ref 3)),some ((.ref 4)),none]=[some F,some ((.ref 0)),some ((.ref 1)),c4,some ((.ref 2)),some WD,c7,none,some ((.ref 3)),some ((.ref 4)),none]:=fun r=>by
   induction r with
  |nil=>exact fun a=>⟨a,rfl⟩
  |cons y r ih=>exact fun a=>by rw[kvN,List.map_cons,lastP];exact ih _
  exact this ms none
 have p7:exe (xX 39) (.wear 6 9 4 (255)) [some F,some ((.ref 0)),some ((.ref 1)),c4,some ((.ref 2)),some WD,none,none,some ((.ref 3)),some ((.ref 4)),none] (T t4 [.lst (nats l),.dic (kvN ms),.lst [],.lst (nats l)])=.ok (.nx [some F,some ((.ref 0)),some ((.ref 1)),c4,some ((.ref 2)),some WD,c7,none,some ((.ref 3)),some ((.ref 4)),none]) (T t4 [.lst (nats l),.dic (kvN ms),.lst [],.lst (nats (wearN ms l))]):=by
  have e:=wearL_ok hms.nd hms.w ms l (fun _ h=>h) hl.len
  have g1:(T t4 [.lst (nats l),.dic (kvN ms),.lst [],.lst (nats l)])[4]?=some (.lst (nats l)):=rfl
  have g2:(T t4 [.lst (nats l),.dic (kvN ms),.lst [],.lst (nats l)])[2]?=some (.dic (kvN ms)):=rfl
  rw[exe]
  simp only[wearX,List.getElem?_cons_succ,List.getElem?_cons_zero,Option.join_some,g1,g2,e,hc7] <;> rfl
 obtain⟨n8,e8,hn8⟩:=draw t4 30 [.lst (nats l),.dic (kvN ms),.lst [],.lst (nats (wearN ms l))] (by decide) (by omega)
 have e8:callV false (pr.fn 39 "_law_draw" [F,.ref 0,.int 30]) (T t4 [.lst (nats l),.dic (kvN ms),.lst ([]),.lst (nats (wearN ms l))])=.ok (.int (n8:Int)) (T (t4+1) [.lst (nats l),.dic (kvN ms),.lst ([]),.lst (nats (wearN ms l))]):=e8
 obtain⟨ρ8,st8,p8,q,w,ss,du,t8,c8,c9,c10,hqw,hr,rfl,rfl,ht,hss,hsl,hdu⟩:=exe_for2 (X:=xX 39) (t:=.nm 3) (ik:=.rng1) (ia:=[.call "_law_draw" [(.v 0),(.v 1),(.k (.int 30))]]) (b:=[.par 6 10 (.call "_law_draw" [(.v 0),(.v 1),(.k (.int 40))]) (.call "_law_a_byte" [(.v 0),(.v 1)]),.exp (.me .append (.v 8) [(.ite (.cmp .Eq (.call "_law_draw" [(.v 0),(.v 1),(.k (.int 3))]) (.k (.int 0))) (.tup [(.k (.str [99,108,101,97,114])),(.v 6)]) (.tup [(.k (.str [98,117,114,110])),(.v 6),(.v 10)]))]),.put (.v 9) (.v 6) (.ite (.cmp .Eq (.ix (.ix (.v 8) (.neg (.k (.int 1)))) (.k (.int 0))) (.k (.str [99,108,101,97,114]))) (.k (.int 255)) (.bin .BitAnd (.ix (.v 9) (.v 6)) (.v 10))),.put (.v 9) (.v 6) (.bin .BitAnd (.ix (.v 9) (.v 6)) (.bin .Sub (.k (.int 255)) (.dm .get (.v 4) [(.v 6),(.k (.int 0))])))]) (ρ:=[some F,some ((.ref 0)),some ((.ref 1)),c4,some ((.ref 2)),some WD,c7,none,some ((.ref 3)),some ((.ref 4)),none]) (st:=T t4 [.lst (nats l),.dic (kvN ms),.lst ([]),.lst (nats (wearN ms l))]) (st1:=T (t4+1) [.lst (nats l),.dic (kvN ms),.lst ([]),.lst (nats (wearN ms l))]) (ds:=[.int (n8:Int)]) (xs:=(List.range n8).map fun (i:Nat)=>D.int (i:Int))
  (P:=fun rest ρ s=>∃(q w:List Nat) (ss:List Stp) (du:List Nat) (t8:Nat) (c8 c9 c10:Option D),List.range n8=q++w∧rest=w.map (fun (i:Nat)=>D.int (i:Int))∧ρ=[some F,some ((.ref 0)),some ((.ref 1)),c8,some ((.ref 2)),some WD,c9,none,some ((.ref 3)),some ((.ref 4)),c10]∧s=T t8 [.lst (nats l),.dic (kvN ms),.lst (ss.map Stp.d),.lst (nats du)]∧t8≤t4+1+5*q.length∧(∀x∈ss,StpOk x)∧ss.length=q.length∧du=ss.foldl (stepN ms) (wearN ms l))
  (dens1 (by
   generalize T t4 [.lst (nats l),.dic (kvN ms),.lst ([]),.lst (nats (wearN ms l))]=S0 at *
   generalize T (t4+1) [.lst (nats l),.dic (kvN ms),.lst ([]),.lst (nats (wearN ms l))]=S1 at *
   push_cast[e8])) (rng n8 _ (by omega)) ⟨[],_,[],_,t4+1,_,_,_,rfl,rfl,rfl,rfl,Nat.le_refl _,(fun x hx=>nomatch hx),rfl,rfl⟩ (by
   rintro d rest ρ s ⟨q,w,ss,du,t8,c8,c9,c10,hqw,hr,rfl,rfl,ht,hss,hsl,hdu⟩
   cases w with
  |nil=>cases hr
  |cons z w=>
    rw[List.map_cons] at hr
    obtain⟨rfl,rfl⟩:=List.cons.inj hr
    have hq:q.length<n8:=by have:=congrArg List.length hqw;rw[List.length_range,List.length_append,List.length_cons] at this;omega
    have hfd:FlOk du:=by rw[hdu];exact (hl.wear ms).steps ms ss
    obtain⟨p,ep,hp⟩:=draw t8 40 [.lst (nats l),.dic (kvN ms),.lst (ss.map Stp.d),.lst (nats du)] (by decide) (by omega)
    have ep:callV false (pr.fn 39 "_law_draw" [F,.ref 0,.int 40]) (T t8 [.lst (nats l),.dic (kvN ms),.lst (ss.map Stp.d),.lst (nats du)])=.ok (.int (p:Int)) (T (t8+1) [.lst (nats l),.dic (kvN ms),.lst (ss.map Stp.d),.lst (nats du)]):=ep
    obtain⟨x,ex,hx⟩:=byte (t8+1) [.lst (nats l),.dic (kvN ms),.lst (ss.map Stp.d),.lst (nats du)] (by omega)
    have ex:callV false (pr.fn 39 "_law_a_byte" [F,.ref 0]) (T (t8+1) [.lst (nats l),.dic (kvN ms),.lst (ss.map Stp.d),.lst (nats du)])=.ok (.int (x:Int)) (T (t8+4) [.lst (nats l),.dic (kvN ms),.lst (ss.map Stp.d),.lst (nats du)]):=ex
    obtain⟨u,eu,hu⟩:=draw (t8+4) 3 [.lst (nats l),.dic (kvN ms),.lst (ss.map Stp.d),.lst (nats du)] (by decide) (by omega)
    have eu:callV false (pr.fn 39 "_law_draw" [F,.ref 0,.int 3]) (T (t8+4) [.lst (nats l),.dic (kvN ms),.lst (ss.map Stp.d),.lst (nats du)])=.ok (.int (u:Int)) (T (t8+5) [.lst (nats l),.dic (kvN ms),.lst (ss.map Stp.d),.lst (nats du)]):=eu
    have q0:∀st,cmpOp .Eq (.int (u:Int)) (.int 0) st=.ok (.bl (decide (u=0))) st:=fun st=>eq29 u 0 st
    have hpl:p<du.length:=by rw[hfd.len];omega
    obtain⟨sp,hsp,hspd,hspp⟩:∃sp:Stp,sp=⟨p,if u=0 then none else some x⟩∧StpOk sp∧sp.p=p:=⟨_,rfl,⟨by show p<512;omega,fun y hy=>by
     by_cases hu0:u=0
     ·rw[if_pos hu0] at hy;cases hy
     ·rw[if_neg hu0] at hy;cases hy;exact hx⟩,rfl⟩
    have s1:exe (xX 39) (.par 6 10 (.call "_law_draw" [(.v 0),(.v 1),(.k (.int 40))]) (.call "_law_a_byte" [(.v 0),(.v 1)])) [some F,some ((.ref 0)),some ((.ref 1)),some ((.int (z:Int))),some ((.ref 2)),some WD,c9,none,some ((.ref 3)),some ((.ref 4)),c10] (T t8 [.lst (nats l),.dic (kvN ms),.lst (ss.map Stp.d),.lst (nats du)])=.ok (.nx [some F,some ((.ref 0)),some ((.ref 1)),some ((.int (z:Int))),some ((.ref 2)),some WD,some ((.int (p:Int))),none,some ((.ref 3)),some ((.ref 4)),some ((.int (x:Int)))]) (T (t8+4) [.lst (nats l),.dic (kvN ms),.lst (ss.map Stp.d),.lst (nats du)]):=by
     generalize T t8 [.lst (nats l),.dic (kvN ms),.lst (ss.map Stp.d),.lst (nats du)]=S0 at *
     generalize T (t8+1) [.lst (nats l),.dic (kvN ms),.lst (ss.map Stp.d),.lst (nats du)]=S1 at *
     generalize T (t8+4) [.lst (nats l),.dic (kvN ms),.lst (ss.map Stp.d),.lst (nats du)]=S2 at *
     push_cast[ep,ex]
    have s2:exe (xX 39) (.exp (.me .append (.v 8) [(.ite (.cmp .Eq (.call "_law_draw" [(.v 0),(.v 1),(.k (.int 3))]) (.k (.int 0))) (.tup [(.k (.str [99,108,101,97,114])),(.v 6)]) (.tup [(.k (.str [98,117,114,110])),(.v 6),(.v 10)]))])) [some F,some ((.ref 0)),some ((.ref 1)),some ((.int (z:Int))),some ((.ref 2)),some WD,some ((.int (p:Int))),none,some ((.ref 3)),some ((.ref 4)),some ((.int (x:Int)))] (T (t8+4) [.lst (nats l),.dic (kvN ms),.lst (ss.map Stp.d),.lst (nats du)])=.ok (.nx [some F,some ((.ref 0)),some ((.ref 1)),some ((.int (z:Int))),some ((.ref 2)),some WD,some ((.int (p:Int))),none,some ((.ref 3)),some ((.ref 4)),some ((.int (x:Int)))]) (T (t8+5) [.lst (nats l),.dic (kvN ms),.lst ((ss++[sp]).map Stp.d),.lst (nats du)]):=by
     have rt:rtM .append (.ref 3) (T (t8+4) [.lst (nats l),.dic (kvN ms),.lst (ss.map Stp.d),.lst (nats du)])=.ok .lst (T (t8+4) [.lst (nats l),.dic (kvN ms),.lst (ss.map Stp.d),.lst (nats du)]):=rfl
     have ap:meOp .append (.ref 3) [sp.d] (T (t8+5) [.lst (nats l),.dic (kvN ms),.lst (ss.map Stp.d),.lst (nats du)])=.ok .non (T (t8+5) [.lst (nats l),.dic (kvN ms),.lst ((ss++[sp]).map Stp.d),.lst (nats du)]):=by
      have g:(T (t8+5) [.lst (nats l),.dic (kvN ms),.lst (ss.map Stp.d),.lst (nats du)])[3]?=some (.lst (ss.map Stp.d)):=rfl
      simp only[meOp,g]
      rw[if_pos (show szOk (ss.map Stp.d).length=true from Nat.ble_eq_true_of_le (by rw[List.length_map];omega)),List.map_append] <;> rfl
     generalize T (t8+4) [.lst (nats l),.dic (kvN ms),.lst (ss.map Stp.d),.lst (nats du)]=S2 at *
     generalize T (t8+5) [.lst (nats l),.dic (kvN ms),.lst (ss.map Stp.d),.lst (nats du)]=S3 at *
     generalize T (t8+5) [.lst (nats l),.dic (kvN ms),.lst ((ss++[sp]).map Stp.d),.lst (nats du)]=S4 at *
     by_cases hu0:u=0
     ·rw[decide_eq_true hu0] at q0
      have ed:sp.d=.tup [.str [99,108,101,97,114],.int (p:Int)]:=by rw[hsp,if_pos hu0] <;> rfl
      rw[ed] at ap
      push_cast[rt,eu,q0,sz2,ap]
     ·rw[decide_eq_false hu0] at q0
      have ed:sp.d=.tup [.str [98,117,114,110],.int (p:Int),.int (x:Int)]:=by rw[hsp,if_neg hu0] <;> rfl
      rw[ed] at ap
      push_cast[rt,eu,q0,sz3,ap]
    obtain⟨y,hy,hyl⟩:∃y:Nat,y=(match sp.b with
    |none=>255
    |some x=>du.getD p 0&&&x)∧y<256:=⟨_,rfl,by
      rw[hsp]
      by_cases hu0:u=0
      ·rw[if_pos hu0];exact (by decide:255<256)
      ·rw[if_neg hu0];exact and_lt (getD_lt hfd.lt _)⟩
    have sI:∀(m:List Nat) (v:Nat),p<m.length→setIx (.ref 4) (.int (p:Int)) (.int (v:Int)) (T (t8+5) [.lst (nats l),.dic (kvN ms),.lst ((ss++[sp]).map Stp.d),.lst (nats m)])=.ok () (T (t8+5) [.lst (nats l),.dic (kvN ms),.lst ((ss++[sp]).map Stp.d),.lst (nats (m.set p v))]):=fun m v hm=>by
     have g:(T (t8+5) [.lst (nats l),.dic (kvN ms),.lst ((ss++[sp]).map Stp.d),.lst (nats m)])[4]?=some (.lst (nats m)):=rfl
     simp only[setIx,g,List.length_map,ixN_natF hm,natsF_set] <;> rfl
    have gI:∀(m:List Nat),p<m.length→ixOp (.ref 4) (.int (p:Int)) (T (t8+5) [.lst (nats l),.dic (kvN ms),.lst ((ss++[sp]).map Stp.d),.lst (nats m)])=.ok (.int (m.getD p 0:Int)) (T (t8+5) [.lst (nats l),.dic (kvN ms),.lst ((ss++[sp]).map Stp.d),.lst (nats m)]):=fun m hm=>by
     have g:(T (t8+5) [.lst (nats l),.dic (kvN ms),.lst ((ss++[sp]).map Stp.d),.lst (nats m)])[4]?=some (.lst (nats m)):=rfl
     simp only[ixOp,Dn.listOf,g,atI,List.length_map,ixN_natF hm,Option.bind_some,natsF_get hm]
    have s3:exe (xX 39) (.put (.v 9) (.v 6) (.ite (.cmp .Eq (.ix (.ix (.v 8) (.neg (.k (.int 1)))) (.k (.int 0))) (.k (.str [99,108,101,97,114]))) (.k (.int 255)) (.bin .BitAnd (.ix (.v 9) (.v 6)) (.v 10)))) [some F,some ((.ref 0)),some ((.ref 1)),some ((.int (z:Int))),some ((.ref 2)),some WD,some ((.int (p:Int))),none,some ((.ref 3)),some ((.ref 4)),some ((.int (x:Int)))] (T (t8+5) [.lst (nats l),.dic (kvN ms),.lst ((ss++[sp]).map Stp.d),.lst (nats du)])=.ok (.nx [some F,some ((.ref 0)),some ((.ref 1)),some ((.int (z:Int))),some ((.ref 2)),some WD,some ((.int (p:Int))),none,some ((.ref 3)),some ((.ref 4)),some ((.int (x:Int)))]) (T (t8+5) [.lst (nats l),.dic (kvN ms),.lst ((ss++[sp]).map Stp.d),.lst (nats (du.set p y))]):=by
     have gl:ixOp (.ref 3) (.int (-1)) (T (t8+5) [.lst (nats l),.dic (kvN ms),.lst ((ss++[sp]).map Stp.d),.lst (nats du)])=.ok sp.d (T (t8+5) [.lst (nats l),.dic (kvN ms),.lst ((ss++[sp]).map Stp.d),.lst (nats du)]):=by
      have g:(T (t8+5) [.lst (nats l),.dic (kvN ms),.lst ((ss++[sp]).map Stp.d),.lst (nats du)])[3]?=some (.lst ((ss++[sp]).map Stp.d)):=rfl
      have a:atI ((ss++[sp]).map Stp.d) (-1)=some sp.d:=by
       unfold atI ixN
       rw[if_neg (by decide),if_pos (by simp;omega)]
       have e:((-1:Int)+(((ss++[sp]).map Stp.d).length:Int)).toNat=(ss.map Stp.d).length:=by
        rw[List.length_map,List.length_append,List.length_map,List.length_singleton]
        omega
       rw[Option.bind_some,e,List.map_append,List.map_cons,List.map_nil,List.getElem?_append_right (Nat.le_refl _),Nat.sub_self] <;> rfl
      simp only[ixOp,Dn.listOf,g,a]
     have ng:∀st,asInt? (.int 1) st=.ok 1 st:=fun st=>rfl
     have si:=sI du y hpl
     have gi:=gI du hpl
     generalize T (t8+5) [.lst (nats l),.dic (kvN ms),.lst ((ss++[sp]).map Stp.d),.lst (nats du)]=S4 at *
     generalize T (t8+5) [.lst (nats l),.dic (kvN ms),.lst ((ss++[sp]).map Stp.d),.lst (nats (du.set p y))]=S5 at *
     have an:∀(x y:Nat) st,binOp .BitAnd (.int (x:Int)) (.int (y:Int)) st=.ok (.int ((x&&&y:Nat):Int)) st:=bandF
     by_cases hu0:u=0
     ·have ed:sp.d=.tup [.str [99,108,101,97,114],.int (p:Int)]:=by rw[hsp,if_pos hu0] <;> rfl
      have i0:∀st,ixOp sp.d (.int 0) st=.ok (.str [99,108,101,97,114]) st:=fun st=>by rw[ed] <;> rfl
      have eq:∀st,cmpOp .Eq (.str [99,108,101,97,114]) (.str [99,108,101,97,114]) st=.ok (.bl true) st:=fun st=>rfl
      have hy2:y=255:=by rw[hy,hsp,if_pos hu0]
      rw[hy2] at si
      have si:setIx (.ref 4) (.int (p:Int)) (.int 255) S4=.ok () S5:=si
      generalize sp.d=SD at *
      push_cast[gl,ng,i0,eq,si]
     ·have ed:sp.d=.tup [.str [98,117,114,110],.int (p:Int),.int (x:Int)]:=by rw[hsp,if_neg hu0] <;> rfl
      have i0:∀st,ixOp sp.d (.int 0) st=.ok (.str [98,117,114,110]) st:=fun st=>by rw[ed] <;> rfl
      have eq:∀st,cmpOp .Eq (.str [98,117,114,110]) (.str [99,108,101,97,114]) st=.ok (.bl false) st:=fun st=>rfl
      have hy2:y=du.getD p 0&&&x:=by rw[hy,hsp,if_neg hu0]
      rw[hy2] at si
      generalize sp.d=SD at *
      push_cast[gl,ng,i0,eq,gi,an,si]
    have s4:exe (xX 39) (.put (.v 9) (.v 6) (.bin .BitAnd (.ix (.v 9) (.v 6)) (.bin .Sub (.k (.int 255)) (.dm .get (.v 4) [(.v 6),(.k (.int 0))])))) [some F,some ((.ref 0)),some ((.ref 1)),some ((.int (z:Int))),some ((.ref 2)),some WD,some ((.int (p:Int))),none,some ((.ref 3)),some ((.ref 4)),some ((.int (x:Int)))] (T (t8+5) [.lst (nats l),.dic (kvN ms),.lst ((ss++[sp]).map Stp.d),.lst (nats (du.set p y))])=.ok (.nx [some F,some ((.ref 0)),some ((.ref 1)),some ((.int (z:Int))),some ((.ref 2)),some WD,some ((.int (p:Int))),none,some ((.ref 3)),some ((.ref 4)),some ((.int (x:Int)))]) (T (t8+5) [.lst (nats l),.dic (kvN ms),.lst ((ss++[sp]).map Stp.d),.lst (nats (stepN ms du sp))]):=by
     have hm:=msk_lt hms.w p
     have hl2:p<(du.set p y).length:=by rw[List.length_set];exact hpl
     have gi:=gI (du.set p y) hl2
     rw[getD_set _ _ _ _ hpl,if_pos rfl] at gi
     have si:=sI (du.set p y) (y&&&(255 - mskN ms p)) hl2
     rw[List.set_set] at si
     have e6:stepN ms du sp=du.set p (y&&&(255 - mskN ms p)):=by rw[stepN,hspp,hy] <;> rfl
     rw[←e6] at si
     have dg:dmOp .get (.ref 2) [.int (p:Int),.int 0] (T (t8+5) [.lst (nats l),.dic (kvN ms),.lst ((ss++[sp]).map Stp.d),.lst (nats (du.set p y))])=.ok (.int (mskN ms p:Int)) (T (t8+5) [.lst (nats l),.dic (kvN ms),.lst ((ss++[sp]).map Stp.d),.lst (nats (du.set p y))]):=by
      have g:(T (t8+5) [.lst (nats l),.dic (kvN ms),.lst ((ss++[sp]).map Stp.d),.lst (nats (du.set p y))])[2]?=some (.dic (kvN ms)):=rfl
      simp only[dmOp,dicOf,g,kyOf,valD_get]
     have dm:dicM (.ref 2) (T (t8+5) [.lst (nats l),.dic (kvN ms),.lst ((ss++[sp]).map Stp.d),.lst (nats (du.set p y))])=.ok () (T (t8+5) [.lst (nats l),.dic (kvN ms),.lst ((ss++[sp]).map Stp.d),.lst (nats (du.set p y))]):=rfl
     have su:∀st,binOp .Sub (.int 255) (.int (mskN ms p:Int)) st=.ok (.int ((255 - mskN ms p:Nat):Int)) st:=fun st=>subF (a:=255) (by omega) st
     have an:∀(x y:Nat) st,binOp .BitAnd (.int (x:Int)) (.int (y:Int)) st=.ok (.int ((x&&&y:Nat):Int)) st:=bandF
     generalize T (t8+5) [.lst (nats l),.dic (kvN ms),.lst ((ss++[sp]).map Stp.d),.lst (nats (du.set p y))]=S5 at *
     generalize T (t8+5) [.lst (nats l),.dic (kvN ms),.lst ((ss++[sp]).map Stp.d),.lst (nats (stepN ms du sp))]=S6 at *
     push_cast[gi,dm,dg,su,an,si]
    exact⟨[some F,some ((.ref 0)),some ((.ref 1)),some ((.int (z:Int))),some ((.ref 2)),some WD,c9,none,some ((.ref 3)),some ((.ref 4)),c10],[some F,some ((.ref 0)),some ((.ref 1)),some ((.int (z:Int))),some ((.ref 2)),some WD,some ((.int (p:Int))),none,some ((.ref 3)),some ((.ref 4)),some ((.int (x:Int)))],T (t8+5) [.lst (nats l),.dic (kvN ms),.lst ((ss++[sp]).map Stp.d),.lst (nats (stepN ms du sp))],rfl,nx s1 (nx s2 (nx s3 (nx s4 (by rw[exes])))),q++[z],w,ss++[sp],stepN ms du sp,t8+5,_,_,_,by rw[hqw];simp,rfl,rfl,rfl,by rw[List.length_append,List.length_singleton];omega,(fun x hx=>(List.mem_append.mp hx).elim (hss x) fun h=>by rw[List.mem_singleton.mp h];exact hspd),by rw[List.length_append,List.length_append,hsl] <;> rfl,by rw[List.foldl_append,←hdu] <;> rfl⟩)
 have hw0:w=[]:=by
  cases w with
 |nil=>rfl
 |cons a w=>cases hr
 subst hw0
 have hq8:q.length=n8:=by
  have:=congrArg List.length hqw
  rw[List.length_range,List.append_nil] at this
  omega
 have hs30:ss.length≤30:=by omega
 clear ht hqw hr
 have hdo:doneN (srtW ms) ss l=du:=by
  rw[done_same hws.nd hms.nd hws.2 hms.w (srtW_msk ms) ss hl,hdu] <;> rfl
 have rw8:Rd (.ref 3) (ss.map Stp.d) (T t8 [.lst (nats l),.dic (kvN ms),.lst (ss.map Stp.d),.lst (nats du)]):=Rd.ref rfl
 have sp512:∀(A:List Stp),(∀x∈A,StpOk x)→∀x∈A,x.p<512:=fun A h x hx=>(h x hx).1
 have htk:∀x∈ss.take 9,StpOk x:=fun x hx=>hss x (List.mem_of_mem_take hx)
 have hdk:∀x∈ss.drop 9,StpOk x:=fun x hx=>hss x (List.mem_of_mem_drop hx)
 have d1:callV false (pr.fn 39 "done" [flD l,.ref 3,WD]) (T t8 [.lst (nats l),.dic (kvN ms),.lst (ss.map Stp.d),.lst (nats du)])=.ok (flD du) (T t8 [.lst (nats l),.dic (kvN ms),.lst (ss.map Stp.d),.lst (nats du)]):=by
  have:=done_ok 34 hl hws (by omega) hss (by omega) rw8
  rw[hdo] at this
  rw[hWD]
  exact this
 have sl1:∀st,Rd (.ref 3) (ss.map Stp.d) st→slOp (.ref 3) none (some 9) st=.ok (.lst ((ss.take 9).map Stp.d)) st:=fun st h=>by
  rw[h.sl none (some 9),show (some (9:Int))=some ((9:Nat):Int) from rfl,cutL,List.map_take]
 have sl2:∀st,Rd (.ref 3) (ss.map Stp.d) st→slOp (.ref 3) (some 9) none st=.ok (.lst ((ss.drop 9).map Stp.d)) st:=fun st h=>by
  rw[h.sl (some 9) none,show (some (9:Int))=some ((9:Nat):Int) from rfl,cutR,List.map_drop]
 have sl1:=sl1 _ rw8
 have sl2:=sl2 _ rw8
 have hh:FlOk (doneN (srtW ms) (ss.take 9) l):=hl.done _ _
 have d2:callV false (pr.fn 39 "done" [flD l,.lst ((ss.take 9).map Stp.d),WD]) (T t8 [.lst (nats l),.dic (kvN ms),.lst (ss.map Stp.d),.lst (nats du)])=.ok (flD (doneN (srtW ms) (ss.take 9) l)) (T t8 [.lst (nats l),.dic (kvN ms),.lst (ss.map Stp.d),.lst (nats du)]):=by
  rw[hWD]
  exact done_ok 34 hl hws (by omega) htk (by rw[List.length_take];omega) Rd.lst
 have d3:callV false (pr.fn 39 "done" [flD (doneN (srtW ms) (ss.take 9) l),.lst ((ss.drop 9).map Stp.d),WD]) (T t8 [.lst (nats l),.dic (kvN ms),.lst (ss.map Stp.d),.lst (nats du)])=.ok (flD du) (T t8 [.lst (nats l),.dic (kvN ms),.lst (ss.map Stp.d),.lst (nats du)]):=by
  have:=done_ok 34 hh hws (by omega) hdk (by rw[List.length_drop];omega) (st:=T t8 [.lst (nats l),.dic (kvN ms),.lst (ss.map Stp.d),.lst (nats du)]) Rd.lst
  rw[done_app hws.nd hws.2 _ _ (sp512 _ htk) hl,List.take_append_drop,hdo] at this
  rw[hWD]
  exact this
 have d4:callV false (pr.fn 39 "done" [flD l,.lst [],.tup []]) (T t8 [.lst (nats l),.dic (kvN ms),.lst (ss.map Stp.d),.lst (nats du)])=.ok (flD l) (T t8 [.lst (nats l),.dic (kvN ms),.lst (ss.map Stp.d),.lst (nats du)]):=done_ok 34 hl (ws:=[]) ⟨List.Pairwise.nil,fun x hx=>nomatch hx⟩ (by decide) (ss:=[]) (fun x hx=>nomatch hx) (by decide) Rd.lst
 have t1:biOp .tuple [.ref 1] (T t8 [.lst (nats l),.dic (kvN ms),.lst (ss.map Stp.d),.lst (nats du)])=.ok (flD l) (T t8 [.lst (nats l),.dic (kvN ms),.lst (ss.map Stp.d),.lst (nats du)]):=rfl
 have t2:biOp .tuple [.ref 4] (T t8 [.lst (nats l),.dic (kvN ms),.lst (ss.map Stp.d),.lst (nats du)])=.ok (flD du) (T t8 [.lst (nats l),.dic (kvN ms),.lst (ss.map Stp.d),.lst (nats du)]):=rfl
 have ne:=fl_ne du du (T t8 [.lst (nats l),.dic (kvN ms),.lst (ss.map Stp.d),.lst (nats du)])
 rw[decide_eq_true rfl] at ne
 have eq1:=fl_eq du du (T t8 [.lst (nats l),.dic (kvN ms),.lst (ss.map Stp.d),.lst (nats du)])
 rw[decide_eq_true rfl] at eq1
 have eq2:=fl_eq l l (T t8 [.lst (nats l),.dic (kvN ms),.lst (ss.map Stp.d),.lst (nats du)])
 rw[decide_eq_true rfl] at eq2
 obtain⟨FL,hFL⟩:∃x,x=flD l:=⟨_,rfl⟩
 obtain⟨DU,hDU⟩:∃x,x=flD du:=⟨_,rfl⟩
 obtain⟨HA,hHA⟩:∃x,x=flD (doneN (srtW ms) (ss.take 9) l):=⟨_,rfl⟩
 obtain⟨L9,hL9⟩:∃x,x=D.lst ((ss.take 9).map Stp.d):=⟨_,rfl⟩
 obtain⟨R9,hR9⟩:∃x,x=D.lst ((ss.drop 9).map Stp.d):=⟨_,rfl⟩
 rw[←hFL,←hDU] at d1
 rw[←hL9] at sl1
 rw[←hR9] at sl2
 rw[←hFL,←hL9,←hHA] at d2
 rw[←hHA,←hR9,←hDU] at d3
 rw[←hFL] at d4 t1 eq2
 rw[←hDU] at t2 ne eq1
 have p9:exe (xX 39) (.ifs (.cmp .NotEq (.call "done" [(.bi .tuple [(.v 2)]),(.v 8),(.v 5)]) (.bi .tuple [(.v 9)])) [.ret (.k (.bl false))] []) [some F,some ((.ref 0)),some ((.ref 1)),c8,some ((.ref 2)),some WD,c9,none,some ((.ref 3)),some ((.ref 4)),c10] (T t8 [.lst (nats l),.dic (kvN ms),.lst (ss.map Stp.d),.lst (nats du)])=.ok (.nx [some F,some ((.ref 0)),some ((.ref 1)),c8,some ((.ref 2)),some WD,c9,none,some ((.ref 3)),some ((.ref 4)),c10]) (T t8 [.lst (nats l),.dic (kvN ms),.lst (ss.map Stp.d),.lst (nats du)]):=ifs_e (by
  generalize T t8 [.lst (nats l),.dic (kvN ms),.lst (ss.map Stp.d),.lst (nats du)]=S9 at *
  push_cast[t1,d1,t2,ne])
 have p10:exe (xX 39) (.asg (.nm 7) (.call "done" [(.bi .tuple [(.v 2)]),(.sl (.v 8) [] [(.k (.int 9))]),(.v 5)])) [some F,some ((.ref 0)),some ((.ref 1)),c8,some ((.ref 2)),some WD,c9,none,some ((.ref 3)),some ((.ref 4)),c10] (T t8 [.lst (nats l),.dic (kvN ms),.lst (ss.map Stp.d),.lst (nats du)])=.ok (.nx [some F,some ((.ref 0)),some ((.ref 1)),c8,some ((.ref 2)),some WD,c9,some HA,some ((.ref 3)),some ((.ref 4)),c10]) (T t8 [.lst (nats l),.dic (kvN ms),.lst (ss.map Stp.d),.lst (nats du)]):=by
  generalize T t8 [.lst (nats l),.dic (kvN ms),.lst (ss.map Stp.d),.lst (nats du)]=S9 at *
  push_cast[t1,sl1,d2,part,Dn.asInt?]
 have p11:exe (xX 39) (.ret (.and (.cmp .Eq (.call "done" [(.v 7),(.sl (.v 8) [(.k (.int 9))] []),(.v 5)]) (.bi .tuple [(.v 9)])) (.cmp .Eq (.call "done" [(.bi .tuple [(.v 2)]),(.lst []),(.k (.tup []))]) (.bi .tuple [(.v 2)])))) [some F,some ((.ref 0)),some ((.ref 1)),c8,some ((.ref 2)),some WD,c9,some HA,some ((.ref 3)),some ((.ref 4)),c10] (T t8 [.lst (nats l),.dic (kvN ms),.lst (ss.map Stp.d),.lst (nats du)])=.ok (.rt (.bl true)) (T t8 [.lst (nats l),.dic (kvN ms),.lst (ss.map Stp.d),.lst (nats du)]):=by
  generalize T t8 [.lst (nats l),.dic (kvN ms),.lst (ss.map Stp.d),.lst (nats du)]=S9 at *
  have sz0:szOk 0=true:=rfl
  push_cast[t1,sl2,d3,t2,eq1,d4,eq2,part,Dn.asInt?,isBl,sz0]
 refine⟨_,(n_law 39 _ _).trans (fn_ret (ρ:=[some F,none,none,none,none,none,none,none,none,none,none]) (by rfl) (by rfl) (nx p0 (nx p1 (nx p2 (nx p3 (nx p4 (nx p5 (nx p6 (nx p7 (nx p8 (nx p9 (nx p10 (exes_rt p11)))))))))))))⟩
end Hb
theorem PySem.Challenge.cw_boardworks_k29_whole_worn_places_holds : PySem.Challenge.rw_boardworks_k29_whole_worn_places.Holds :=
  Hb.closes Hb.law_ok
