import PyProof.Rows.All
import KE.KSortAsk
import Wide.All
import OpenK.AllK
import Wide.FinOn
import PyProof.ExcClass2
import PyProof.ExcBaseAll.Exception
import PyProof.InstStoreFacts
import KE.KSortTup
import KE.KDictSum
import Open.Tops
import PyProof.TableCode
import PySem.Challenge.RW_sa0237_01
set_option Elab.async false
set_option linter.all false
set_option genSizeOf false
set_option genInjectivity false
set_option backward.match.sparseCases false
set_option tactic.hygienic false
set_option bootstrap.genMatcherCode false
set_option compiler.extract_closed false
namespace FR
open PySem
inductive PV where
 |none
 |bool (b:Bool)
 |int (i:Int)
 |str (s:List Nat)
 |bytes (b:List Nat)
 |tup (l:List PV)
 |ref (i:Nat)
 |cQ (l:List PV)
 |eM (ks:List Int) (vs:List PV)
 |inst (c j:Nat)
 |Aa (c:Nat) (rows:PV)
inductive K1 where
 |i (x:Int) | s (x:List Nat) | n (l:List Int)
 deriving DecidableEq
inductive KT where
 |i | s | n
 deriving DecidableEq
inductive Key where
 |int (x:Int) | tup (l:List K1)
 deriving DecidableEq
inductive KK where
 |int | tup (l:List KT)
 deriving DecidableEq
noncomputable def bw:PV->Option Int
 |.int i=>some i
 |_=>.none
noncomputable def di:PV->Option (List PV)
 |.tup l=>some l
 |_=>.none
noncomputable def uW:PV->Option (List Nat)
 |.str l=>some l
 |_=>.none
noncomputable def ints?:List PV->Option (List Int)
 |[]=>some []
 |p::r=>(bw p).bind λx=>(ints? r).bind λl=>some (x::l)
noncomputable def JM(t:KT)(p:PV):Option K1:=match t with
 |.i=>(bw p).bind λx=>some (.i x)
 |.s=>(uW p).bind λx=>some (.s x)
 |.n=>(di p).bind λl=>(ints? l).bind λl=>some (.n l)
noncomputable def Ab:List KT->List PV->Option (List K1)
 |[],l=>match l with
  |[]=>some []
  |_::_=>.none
 |t::ts,l=>match l with
  |[]=>.none
  |v::vs=>(JM t v).bind λk=>(Ab ts vs).bind λks=>some (k::ks)
noncomputable def toKey(kk:KK)(p:PV):Option Key:=match kk with
 |.int=>(bw p).bind λx=>some (.int x)
 |.tup ts=>(di p).bind λl=>(Ab ts l).bind λks=>some (.tup ks)
inductive MO where
 |list (l:List PV)
 |dict (k:KK) (es:List (Key×PV))
 |attrs (rows:Option PV)
noncomputable def az{α:Type}(b:Bool)(o:Option α):Option α:=match b with
 |true=>o
 |false=>.none
noncomputable abbrev ae:=List MO
noncomputable abbrev Loc:=List (Option PV)
noncomputable def aT:List (Key×PV)->Key->Option PV
 |[],_=>.none
 |p::r,k=>if p.1=k then some p.2 else aT r k
noncomputable def bZ:List (Key×PV)->Key->PV->List (Key×PV)
 |[],k,v=>[(k,v)]
 |p::r,k,v=>if p.1=k then (p.1,v)::r else p::bZ r k v
noncomputable def l5:List Int->List PV->Int->Option PV
 |[],_,_=>.none
 |k::ks,l,x=>match l with
  |[]=>.none
  |v::vs=>if k=x then some v else l5 ks vs x
noncomputable def aj:ae->Nat->Option MO
 |[],_=>.none
 |o::_,0=>some o
 |_::r,i+1=>aj r i
noncomputable def sset:ae->Nat->MO->ae
 |[],_,_=>[]
 |_::r,0,x=>x::r
 |o::r,i+1,x=>o::sset r i x
noncomputable def bo:Loc->Nat->Option PV
 |[],_=>.none
 |o::_,0=>o
 |_::r,i+1=>bo r i
noncomputable def cD:Loc->Nat->PV->Loc
 |[],_,_=>[]
 |_::r,0,x=>some x::r
 |o::r,i+1,x=>o::cD r i x
inductive pF where
 |add | sub | mul | mod | fdiv | band | bor | shl | shr
 deriving DecidableEq
inductive Cm where
 |eq | ne | lt | le | gt | ge | isin | fk | is
 deriving DecidableEq
inductive Bi where
 |len | sorted | tuple | list
 deriving DecidableEq
mutual
inductive ME where
 |k (v:PV)
 |gl (i:Nat)
 |loc (i:Nat)
 |tup (es:bO)
 |list (es:bO)
 |dC (kk:KK)
 |kz (ks:List Int) (es:bO)
 |bin (o:pF) (a b:ME)
 |cmp (o:Cm) (a b:ME)
 |and (es:bO)
 |or (es:bO)
 |not (e:ME)
 |neg (e:ME)
 |ite (c a b:ME)
 |idx (a i:ME)
 |slice (a:ME) (lo hi:fm)
 |ax (f:Nat) (es:bO)
 |aF (b:Bi) (e:ME)
 |aK (o:ME) (m:Nat) (es:bO)
 |attr (o:ME)
 |new (c:Nat) (es:bO)
 |comp (elt:ME) (it:MI) (cond:fm)
inductive bO where
 |nil
 |cons (e:ME) (r:bO)
inductive fm where
 |no
 |yes (e:ME)
inductive MI where
 |plain (e:ME)
 |enum (e:ME)
 |gA (e:ME)
 |df (a b:ME)
end
inductive iY where
 |one (i:Nat)
 |many (is:List Nat)
mutual
inductive MS where
 |expr (e:ME)
 |aA (i:Nat) (e:ME)
 |dD (is:List Nat) (e:ME)
 |bP (a i e:ME)
 |setAttr (o e:ME)
 |aug (i:Nat) (o:pF) (e:ME)
 |aP (c:ME) (a b:bq)
 |ba (t:iY) (it:MI) (body:bq)
 |ll (c:ME) (body:bq)
 |ret (e:ME)
 |cont
 |eR (es:bO)
 |kX (body:bq) (h:PV)
inductive bq where
 |nil
 |cons (s:MS) (r:bq)
end
inductive Ex where
 |fresh | hZ
 deriving DecidableEq
inductive Fl where
 |next | cont | ret (v:PV)
noncomputable abbrev Out(α:Type):=Option (Except Ex α×ae)
noncomputable def gO(f:PV->PV->Option Bool):List PV->List PV->Option Bool
 |[],l=>match l with
  |[]=>some true
  |_::_=>some false
 |a::as,l=>match l with
  |[]=>some false
  |b::bs=>(f a b).bind λx=>(gO f as bs).bind λy=>some (x&&y)
noncomputable def Gs(a b:PV):Option Bool:=match a with
 |.int a=>match b with
  |.int b=>some (decide (a=b))
  |.str _=>some false
  |_=>.none
 |.str a=>match b with
  |.str b=>some (decide (a=b))
  |.int _=>some false
  |_=>.none
 |.bool a=>match b with
  |.bool b=>some (decide (a=b))
  |_=>.none
 |_=>.none
noncomputable def eqv:Nat->PV->PV->Option Bool
 |0,a,b=>Gs a b
 |n+1,a,b=>match di a with
  |some x=>(di b).bind λy=>gO (eqv n) x y
  |.none=>Gs a b
noncomputable def isIn:PV->List PV->Option Bool
 |_,[]=>some false
 |x,y::r=>(eqv 6 y x).bind λb=>(isIn x r).bind λc=>some (b||c)
noncomputable def fits{α:Type}(l:List α):Bool:=decide (l.length<=65536)
noncomputable def cL:MO->Option (List PV)
 |.list l=>some l
 |_=>.none
noncomputable def truth(Z:ae):PV->Option Bool
 |.none=>some false
 |.bool b=>some b
 |.int i=>some (i != 0)
 |.ref i=>(aj Z i).bind λo=>(cL o).bind λl=>az (fits l) (some (!l.isEmpty))
 |_=>.none
noncomputable def small(i:Int):Bool:=decide (-4611686018427387904<i)&&decide (i<4611686018427387904)
noncomputable def listOf(Z:ae):PV->Option (List PV)
 |.ref i=>(aj Z i).bind cL
 |_=>.none
noncomputable def items(Z:ae):PV->Option (List PV)
 |.tup l=>some l
 |.cQ l=>some l
 |.ref i=>(aj Z i).bind cL
 |_=>.none
noncomputable def gB(o:pF)(x y:Int):Option Int:=
 match o with
 |.add=>some (x+y)
 |.sub=>some (x-y)
 |.mul=>az (small x) (some (x*y))
 |.mod=>az (decide (y≠0)) (some (x.fmod y))
 |.fdiv=>az (decide (y≠0)) (az (decide (y.natAbs<1073741824)) (some (x.fdiv y)))
 |.band=>some (Builtin.bitAnd x y)
 |.bor=>some (Builtin.bitOr x y)
 |.shl=>az (small x) (az (decide (0<=y)) (az (decide (y<=64)) (some (x*2 ^ y.toNat))))
 |.shr=>az (decide (0<=y)) (az (decide (y<=64)) (some (x.fdiv (2 ^ y.toNat))))
noncomputable def binop(o:pF)(a b:PV)(Z:ae):Option (PV×ae):=
 match a with
 |.int x=>(bw b).bind λy=>(gB o x y).bind λz=>some (.int z,Z)
 |.tup x=>az (decide (o=.add)) ((di b).bind λy=>az (fits (x++y)) (some (.tup (x++y),Z)))
 |.ref i=>az (decide (o=.add)) ((listOf Z (.ref i)).bind λx=>(listOf Z b).bind λy=>az (fits (x++y)) (some (.ref Z.length,Z++[.list (x++y)])))
 |_=>.none
noncomputable def fq:List PV->Nat->Option PV
 |[],_=>.none
 |x::_,0=>some x
 |_::r,i+1=>fq r i
noncomputable def listAt(l:List PV)(i:PV):Option PV:=(bw i).bind λk=>az (small k) ((seqIndex? k l.length).bind (fq l))
noncomputable def Ac(i:PV):MO->Option PV
 |.list l=>listAt l i
 |.dict kk es=>(toKey kk i).bind (aT es)
 |.attrs _=>.none
noncomputable def index(a i:PV)(Z:ae):Option PV:=
 match a with
 |.tup l=>listAt l i
 |.eM ks vs=>(bw i).bind (l5 ks vs)
 |.ref r=>(aj Z r).bind (Ac i)
 |_=>.none
noncomputable def clamp(n:Nat)(dflt:Nat):Option PV->Option Nat
 |.none=>some dflt
 |some p=>(bw p).bind λk=>some (clipAt n k)
noncomputable def cut(x:PV)(lo hi:Option PV)(Z:ae):Option (PV×ae):=
 (items Z x).bind λl=>az (fits l) ((clamp l.length 0 lo).bind λi=>(clamp l.length l.length hi).bind λj=>
  match di x with
  |some _=>some (.tup ((l.drop i).take (j-i)),Z)
  |.none=>some (.ref Z.length,Z++[.list ((l.drop i).take (j-i))]))
noncomputable def vq(x:PV):MO->Option Bool
 |.list l=>isIn x l
 |.dict kk es=>(toKey kk x).bind λk=>some (aT es k).isSome
 |.attrs _=>.none
noncomputable def among(x b:PV)(Z:ae):Option Bool:=
 match b with
 |.tup l=>isIn x l
 |.ref i=>(aj Z i).bind (vq x)
 |_=>.none
noncomputable def equal(a b:PV)(Z:ae):Option Bool:=
 match a with
 |.ref i=>(listOf Z (.ref i)).bind λx=>(listOf Z b).bind λy=>gO (eqv 6) x y
 |a=>eqv 6 a b
noncomputable def cmpInt(f:Int->Int->Bool)(a b:PV):Option Bool:=(bw a).bind λx=>(bw b).bind λy=>some (f x y)
noncomputable def PS:PV->Option Bool
 |.none=>some true
 |.tup _=>some false
 |_=>.none
noncomputable def lp:PV->Option Unit
 |.none=>some ()
 |_=>.none
noncomputable def kA(o:Cm)(a b:PV)(Z:ae):Option Bool:=
 match o with
 |.eq=>equal a b Z
 |.ne=>(eqv 6 a b).bind λr=>some (!r)
 |.lt=>cmpInt (λx y=>decide (x<y)) a b
 |.le=>cmpInt (λx y=>decide (x<=y)) a b
 |.gt=>cmpInt (λx y=>decide (x>y)) a b
 |.ge=>cmpInt (λx y=>decide (x>=y)) a b
 |.isin=>among a b Z
 |.fk=>(among a b Z).bind λr=>some (!r)
 |.is=>(lp b).bind λO=>PS a
noncomputable def uX:List Nat->List Nat->Bool
 |[],[]=>false
 |[],_::_=>true
 |_::_,[]=>false
 |a::as,b::bs=>if a=b then uX as bs else decide (a<b)
noncomputable def OE(a b:PV):Option Bool:=match a with
 |.int a=>(bw b).bind λb=>some (decide (a<b))
 |.str a=>(uW b).bind λb=>some (uX a b)
 |_=>.none
noncomputable def JN:List PV->List PV->Option Bool
 |[],l=>match l with
  |[]=>some false
  |_::_=>some true
 |a::as,l=>match l with
  |[]=>some false
  |b::bs=>(eqv 6 a b).bind λe=>bif e then JN as bs else OE a b
noncomputable def JO(a b:PV):Option Bool:=match a with
 |.tup a=>(di b).bind λb=>JN a b
 |.int a=>(bw b).bind λb=>some (decide (a<b))
 |_=>.none
noncomputable def sF(x:PV):List PV->Option (List PV)
 |[]=>some [x]
 |y::r=>(JO x y).bind λb=>bif b then some (x::y::r) else (sF x r).bind λl=>some (y::l)
noncomputable def gH:List PV->Option (List PV)
 |[]=>some []
 |x::r=>(gH r).bind (sF x)
noncomputable def Gu:Key->Option Int
 |.int x=>some x
 |.tup _=>.none
noncomputable def intKeys:List (Key×PV)->Option (List Int)
 |[]=>some []
 |p::r=>(Gu p.1).bind λx=>(intKeys r).bind λl=>some (x::l)
noncomputable def Ad(lt:Nat->Nat->Option Bool){α:Type}:PySem.W.KasT α->Option α
 |.ret a=>some a
 |.ask i j k=>(lt i j).bind λb=>Ad lt (k b)
noncomputable def nf(p:PV):Bool:=match di p with
 |some l=>match l with
  |x::_=>(bw x).isSome
  |[]=>false
 |.none=>false
noncomputable def uY(l:List PV)(i j:Nat):Option Bool:=JO (l.getD i .none) (l.getD j .none)
noncomputable def Ae(l:List PV):Option (List PV):=az (l.all nf) (az (decide (l.length<64)) (bif decide (l.length<2) then some l
 else (Ad (uY l) (PySem.W.kas_sort l.length)).bind λp=>some (p.toList.map λi=>l.getD i .none)))
noncomputable def fV(l:List PV):Option (List PV):=match ints? l with
 |some _=>az (decide (l.length<64)) (gH l)
 |.none=>Ae l
noncomputable def lenOf(n:Nat)(Z:ae):Option (PV×ae):=az (decide (n<=65536)) (some (.int n,Z))
noncomputable def Af(Z:ae)(l:List PV):Option (PV×ae):=(fV l).bind λl=>some (.ref Z.length,Z++[.list l])
noncomputable def intD:KK->Option Unit
 |.int=>some ()
 |.tup _=>.none
noncomputable def Ew(Z:ae):MO->Option (PV×ae)
 |.list l=>lenOf l.length Z
 |.dict kk es=>(intD kk).bind λO=>lenOf es.length Z
 |.attrs _=>.none
noncomputable def uZ(Z:ae):MO->Option (PV×ae)
 |.list l=>Af Z l
 |.dict kk es=>(intD kk).bind λO=>(intKeys es).bind λks=>az (decide (ks.length<64)) ((gH (ks.map .int)).bind λl=>some (.ref Z.length,Z++[.list l]))
 |.attrs _=>.none
noncomputable def builtin(b:Bi)(v:PV)(Z:ae):Option (PV×ae):=match b with
 |.len=>match v with
  |.bytes l=>lenOf l.length Z
  |.tup l=>lenOf l.length Z
  |.ref i=>(aj Z i).bind (Ew Z)
  |_=>.none
 |.tuple=>match v with
  |.bytes l=>az (fits l) (some (.tup (l.map λ(n:Nat)=>PV.int n),Z))
  |_=>.none
 |.list=>(di v).bind λl=>az (fits l) (some (.ref Z.length,Z++[.list l]))
 |.sorted=>match v with
  |.tup l=>Af Z l
  |.ref i=>(aj Z i).bind (uZ Z)
  |_=>.none
noncomputable def iZ:MO->Option (KK×List (Key×PV))
 |.dict kk es=>some (kk,es)
 |_=>.none
noncomputable def getM(o k d:PV)(Z:ae):Option (PV×ae):=match o with
 |.eM ks ws=>(bw k).bind λk=>some ((l5 ks ws k).getD d,Z)
 |.ref i=>(aj Z i).bind λo=>(iZ o).bind λq=>(toKey q.1 k).bind λk=>some ((aT q.2 k).getD d,Z)
 |_=>.none
noncomputable def oM:PV->Option Nat
 |.ref i=>some i
 |_=>.none
noncomputable def vt(o k d:PV)(Z:ae):Option (PV×ae):=(oM o).bind λi=>(bw k).bind λk=>(aj Z i).bind λo=>(iZ o).bind λq=>(intD q.1).bind λO=>az (fits q.2) (match aT q.2 (.int k) with
 |some v=>some (v,Z)
 |.none=>some (d,sset Z i (.dict .int (bZ q.2 (.int k) d))))
noncomputable def sG(o v:PV)(Z:ae):Option (PV×ae):=(oM o).bind λi=>(aj Z i).bind λo=>(cL o).bind λl=>az (fits l) (some (.none,sset Z i (.list (l++[v]))))
noncomputable def two(vs:List PV):Option (PV×PV):=match vs with
 |[]=>.none
 |k::r=>match r with
  |[]=>.none
  |d::r=>match r with
   |[]=>some (k,d)
   |_::_=>.none
noncomputable def method(m:Nat)(o:PV)(vs:List PV)(Z:ae):Option (PV×ae):=match m with
 |0=>(two vs).bind λq=>getM o q.1 q.2 Z
 |1=>(two vs).bind λq=>vt o q.1 q.2 Z
 |2=>match vs with
  |[]=>.none
  |v::r=>match r with
   |[]=>sG o v Z
   |_::_=>.none
 |_=>.none
noncomputable def vw:PV->Option (Nat×Nat)
 |.inst c j=>some (c,j)
 |_=>.none
noncomputable def lq:MO->Option (Option PV)
 |.attrs r=>some r
 |_=>.none
noncomputable def getAttr(o:PV)(Z:ae):Option PV:=(vw o).bind λq=>(aj Z q.2).bind λa=>(lq a).bind λr=>r.bind λv=>(oM v).bind λi=>az (Nat.ble q.1 1) (some (.ref i))
noncomputable def cU(m:Nat)(x:PV)(Z:ae):Bool:=
 match x with
 |.eM _ _=>Nat.beq m 0
 |.ref i=>match aj Z i with
  |some o=>match o with
   |.dict _ _=>Nat.ble m 1
   |.list _=>Nat.beq m 2
   |.attrs _=>false
  |.none=>false
 |.inst c j=>match aj Z j with
  |some o=>match o with
   |.attrs _=>bif Nat.beq c 0 then Nat.beq m 3 else (Nat.beq c 1&&(Nat.beq m 3||(Nat.beq m 4||Nat.beq m 5)))
   |_=>false
  |.none=>false
 |_=>false
section
variable(cf:Nat->List PV->ae->Out PV)(gl:Nat->PV)
noncomputable def dW(c m:Nat):Option Nat:=
 match c,m with
 |0,3=>some 102
 |1,3=>some 105
 |1,4=>some 106
 |1,5=>some 104
 |_,_=>.none
noncomputable def lr(c:Nat):Option Nat:=
 match c with
 |0=>some 101
 |1=>some 103
 |_=>.none
inductive Src where
 |tup (l:List PV)
 |cQ (l:List PV)
 |live (i:Nat)
 |range (a:Int) (n:Nat)
noncomputable def b9(Z:ae)(k:Nat):Src->Option (Option PV)
 |.tup l=>some (fq l k)
 |.cQ l=>some (fq l k)
 |.live i=>(aj Z i).bind λo=>(cL o).bind λl=>some (fq l k)
 |.range a n=>some (if k<n then some (.int (a+(k:Int))) else .none)
noncomputable def dX(Z:ae):Src->Nat
 |.tup l=>l.length
 |.cQ l=>l.length
 |.live i=>match (aj Z i).bind cL with
  |some l=>l.length
  |.none=>0
 |.range _ n=>n
noncomputable def srcOf(Z:ae):PV->Option Src
 |.tup l=>some (.tup l)
 |.ref i=>(aj Z i).bind λo=>(cL o).bind λO=>some (.live i)
 |_=>.none
noncomputable def wrap(en:Bool)(k:Nat)(x:PV):PV:=match en with
 |true=>.tup [.int (k:Int),x]
 |false=>x
noncomputable def au{α β:Type}(m:Out α)(k:α->ae->Out β):Out β:=match m with
 |some r=>match r with
  |(x,Z)=>match x with
   |.ok v=>k v Z
   |.error e=>some (.error e,Z)
 |.none=>.none
noncomputable def aX{α β:Type}(m:Out α)(k:α->ae->Out β):Out β:=match m with
 |some r=>match r with
  |(x,Z)=>match x with
   |.ok v=>k v Z
   |.error _=>.none
 |.none=>.none
noncomputable def give{α:Type}(v:α)(Z:ae):Out α:=some (.ok v,Z)
noncomputable def lift{α:Type}(o:Option (α×ae)):Out α:=match o with
 |some r=>some (.ok r.1,r.2)
 |.none=>.none
noncomputable def read{α:Type}(Z:ae)(o:Option α):Out α:=match o with
 |some v=>some (.ok v,Z)
 |.none=>.none
noncomputable def pick{α:Type}(t:Option Bool)(a b:Out α):Out α:=t.bind λt=>match t with
 |true=>a
 |false=>b
noncomputable def bW(f:PV->ae->Out (Option PV))(src:Src)(en:Bool):Nat->Nat->ae->Out (List PV)
 |0,_,_=>.none
 |n+1,k,Z=>match b9 Z k src with
  |some x=>match x with
   |some x=>az (decide (k<=65536)) (aX (f (wrap en k x) Z) λy Z=>match y with
    |some y=>aX (bW f src en n (k+1) Z) λys Z=>give (y::ys) Z
    |.none=>bW f src en n (k+1) Z)
   |.none=>give [] Z
  |.none=>.none
noncomputable def ic(Z:ae):Option PV->Option Bool
 |.none=>some true
 |some v=>truth Z v
noncomputable def iJ(ks:List Int):Bool:=decide (17<ks.length)&&decide (ks.length<33)&&decide ks.Nodup
noncomputable def B2(vs:List PV)(Z:ae):Out PV:=az (fits vs) (give (.tup vs) Z)
noncomputable def newList(vs:List PV)(Z:ae):Out PV:=az (fits vs) (some (.ok (.ref Z.length),Z++[.list vs]))
noncomputable def fW(x:PV)(m:Nat)(vs:List PV)(Z:ae):Out PV:=match x with
 |.inst c _=>(dW c m).bind λf=>cf f (x::vs) Z
 |x=>lift (method m x vs Z)
noncomputable def HX(c:Nat)(vs:List PV)(Z:ae):Out PV:=(lr c).bind λf=>au (cf f (.inst c Z.length::vs) (Z++[.attrs .none])) λr af=>(lp r).bind λO=>give (.inst c Z.length) af
mutual
noncomputable def ag:ME->Loc->ae->Out PV
 |.k v,_,Z=>give v Z
 |.gl i,_,Z=>give (gl i) Z
 |.loc i,J,Z=>read Z (bo J i)
 |.tup es,J,Z=>au (bg es J Z) B2
 |.list es,J,Z=>au (bg es J Z) newList
 |.dC kk,_,Z=>some (.ok (.ref Z.length),Z++[.dict kk []])
 |.kz ks es,J,Z=>aX (bg es J Z) λvs Z=>az (iJ ks) (az (decide (vs.length=ks.length)) (some (.ok (.ref Z.length),Z++[.dict .int ((ks.map Key.int).zip vs)])))
 |.bin o a b,J,Z=>au (ag a J Z) λx Z=>au (ag b J Z) λy Z=>lift (binop o x y Z)
 |.cmp o a b,J,Z=>au (ag a J Z) λx Z=>au (ag b J Z) λy Z=>read Z ((kA o x y Z).bind λb=>some (.bool b))
 |.and es,J,Z=>evalAnd es J Z
 |.or es,J,Z=>evalOr es J Z
 |.not e,J,Z=>au (ag e J Z) λv Z=>read Z ((truth Z v).bind λb=>some (.bool (!b)))
 |.neg e,J,Z=>au (ag e J Z) λv Z=>read Z ((bw v).bind λi=>some (.int (-i)))
 |.ite c a b,J,Z=>au (ag c J Z) λv Z=>pick (truth Z v) (ag a J Z) (ag b J Z)
 |.idx a i,J,Z=>au (ag a J Z) λx Z=>au (ag i J Z) λy Z=>read Z (index x y Z)
 |.slice a lo hi,J,Z=>au (ag a J Z) λx Z=>au (cV lo J Z) λlo Z=>au (cV hi J Z) λhi Z=>lift (cut x lo hi Z)
 |.ax f es,J,Z=>au (bg es J Z) λvs Z=>cf f vs Z
 |.aF b e,J,Z=>au (ag e J Z) λv Z=>lift (builtin b v Z)
 |.aK o m es,J,Z=>au (ag o J Z) λx Z=>az (cU m x Z) (au (bg es J Z) λvs Z=>fW cf x m vs Z)
 |.attr o,J,Z=>au (ag o J Z) λx Z=>read Z (getAttr x Z)
 |.new c es,J,Z=>au (bg es J Z) λvs Z=>HX cf c vs Z
 |.comp elt it cond,J,Z=>au (ft it J Z) λsrc Z=>
   aX (bW (λx Z=>aX (cV cond [some x] Z) λc Z=>
     pick (ic Z c) (aX (ag elt [some x] Z) λy Z=>give (some y) Z) (give .none Z))
    src.1 src.2 (dX Z src.1+1) 0 Z) λvs Z=>some (.ok (.ref Z.length),Z++[.list vs])
noncomputable def bg:bO->Loc->ae->Out (List PV)
 |.nil,_,Z=>give [] Z
 |.cons e r,J,Z=>au (ag e J Z) λv Z=>au (bg r J Z) λvs Z=>give (v::vs) Z
noncomputable def evalAnd:bO->Loc->ae->Out PV
 |.nil,_,_=>.none
 |.cons e r,J,Z=>match r with
  |.nil=>ag e J Z
  |.cons e' r'=>au (ag e J Z) λv Z=>pick (truth Z v) (evalAnd (.cons e' r') J Z) (give v Z)
noncomputable def evalOr:bO->Loc->ae->Out PV
 |.nil,_,_=>.none
 |.cons e r,J,Z=>match r with
  |.nil=>ag e J Z
  |.cons e' r'=>au (ag e J Z) λv Z=>pick (truth Z v) (give v Z) (evalOr (.cons e' r') J Z)
noncomputable def cV:fm->Loc->ae->Out (Option PV)
 |.no,_,Z=>give .none Z
 |.yes e,J,Z=>au (ag e J Z) λv Z=>give (some v) Z
noncomputable def ft:MI->Loc->ae->Out (Src×Bool)
 |.plain e,J,Z=>au (ag e J Z) λv Z=>read Z ((srcOf Z v).bind λs=>some (s,false))
 |.enum e,J,Z=>au (ag e J Z) λv Z=>read Z ((srcOf Z v).bind λs=>some (s,true))
 |.gA e,J,Z=>au (ag e J Z) λv Z=>read Z ((bw v).bind λn=>az (small n) (some (.range 0 n.toNat,false)))
 |.df a b,J,Z=>au (ag a J Z) λu Z=>au (ag b J Z) λv Z=>read Z ((bw u).bind λm=>(bw v).bind λn=>az (small m) (az (small n) (some (.range m (n-m).toNat,false))))
end
noncomputable def kB:Loc->List Nat->List PV->Option Loc
 |J,[],l=>match l with
  |[]=>some J
  |_::_=>.none
 |J,i::is,l=>match l with
  |[]=>.none
  |v::vs=>kB (cD J i v) is vs
noncomputable def eN(t:iY)(v:PV)(J:Loc):Option Loc:=
 match t with
 |.one i=>some (cD J i v)
 |.many is=>(di v).bind (kB J is)
noncomputable def setItem(a i v:PV)(Z:ae):Option ae:=(oM a).bind λr=>(aj Z r).bind λo=>(iZ o).bind λq=>(toKey q.1 i).bind λk=>az (fits q.2) (some (sset Z r (.dict q.1 (bZ q.2 k v))))
noncomputable def sH(o v:PV)(Z:ae):Option ae:=(vw o).bind λq=>(aj Z q.2).bind λa=>(lq a).bind λO=>az (Nat.ble q.1 1) (some (sset Z q.2 (.attrs (some v))))
noncomputable def put{α:Type}(J:α):Option ae->Out (Fl×α)
 |some Z=>give (.next,J) Z
 |.none=>.none
noncomputable def forL(body:Loc->ae->Out (Fl×Loc))(t:iY)(src:Src)(en:Bool):Nat->Nat->Loc->ae->Out (Fl×Loc)
 |0,_,_,_=>.none
 |n+1,k,J,Z=>match b9 Z k src with
  |some x=>match x with
   |some x=>(eN t (wrap en k x) J).bind λJ=>aX (body J Z) λr Z=>match r.1 with
    |.ret v=>give (.ret v,r.2) Z
    |_=>forL body t src en n (k+1) r.2 Z
   |.none=>give (.next,J) Z
  |.none=>.none
noncomputable def eS(test:Loc->ae->Out PV)(body:Loc->ae->Out (Fl×Loc)):Nat->Loc->ae->Out (Fl×Loc)
 |0,_,_=>.none
 |n+1,J,Z=>aX (test J Z) λv Z=>pick (truth Z v)
   (aX (body J Z) λr Z=>match r.1 with
    |.ret v=>give (.ret v,r.2) Z
    |_=>eS test body n r.2 Z)
   (give (.next,J) Z)
noncomputable def turns:Nat:=100000
noncomputable def i3(r:Out (Fl×Loc))(h:PV)(J:Loc):Out (Fl×Loc):=match r with
 |some q=>match q.1 with
  |.ok r=>give r q.2
  |.error e=>match e with
   |.hZ=>give (.ret h,J) q.2
   |.fresh=>.none
 |.none=>.none
noncomputable def fresh(Z:ae):Out (Fl×Loc):=some (.error .fresh,Z)
mutual
noncomputable def aZ:MS->Loc->ae->Out (Fl×Loc)
 |.expr e,J,Z=>au (ag cf gl e J Z) λO Z=>give (.next,J) Z
 |.aA i e,J,Z=>au (ag cf gl e J Z) λv Z=>give (.next,cD J i v) Z
 |.dD is e,J,Z=>au (ag cf gl e J Z) λv Z=>read Z ((eN (.many is) v J).bind λJ=>some (.next,J))
 |.bP a i e,J,Z=>au (ag cf gl e J Z) λv Z=>au (ag cf gl a J Z) λa Z=>au (ag cf gl i J Z) λi Z=>
   put J (setItem a i v Z)
 |.setAttr o e,J,Z=>au (ag cf gl e J Z) λv Z=>au (ag cf gl o J Z) λo Z=>put J (sH o v Z)
 |.aug i o e,J,Z=>au (read Z (bo J i)) λx Z=>au (ag cf gl e J Z) λy Z=>au (read Z (bw x)) λm Z=>au (read Z (bw y)) λn Z=>au (lift (binop o (.int m) (.int n) Z)) λv Z=>give (.next,cD J i v) Z
 |.aP c a b,J,Z=>au (ag cf gl c J Z) λv Z=>pick (truth Z v) (ak a J Z) (ak b J Z)
 |.ba t it body,J,Z=>au (ft cf gl it J Z) λsrc Z=>forL (ak body) t src.1 src.2 (dX Z src.1+1) 0 J Z
 |.ll c body,J,Z=>eS (ag cf gl c) (ak body) turns J Z
 |.ret e,J,Z=>au (ag cf gl e J Z) λv Z=>give (.ret v,J) Z
 |.cont,J,Z=>give (.cont,J) Z
 |.eR es,J,Z=>au (bg cf gl es J Z) λO Z=>fresh Z
 |.kX body h,J,Z=>i3 (ak body J Z) h J
noncomputable def ak:bq->Loc->ae->Out (Fl×Loc)
 |.nil,J,Z=>give (.next,J) Z
 |.cons s r,J,Z=>au (aZ s J Z) λf Z=>match f.1 with
  |.next=>ak r f.2 Z
  |_=>give f Z
end
end
structure aW where
 params:Nat
 locals:Nat
 body:bq
noncomputable def back(r:Out (Fl×Loc)):Out PV:=match r with
 |some q=>match q.1 with
  |.ok r=>match r.1 with
   |.ret v=>give v q.2
   |.next=>give .none q.2
   |.cont=>.none
  |.error e=>match e with
   |.fresh=>some (.error .hZ,q.2)
   |.hZ=>.none
 |.none=>.none
noncomputable def u0(cf:Nat->List PV->ae->Out PV)(gl:Nat->PV)(d:aW)(vs:List PV)(Z:ae):Out PV:=
 az (decide (vs.length=d.params)) (back (ak cf gl d.body (vs.map some++List.replicate (d.locals-d.params) .none) Z))
noncomputable def ar(defs:Nat->Option aW)(gl:Nat->PV):Nat->Nat->List PV->ae->Out PV
 |0,_,_,_=>.none
 |n+1,f,vs,Z=>(defs f).bind λd=>u0 (ar defs gl n) gl d vs Z
end FR
namespace FR
open PySem PySem.W PySem.Calls PyProof.Rows
open Sem (wp)
section
variable{prog:Program}{w:World}
noncomputable def kd:K1->KT
 |.i _=>.i
 |.s _=>.s
 |.n _=>.n
noncomputable def ie(prog:Program)(w:World)(h:Heap)(k:K1)(v:Value):Prop:=match k with
 |.i x=>∃t,v=.int x t
 |.s x=>∃t,v=.str ⟨x.toArray⟩ t
 |.n l=>∃a,v=.ref a/\IsTupleKey (intKind prog w) h l a
noncomputable def eO(prog:Program)(w:World)(h:Heap):List K1->List Value->Prop
 |[],vs=>vs=[]
 |k::ks,vs=>∃v r,vs=v::r/\ie prog w h k v/\eO prog w h ks r
noncomputable def kC(prog:Program)(w:World):K1->Int
 |.i x=>hashInt x
 |.s x=>hashStr w ⟨x.toArray⟩
 |.n l=>tupleKeyHash (intKind prog w) l
noncomputable def lu:K1->Nat
 |.i _=>1
 |.s _=>1
 |.n l=>l.length+1
noncomputable def Ag(prog:Program)(w:World)(ks:List K1):Int:=reduceHash (Builtin.Tuple.tupleHashOf (ks.map (kC prog w)))
noncomputable def vx(ks:List K1):Nat:=(ks.map lu).sum+1
noncomputable def hM(prog:Program)(w:World)(ts:List KT)(h:Heap)(ks:List K1)(a:Addr):Prop:=
 ks.map kd=ts/\∃o xs n,h.get? a=some o/\o.cls=.type "tuple"/\o.data=.seq xs n/\eO prog w h ks xs.toList
section
variable{h h':Heap}{k k':K1}{ks mX:List K1}{v:Value}{vs:List Value}{ts:List KT}{a:Addr}
theorem Gv(e:kd k=kd k'){M:Prop}(i:∀x y,k=.i x->k'=.i y->M)(s:∀x y,k=.s x->k'=.s y->M)(n:∀x y,k=.n x->k'=.n y->M):M:=by
 cases k with
 |i x=>cases k' with
  |i y=>exact i x y rfl rfl
  |s y=>exact nomatch e
  |n y=>exact nomatch e
 |s x=>cases k' with
  |i y=>exact nomatch e
  |s y=>exact s x y rfl rfl
  |n y=>exact nomatch e
 |n x=>cases k' with
  |i y=>exact nomatch e
  |s y=>exact nomatch e
  |n y=>exact n x y rfl rfl
theorem ie.inj(x:ie prog w h k v)(e:kd k=kd k')(y:ie prog w h k' v):k=k':=
 Gv (M:=k=k') e (λa b e1 e2=>by subst e1 e2;exact x.elim λt p=>y.elim λu q=>by rw[p] at q;cases q;rfl)
  (λa b e1 e2=>by subst e1 e2;exact x.elim λt p=>y.elim λu q=>by rw[p] at q;cases q;rfl)
  λa b e1 e2=>by subst e1 e2;exact x.elim λt p=>y.elim λu q=>by have e:=p.1.symm.trans q.1;cases e;rw[p.2.inj q.2]
theorem eO.inj(x:eO prog w h ks vs)(e:ks.map kd=mX.map kd)(y:eO prog w h mX vs):ks=mX:=by
 induction ks generalizing mX vs with
 |nil=>exact(List.map_eq_nil_iff.mp e.symm).symm
 |cons k ks ih=>cases mX with
  |nil=>exact nomatch e
  |cons k' mX=>
   obtain ⟨v,r,rfl,x1,x2⟩:=x
   obtain ⟨v',r',e',y1,y2⟩:=y
   cases e'
   rw[x1.inj (List.cons.inj e).1 y1,ih x2 (List.cons.inj e).2 y2]
theorem hM.inj{x y:List K1}(hx:hM prog w ts h x a)(hy:hM prog w ts h y a):x=y:=by
 obtain ⟨e,o,xs,n,ho,_,hd,hi⟩:=hx
 obtain ⟨e',o',za,n',vz,_,JP,ly⟩:=hy
 cases ho.symm.trans vz
 cases hd.symm.trans JP
 exact hi.inj (e.trans e'.symm) ly
variable{d:Addr}{o:Obj}{es:Array DictEntry}{ep:Nat}
theorem ie.keeps(x:ie prog w h k v)(ho:h.get? d=some o)(hd:o.data=.dict es ep)(hs:Heap.SameBut d h h'):ie prog w h' k v:=by
 cases k with
 |i a=>exact x
 |s a=>exact x
 |n a=>exact x.imp λt=>And.imp_right λx=>x.keeps ho hd hs
theorem eO.keeps(ho:h.get? d=some o)(hd:o.data=.dict es ep)(hs:Heap.SameBut d h h')(x:eO prog w h ks vs):eO prog w h' ks vs:=by
 induction ks generalizing vs with
 |nil=>exact x
 |cons k ks ih=>exact x.imp λv=>Exists.imp λr=>And.imp_right (And.imp (λx=>x.keeps ho hd hs) ih)
theorem hM.keeps(x:hM prog w ts h ks a)(ho:h.get? d=some o)(hd:o.data=.dict es ep)(hs:Heap.SameBut d h h'):hM prog w ts h' ks a:=
 x.imp id λx=>x.imp λo'=>Exists.imp λitems=>Exists.imp λn x=>⟨(hs.2 a λq=>nomatch x.2.2.1.symm.trans ((congrArg Obj.data (Option.some.inj (x.1.symm.trans (q▸ho)))).trans hd)).trans x.1,x.2.1,x.2.2.1,eO.keeps ho hd hs x.2.2.2⟩
theorem hM.typeIs{s:Shared}(x:hM prog w ts s.heap ks a):s.TypeIs (.ref a) "tuple":=x.2.imp λO x=>x.elim λO x=>x.elim λO x=>⟨x.1,x.2.1⟩
end
variable{A:Around}{E:Value->Shared->Prop}{s:Shared}{ts:List KT}{ks:List K1}{a b:Addr}{Q:Bool->Shared->Prop}
theorem HY{k:K1}{v:Value}{Q:Int->Shared->Prop}(hu:A.units<cLine)(hk:ie prog w s.heap k v)(h:Q (kC prog w k) {s with toks:=s.toks+lu k}):
  wpAny (model prog w) A (pyHash v) Q E s:=by
 cases k with
 |i x=>exact hk.elim λt e=>e▸wpAny_pyHash_int h
 |s x=>exact hk.elim λt e=>e▸wpAny_pyHash_str h
 |n l=>exact hk.elim λa e=>e.1▸wpAny_pyHash_tuple hu e.2 h
theorem NH(a b:Int):decide (K1.i a=K1.i b)=decide (a=b):=decide_eq_decide.mpr ⟨λh=>K1.i.noConfusion h id,congrArg _⟩
theorem NI(a b:List Nat):decide (K1.s a=K1.s b)=decide (Str.mk a.toArray=Str.mk b.toArray):=decide_eq_decide.mpr ⟨λh=>K1.s.noConfusion h λe=>congrArg (λl:List Nat=>Str.mk l.toArray) e,λh=>congrArg K1.s (congrArg (λs:Str=>s.cps.toList) h)⟩
theorem NJ(a b:List Int):decide (K1.n a=K1.n b)=decide (a=b):=decide_eq_decide.mpr ⟨λh=>K1.n.noConfusion h id,congrArg _⟩
theorem HZ{k k':K1}{u v:Value}(hu:A.units<cLine)(e:kd k=kd k')(hk:ie prog w s.heap k u)(dj:ie prog w s.heap k' v)(h:Q (decide (k=k')) s):wpAny (model prog w) A (eqBool u v) Q E s:=by
 refine Gv e (λx y e1 e2=> ?_) (λx y e1 e2=> ?_) λx y e1 e2=> ?_
 ·subst e1 e2
  rw[NH] at h
  exact hk.elim λt p=>dj.elim λt' p'=>p▸p'▸wpAny_eqBool_int h
 ·subst e1 e2
  rw[NI] at h
  exact hk.elim λt p=>dj.elim λt' p'=>p▸p'▸wpAny_eqBool_str h
 ·subst e1 e2
  rw[NJ] at h
  exact hk.elim λt p=>dj.elim λt' p'=>p.1▸p'.1▸wpAny_eqBool_tuple hu p.2 p'.2 h
theorem cl{n:Nat}(h:n+1<cLine):n<cLine:=Nat.lt_of_succ_lt h
set_option tactic.hygienic true in
theorem H2{Q:Int->Shared->Prop}(hu:A.units+1<cLine)(hk:hM prog w ts s.heap ks a)(h:Q (Ag prog w ks) {s with toks:=s.toks+vx ks}):
  wpAny (model prog w) A (pyHash (.ref a)) Q E s:=by
 have hT:=hk.typeIs
 obtain ⟨_,o,items,n,ho,_,hd,hi⟩:=hk
 unfold pyHash
 first | unfold pyHashByItsType | skip
 first | refine wpAny_bind (wpAny_cRoomFor_or (.inr (cl hu)) ?_) | skip
 refine wpAny_bind (wpAny_specialOf hT F.slot_tuple_hash.lookup ?_)
 show wpAny _ _ (if (some (Value.builtin "tuple.__hash__") == some Value.none)=true then _ else _) Q E s
 rw[if_neg (by rw[beq_builtin_none];exact Bool.false_ne_true)]
 refine wpAny_bind (wpAny_specialOf hT F.slot_tuple_hash.lookup ?_)
 show wpAny _ _ (callSpecialIfBoundUnlessNone? (.ref a) "__hash__" _ >>= _) Q E s
 refine wpAny_bind (wpAny_callSpecialIfBoundUnlessNone?_slot hT F.slot_tuple_hash (wpAny_call_entry F.slot_tuple_hash hT F.entry_tuple_hash ?_ (F.args_tuple_hash_1 _)))
 show wpAny _ _ (Builtin.Tuple.tupleItemsOf (.ref a) >>= _) _ _ s
 refine wpAny_bind (wpAny_tupleItemsOf ho hd ?_)
 refine wpAny_bind ?_
 rw[<-Array.forIn_toList]
 refine wpAny_forIn_list _
  (λrest (b:Array Int) s'=>∃done left,ks=done++left/\eO prog w s.heap left rest/\b.toList=done.map (kC prog w)/\s'={s with toks:=s.toks+(done.map lu).sum})
  _ ?_ ?_ _ _ ⟨[],ks,rfl,hi,rfl,rfl⟩
 ·rintro x rest b s' ⟨done,left,rfl,hl,hb,rfl⟩
  cases left with
  |nil=>exact nomatch hl
  |cons k mX=>
   obtain ⟨_,_,e,h1,h2⟩:=hl
   cases e
   have fin:∃d left,done++k::mX=d++left/\eO prog w s.heap left rest/\(b.push (kC prog w k)).toList=d.map (kC prog w)/\({s with toks:=s.toks+(done.map lu).sum+lu k}:Shared)={s with toks:=s.toks+(d.map lu).sum}:=
    ⟨done++[k],mX,by rw[List.append_assoc];rfl,h2,by rw[Array.toList_push,hb,List.map_append];rfl,by rw[List.map_append,List.sum_append];exact congrArg (λt=>({s with toks:=t}:Shared)) (Nat.add_assoc _ _ _)⟩
   refine wpAny_bind (HY (show A.in1.units<cLine from hu) h1 ?_)
   first
    |exact wpAny_pure fin
    |exact wpAny_bind (wpAny_pure (wpAny_pure fin))
 ·rintro b s' ⟨done,left,rfl,hl,hb,rfl⟩
  cases left with
  |cons k mX=>obtain ⟨_,_,e,_⟩:=hl;cases e
  |nil=>
   rw[List.append_nil] at h
   show wpAny _ _ (retInt (Builtin.Tuple.tupleHashOf b.toList)) _ _ _
   rw[hb]
   refine wpAny_ret_mkInt ?_
   show wpAny _ _ (if (decide (-(2:Int) ^ 63<=Builtin.Tuple.tupleHashOf (done.map (kC prog w)))&&decide (Builtin.Tuple.tupleHashOf (done.map (kC prog w))<2 ^ 63))=true then _ else _) Q E _
   unfold Ag reduceHash vx at h
   generalize Builtin.Tuple.tupleHashOf (done.map (kC prog w))=hh at h⊢
   rw[<-Nat.add_assoc] at h
   by_cases hr:(decide (-(2:Int) ^ 63<=hh)&&decide (hh<2 ^ 63))=true
   ·rw[if_pos hr] at h⊢
    exact wpAny_pure h
   ·rw[if_neg hr] at h⊢
    exact wpAny_bind (wpAny_rule (wpAny_pure h))
noncomputable def Ey(prog:Program)(w:World)(h:Heap):List K1->List K1->List (Value×Value)->Prop
 |[],y,r=>y=[]/\r=[]
 |k::x,y,r=>∃k' y' u v r',y=k'::y'/\r=(u,v)::r'/\kd k=kd k'/\ie prog w h k u/\ie prog w h k' v/\Ey prog w h x y' r'
theorem H3{h:Heap}{x y:List K1}{xs ys:List Value}(e:x.map kd=y.map kd)(hx:eO prog w h x xs)(hy:eO prog w h y ys):Ey prog w h x y (xs.zip ys)/\xs.length=ys.length:=by
 induction x generalizing y xs ys with
 |nil=>
  cases List.map_eq_nil_iff.mp e.symm
  rw[show xs=[] from hx,show ys=[] from hy]
  exact⟨⟨rfl,rfl⟩,rfl⟩
 |cons k x ih=>
  cases y with
  |nil=>exact nomatch e
  |cons k' y=>
   obtain ⟨u,xs,rfl,x1,x2⟩:=hx
   obtain ⟨v,ys,rfl,y1,y2⟩:=hy
   have e:=List.cons.inj e
   have i:=ih e.2 x2 y2
   exact⟨⟨k',y,u,v,_,rfl,rfl,e.1,x1,y1,i.1⟩,congrArg (· +1) i.2⟩
theorem JQ{x y:List K1}{P:Fin->Shared->Prop}(hu:A.units<cLine)(hx:hM prog w ts s.heap x a)(hy:hM prog w ts s.heap y b)(h:P (.done (.ret (.bool (decide (x=y))))) s):
  wpAny (model prog w) A (Builtin.«tuple.__eq__» ⟨[.ref a,.ref b],[]⟩) P E s:=by
 have OF:=hy.typeIs
 obtain ⟨OG,oa,xs,na,zb,_,vA,Gw⟩:=hx
 obtain ⟨OH,ob,ys,nb,Gy,_,OI,OJ⟩:=hy
 obtain ⟨S,hl⟩:=H3 (OG.trans OH.symm) Gw OJ
 show wpAny _ _ (isInstance (.ref b) (.type "tuple") >>= _) _ _ s
 refine wpAny_bind (wpAny_isInstance OF isSubtype_tuple_tuple ?_)
 simp only [Bool.not_true,Bool.false_eq_true,if_false]
 refine wpAny_bind (wpAny_tupleItemsOf zb vA ?_)
 refine wpAny_bind (wpAny_tupleItemsOf Gy OI ?_)
 refine wpAny_bind ?_
 clear Gw OJ vA OI zb Gy OG OH OF
 refine wpAny_forIn_list _ (λrest r s'=>r.1=none/\s'=s/\∃x' y',Ey prog w s.heap x' y' rest/\(x'=y'↔x=y)) _ ?_ ?_ _ _ ⟨rfl,rfl,x,y,S,Iff.rfl⟩
 ·rintro ⟨u,v⟩ rest r s' ⟨hr,rfl,x',y',S,hq⟩
  cases x' with
  |nil=>exact nomatch S.2
  |cons k x'=>
   obtain ⟨k',y',u',v',r',rfl,e,hk,h1,h2,S⟩:=S
   cases e
   refine wpAny_bind (HZ hu hk h1 h2 ?_)
   by_cases q:k=k'
   ·subst q
    rw[decide_eq_true rfl]
    simp only [Bool.not_true,Bool.false_eq_true,if_false]
    exact wpAny_pure ⟨rfl,rfl,x',y',S,⟨λe=>hq.mp (congrArg _ e),λe=>(List.cons.inj (hq.mpr e)).2⟩⟩
   ·rw[decide_eq_false q]
    simp only [Bool.not_false,if_true]
    rw[decide_eq_false λe=>q (List.cons.inj (hq.mpr e)).1] at h
    exact wpAny_bind (wpAny_pure (wpAny_pure (wpAny_pure h)))
 ·rintro ⟨r1,r2⟩ s' ⟨hr,rfl,x',y',S,hq⟩
  cases (show r1=none from hr)
  cases x' with
  |cons k x'=>obtain ⟨_,_,_,_,_,_,e,_⟩:=S;cases e
  |nil=>
   rw[decide_eq_true (hq.mp S.1.symm)] at h
   refine wpAny_pure ?_
   show P (.done (.ret (.bool (xs.size == ys.size)))) s'
   rw[show (xs.size == ys.size)=true from beq_iff_eq.mpr hl]
   exact h
theorem H4{x y:List K1}(hu:A.units+1<cLine)(hx:hM prog w ts s.heap x a)(hy:hM prog w ts s.heap y b)(h:Q (decide (x=y)) s):
  wpAny (model prog w) A (eqBool (.ref a) (.ref b)) Q E s:=by
 unfold eqBool
 try with_reducible refine wpAny_holding ?_
 show wpAny _ _ (if (Value.ref a == Value.ref b)=true then _ else _) Q E s
 by_cases JR:(Value.ref a == Value.ref b)=true
 ·rw[if_pos JR]
  cases eq_of_beq JR
  rw[decide_eq_true (hx.inj hy)] at h
  exact wpAny_bind (wpAny_rule (wpAny_pure h))
 ·rw[if_neg JR]
  exact wpAny_bind (wpAny_richCompare_same_room (op:=.Eq) hx.typeIs hy.typeIs F.slot_tuple_eq
   (wpAny_call_entry F.slot_tuple_eq hx.typeIs F.entry_tuple_eq (JQ (show A.in1.units<cLine from hu) hx hy ⟨_,rfl,(λe=>nomatch e),wpAny_truthy_bool h⟩) (F.args_tuple_eq_2 _ _)) (cl hu))
theorem B3{n m:Nat}{o:Obj}{items:Array Value}{a:Addr}(ho:s.heap.get? a=some o)(hc:o.cls=.type "tuple")(hd:o.data=.seq items m)(hi:∀v∈items.toList,∀{Q:Bool->Shared->Prop} {E:Value->Shared->Prop},Q true s->wpAny (model prog w) A (eqIsQuiet n v) Q E s)(h:Q true s):wpAny (model prog w) A (eqIsQuiet (n+1) (.ref a)) Q E s:=by
 have hT:s.TypeIs (.ref a) "tuple":=⟨o,ho,hc⟩
 unfold eqIsQuiet
 refine wpAny_bind (wpAny_specialOf hT F.slot_tuple_eq.lookup ?_)
 show wpAny _ _ (isInstance (.ref a) (.type "tuple") >>= _) _ _ s
 refine wpAny_bind (wpAny_isInstance hT isSubtype_tuple_tuple ?_)
 simp only [Bool.not_true,Bool.false_eq_true,if_false]
 refine wpAny_bind (wpAny_seqItems ho hd ?_)
 refine wpAny_bind ?_
 show wpAny _ _ (forIn items _ _) _ _ s
 rw[<-Array.forIn_toList]
 refine wpAny_forIn_list _ (λrest r s'=>r.1=none/\s'=s/\∀v∈rest,v∈items.toList) _ ?_ ?_ _ _ ⟨rfl,rfl,λO h=>h⟩
 ·rintro v rest r s' ⟨hr,rfl,JS⟩
  refine wpAny_bind (hi v (JS v List.mem_cons_self) ?_)
  simp only [Bool.not_true,Bool.false_eq_true,if_false]
  exact wpAny_pure ⟨rfl,rfl,λu RB=>JS u (List.mem_cons_of_mem _ RB)⟩
 ·rintro ⟨r1,r2⟩ s' ⟨hr,rfl,_⟩
  cases (show r1=none from hr)
  exact wpAny_pure h
theorem JT{k:K1}{n:Nat}{v:Value}(hk:ie prog w s.heap k v)(h:Q true s):wpAny (model prog w) A (eqIsQuiet (n+2) v) Q E s:=by
 cases k with
 |i x=>obtain ⟨t,rfl⟩:=hk;rw[eqIsQuiet_byValue _ rfl];exact wpAny_pure h
 |s x=>obtain ⟨t,rfl⟩:=hk;rw[eqIsQuiet_byValue _ rfl];exact wpAny_pure h
 |n l=>
  obtain ⟨a,rfl,o,items,m,ho,hc,hd,hi⟩:=hk
  exact B3 ho hc hd (λv hv {Q E} q=>by rw[eqIsQuiet_byValue _ (hi.byValue v hv)];exact wpAny_pure q) h
theorem eO.mem{h:Heap}{ks:List K1}{vs:List Value}(x:eO prog w h ks vs){v:Value}(m:v∈vs):∃k,ie prog w h k v:=by
 induction ks generalizing vs with
 |nil=>rw[show vs=[] from x] at m;exact absurd m List.not_mem_nil
 |cons k ks ih=>
  obtain ⟨u,r,rfl,x1,x2⟩:=x
  exact(List.mem_cons.mp m).elim (λe=>⟨k,e▸x1⟩) (ih x2)
theorem JU(hk:hM prog w ts s.heap ks a)(h:Q true s):wpAny (model prog w) A (eqIsQuiet 8 (.ref a)) Q E s:=by
 obtain ⟨_,o,items,n,ho,hc,hd,hi⟩:=hk
 exact B3 ho hc hd (λv hv {Q E} q=>(hi.mem hv).elim λk x=>JT (n:=5) x q) h
end
noncomputable def l7(prog:Program)(w:World)(ts:List KT):HeapKind prog w (List K1) where
 is:=hM prog w ts
 hash:=Ag prog w
 draws:=vx
 room:=λA=>A.units+1<cLine
 inj:=λhx hy=>hx.inj hy
 keeps:=λx ho hd hs=>x.keeps ho hd hs
 pyHash:=λhu hk h=>H2 hu hk h
 eqBool:=λhu hx hy h=>H4 hu hx hy h
 quiet:=λhk h=>JU hk h
end FR
namespace FR
open PySem PySem.W PySem.Calls PyProof.Rows
noncomputable def bT:Nat->Addr
 |0=>478
 |1=>520
 |_=>44
noncomputable abbrev l8(xs:Array Value)(n:Nat):Obj:=⟨.type "tuple",none,.seq xs n,#[]⟩
noncomputable abbrev gI(xs:Array Value)(n:Nat):Obj:=⟨.type "list",none,.seq xs n,#[]⟩
noncomputable abbrev fu(es:Array DictEntry)(n:Nat):Obj:=⟨.type "dict",none,.dict es n,#[]⟩
noncomputable abbrev gJ(c:Nat)(dx:Addr):Obj:=⟨.ref (bT c),some dx,.plain,#[]⟩
noncomputable def Sub(h h':Heap):Prop:=∀a o,h.get? a=some o->h'.get? a=some o
structure Bs where
 prog:Program
 w:World
 hc:Heap
 sys:∃o,hc.get? sysModules=some o
mutual
noncomputable def VR(b:Bs)(h:Heap)(Y:List Addr):PV->Value->Prop
 |.none,v=>v=.none
 |.bool x,v=>v=.bool x
 |.int i,v=>∃t,v=.int i t
 |.str x,v=>∃t,v=.str ⟨x.toArray⟩ t
 |.bytes x,v=>∃y t,v=.bytes y t/\y.toList.map (·.toNat)=x
 |.tup l,v=>∃a xs n,v=.ref a/\h.get? a=some (l8 xs n)/\ay b h Y l xs.toList
 |.ref i,v=>∃a,v=.ref a/\Y[i]? =some a
 |.cQ l,v=>∃a o xs,v=.ref a/\b.hc.get? a=some o/\o.cls=.type "list"/\(∃n,o.data=.seq xs n)/\ay b h Y l xs.toList
 |.eM ks vs,v=>∃a aM,v=.ref a/\b.hc.DictOf (intKind b.prog b.w) a aM/\(a == sysModules)=false/\aM.map (·.1)=ks/\ay b h Y vs (aM.map (·.2))
 |.inst c j,v=>∃a dx,v=.ref a/\h.get? a=some (gJ c dx)/\Y[j]? =some dx
 |.Aa c r,v=>∃a dx hs t x n,v=.ref a/\b.hc.get? a=some (gJ c dx)/\b.hc.get? dx=some (fu #[⟨hs,.str (Str.ofString "rows") t,x⟩] n)/\VR b h Y r x
noncomputable def ay(b:Bs)(h:Heap)(Y:List Addr):List PV->List Value->Prop
 |[],[]=>True
 |p::ps,v::vs=>VR b h Y p v/\ay b h Y ps vs
 |_,_=>False
end
section
variable{b:Bs}{h:Heap}{Y:List Addr}{p:PV}{v:Value}{ps qs:List PV}{vs ws:List Value}
theorem ay.nil:ay b h Y [] []:=trivial
theorem ay.cons(x:VR b h Y p v)(y:ay b h Y ps vs):ay b h Y (p::ps) (v::vs):=⟨x,y⟩
@[elab_as_elim] theorem ay.cI{M:List Value->Prop}(x:ay b h Y (p::ps) vs)(k:∀v vs,VR b h Y p v->ay b h Y ps vs->M (v::vs)):M vs:=by
 cases vs with
 |nil=>exact x.elim
 |cons v vs=>exact k v vs x.1 x.2
@[elab_as_elim] theorem ay.elim0{M:List Value->Prop}(x:ay b h Y [] vs)(k:M []):M vs:=by
 cases vs with
 |nil=>exact k
 |cons v vs=>exact x.elim
theorem ay.length(x:ay b h Y ps vs):vs.length=ps.length:=by
 induction ps generalizing vs with
 |nil=>exact x.elim0 rfl
 |cons p ps ih=>exact x.cI λv vs O y=>congrArg (· +1) (ih y)
theorem ay.append(x:ay b h Y ps vs)(y:ay b h Y qs ws):ay b h Y (ps++qs) (vs++ws):=by
 induction ps generalizing vs with
 |nil=>exact x.elim0 y
 |cons p ps ih=>exact x.cI λv vs a z=>⟨a,ih z⟩
theorem ay.get(x:ay b h Y ps vs){i:Nat}(e:fq ps i=some p):∃v,vs[i]? =some v/\VR b h Y p v:=by
 induction ps generalizing vs i with
 |nil=>exact nomatch e
 |cons q ps ih=>cases i with
  |zero=>exact x.cI λv vs a O=>⟨v,rfl,Option.some.inj e▸a⟩
  |succ i=>exact x.cI λv vs a z=>ih z e
theorem ay.at(x:ay b h Y ps vs){i:Nat}(e:vs[i]? =some v):∃p,fq ps i=some p/\VR b h Y p v:=by
 induction ps generalizing vs i with
 |nil=>exact(x.elim0 (M:=λvs=>vs[i]? =some v->_) nofun) e
 |cons q ps ih=>cases i with
  |zero=>exact(x.cI (M:=λvs=>vs[0]? =some v->_) λw vs a O e=>⟨q,rfl,Option.some.inj e▸a⟩) e
  |succ i=>exact(x.cI (M:=λvs=>vs[i+1]? =some v->_) λw vs a z e=>ih z e) e
theorem ay.past(x:ay b h Y ps vs){i:Nat}(e:fq ps i=none):vs[i]? =none:=by
 induction ps generalizing vs i with
 |nil=>exact x.elim0 rfl
 |cons q ps ih=>cases i with
  |zero=>exact nomatch e
  |succ i=>exact x.cI λv vs a z=>ih z e
theorem ay.take(n:Nat)(x:ay b h Y ps vs):ay b h Y (ps.take n) (vs.take n):=by
 induction n generalizing ps vs with
 |zero=>exact trivial
 |succ n ih=>cases ps with
  |nil=>exact x.elim0 trivial
  |cons p ps=>exact x.cI λv vs a z=>⟨a,ih z⟩
theorem ay.drop(n:Nat)(x:ay b h Y ps vs):ay b h Y (ps.drop n) (vs.drop n):=by
 induction n generalizing ps vs with
 |zero=>exact x
 |succ n ih=>cases ps with
  |nil=>exact x.elim0 trivial
  |cons p ps=>exact x.cI λv vs a z=>ih z
variable{M:Value->Prop}
@[elab_as_elim] theorem VR.Ah(x:VR b h Y .none v)(k:M .none):M v:=(show v=.none from x)▸k
@[elab_as_elim] theorem VR.Ai{i:Bool}(x:VR b h Y (.bool i) v)(k:M (.bool i)):M v:=(show v=.bool i from x)▸k
@[elab_as_elim] theorem VR.jq{i:Int}(x:VR b h Y (.int i) v)(k:∀t,M (.int i t)):M v:=let ⟨t,e⟩:=(show ∃t,v=.int i t from x);e▸k t
@[elab_as_elim] theorem VR.sI{i:List Nat}(x:VR b h Y (.str i) v)(k:∀t,M (.str ⟨i.toArray⟩ t)):M v:=let ⟨t,e⟩:=(show ∃t,v=.str ⟨i.toArray⟩ t from x);e▸k t
@[elab_as_elim] theorem VR.Ez{i:Nat}(x:VR b h Y (.ref i) v)(k:∀a,Y[i]? =some a->M (.ref a)):M v:=let ⟨a,e,f⟩:=(show ∃a,v=.ref a/\Y[i]? =some a from x);e▸k a f
@[elab_as_elim] theorem VR.d8{l:List PV}(x:VR b h Y (.tup l) v)(k:∀a xs n,h.get? a=some (l8 xs n)->ay b h Y l xs.toList->M (.ref a)):M v:=
 let ⟨a,xs,n,e,f,g⟩:=(show ∃a xs n,v=.ref a/\h.get? a=some (l8 xs n)/\ay b h Y l xs.toList from x);e▸k a xs n f g
theorem VR.l9(i:Int)(t:Tok):VR b h Y (.int i) (.int i t):=⟨t,rfl⟩
theorem VR.PT(i:List Nat)(t:Tok):VR b h Y (.str i) (.str ⟨i.toArray⟩ t):=⟨t,rfl⟩
theorem VR.u1(i:Bool):VR b h Y (.bool i) (.bool i):=rfl
theorem VR.u2:VR b h Y .none .none:=rfl
theorem VR.pY{l:List PV}{a:Addr}{xs:Array Value}{n:Nat}(e:h.get? a=some (l8 xs n))(x:ay b h Y l xs.toList):VR b h Y (.tup l) (.ref a):=⟨a,xs,n,rfl,e,x⟩
theorem VR.md{i:Nat}{a:Addr}(e:Y[i]? =some a):VR b h Y (.ref i) (.ref a):=⟨a,rfl,e⟩
end
structure dY(o:Obj):Prop where
 l:o.cls≠ .type "list"
 d:o.cls≠ .type "dict"
 t:∀es n,o.data≠ .dict es n
 f:∀vs,o.data≠ .fields vs
theorem nh{o:Obj}{xs:Array Value}{n:Nat}(e:o.cls=.type "tuple")(d:o.data=.seq xs n):dY o:=
 ⟨e▸by decide,e▸by decide,λO O=>d▸nofun,λO=>d▸nofun⟩
theorem nq(xs:Array Value)(n:Nat):dY (l8 xs n):=nh rfl rfl
theorem Aj(c:Nat)(dx:Addr):dY (gJ c dx):=⟨nofun,nofun,nofun,nofun⟩
structure Later(h:Heap)(Y:List Addr)(h':Heap)(gg:List Addr):Prop where
 k:∀a o,h.get? a=some o->dY o->h'.get? a=some o
 m:∃ν,gg=Y++ν
section
variable{b:Bs}{h h' hN:Heap}{Y gg JV:List Addr}
theorem Later.lz(k:Sub h h')(a:List Addr):Later h Y h' (Y++a):=⟨λa o e O=>k a o e,a,rfl⟩
theorem Later.sub(k:Sub h h'):Later h Y h' Y:=⟨λa o e O=>k a o e,[],(List.append_nil Y).symm⟩
theorem Later.trans(A:Later h Y h' gg)(B:Later h' gg hN JV):Later h Y hN JV:=
 ⟨λa o e s=>B.k a o (A.k a o e s) s,let ⟨ν,e⟩:=A.m;let ⟨B4,e'⟩:=B.m;⟨ν++B4,by rw[e',e,List.append_assoc]⟩⟩
theorem Later.at(k:Later h Y h' gg){i:Nat}{a:Addr}(e:Y[i]? =some a):gg[i]? =some a:=by
 obtain ⟨ν,e'⟩:=k.m
 rw[e',List.getElem?_append_left (List.getElem?_eq_some_iff.mp e).1]
 exact e
mutual
theorem VR.later(k:Later h Y h' gg):∀{p:PV}{v:Value},VR b h Y p v->VR b h' gg p v
 |.none,_,x=>x
 |.bool _,_,x=>x
 |.int _,_,x=>x
 |.str _,_,x=>x
 |.bytes _,_,x=>x
 |.tup l,_,x=>x.d8 λa xs n g y=>VR.pY (k.k _ _ g (nq xs n)) (ay.later k y)
 |.ref i,_,x=>x.Ez λa e=>VR.md (k.at e)
 |.cQ l,v,x=>(show VR b h Y (.cQ l) v->∃a o xs,v=.ref a/\b.hc.get? a=some o/\o.cls=.type "list"/\(∃n,o.data=.seq xs n)/\ay b h Y l xs.toList from λx=>x) x |>.imp λO=>Exists.imp λO=>Exists.imp λO=>And.imp_right (And.imp_right (And.imp_right (And.imp_right (ay.later k))))
 |.eM ks vs,v,x=>(show VR b h Y (.eM ks vs) v->∃a aM,v=.ref a/\b.hc.DictOf (intKind b.prog b.w) a aM/\(a == sysModules)=false/\aM.map (·.1)=ks/\ay b h Y vs (aM.map (·.2)) from λx=>x) x |>.imp λO=>Exists.imp λO=>And.imp_right (And.imp_right (And.imp_right (And.imp_right (ay.later k))))
 |.inst c j,v,x=>(show VR b h Y (.inst c j) v->∃a dx,v=.ref a/\h.get? a=some (gJ c dx)/\Y[j]? =some dx from λx=>x) x |>.imp λO=>Exists.imp λdx=>And.imp_right (And.imp (λg=>k.k _ _ g (Aj c dx)) k.at)
 |.Aa c r,v,x=>(show VR b h Y (.Aa c r) v->∃a dx hs t x n,v=.ref a/\b.hc.get? a=some (gJ c dx)/\b.hc.get? dx=some (fu #[⟨hs,.str (Str.ofString "rows") t,x⟩] n)/\VR b h Y r x from λx=>x) x |>.imp λO=>Exists.imp λO=>Exists.imp λO=>Exists.imp λO=>Exists.imp λO=>Exists.imp λO=>And.imp_right (And.imp_right (And.imp_right (VR.later k)))
theorem ay.later(k:Later h Y h' gg):∀{ps:List PV}{vs:List Value},ay b h Y ps vs->ay b h' gg ps vs
 |[],_,x=>x.elim0 trivial
 |p::ps,_,x=>x.cI λv vs a c=>⟨VR.later k a,ay.later k c⟩
end
end
noncomputable def MR(b:Bs)(h:Heap)(Y:List Addr)(a:Addr):MO->Prop
 |.list l=>∃xs n,h.get? a=some (gI xs n)/\ay b h Y l xs.toList
 |.dict kk es=>match kk with
  |.int=>∃aM,h.DictOf (intKind b.prog b.w) a aM/\es.map (·.1)=aM.map (λx=>Key.int x.1)/\ay b h Y (es.map (·.2)) (aM.map (·.2))
  |.tup ts=>∃xs,h.DictOfH (l7 b.prog b.w ts) a xs/\es.map (·.1)=xs.map (λx=>Key.tup x.1)/\ay b h Y (es.map (·.2)) (xs.map (·.2.2))
 |.attrs r=>∃ds n,h.get? a=some (fu ds n)/\match r with
  |.none=>ds= #[]
  |some p=>∃hs t x,ds= #[⟨hs,.str (Str.ofString "rows") t,x⟩]/\VR b h Y p x
structure jS(o:Obj):Prop where
 c:o.cls=.type "list"\/o.cls=.type "dict"
 f:∀vs,o.data≠ .fields vs
theorem dY.no{o:Obj}(s:dY o)(q:jS o):False:=q.c.elim s.l s.d
theorem ie.later{prog:Program}{w:World}{h h':Heap}{k:K1}{v:Value}(s:∀a o,h.get? a=some o->dY o->h'.get? a=some o)(x:ie prog w h k v):ie prog w h' k v:=by
 cases k with
 |i _=>exact x
 |s _=>exact x
 |n l=>exact x.imp λt=>And.imp_right (Exists.imp λo=>Exists.imp λitems=>Exists.imp λn x=>⟨s _ _ x.1 (nh x.2.1 x.2.2.1),x.2⟩)
theorem eO.later{prog:Program}{w:World}{h h':Heap}(s:∀a o,h.get? a=some o->dY o->h'.get? a=some o){ks:List K1}{vs:List Value}(x:eO prog w h ks vs):eO prog w h' ks vs:=by
 induction ks generalizing vs with
 |nil=>exact x
 |cons p ks ih=>exact x.imp λv=>Exists.imp λr=>And.imp_right (And.imp (ie.later s) ih)
theorem hM.later{prog:Program}{w:World}{ts:List KT}{h h':Heap}{ks:List K1}{a:Addr}(k:∀a o,h.get? a=some o->dY o->h'.get? a=some o)(x:hM prog w ts h ks a):hM prog w ts h' ks a:=
 x.imp id (Exists.imp λo=>Exists.imp λxs=>Exists.imp λn x=>⟨k _ _ x.1 (nh x.2.1 x.2.2.1),x.2.1,x.2.2.1,x.2.2.2.later k⟩)
theorem DictOf.obj{prog:Program}{w:World}{h:Heap}{a:Addr}{aM:List (Int×Value)}(D:h.DictOf (intKind prog w) a aM):∃o,h.get? a=some o/\o.ExactDict/\jS o:=
 D.imp λO D=>D.elim λO D=>D.elim λO D=>⟨D.1,D.2.1,.inr D.2.1.1,λO=>D.2.2.1▸nofun⟩
theorem DictOfH.obj{prog:Program}{w:World}{ts:List KT}{h:Heap}{a:Addr}{xs:List (List K1×Addr×Value)}(D:h.DictOfH (l7 prog w ts) a xs):∃o,h.get? a=some o/\o.ExactDict/\jS o:=
 D.imp λO D=>D.elim λO D=>D.elim λO D=>⟨D.1,D.2.1,.inr D.2.1.1,λO=>D.2.2.1▸nofun⟩
theorem DictOfH.later{prog:Program}{w:World}{ts:List KT}{h h':Heap}{a:Addr}{xs:List (List K1×Addr×Value)}(s:∀a o,h.get? a=some o->dY o->h'.get? a=some o)(ka:∀o,h.get? a=some o->h'.get? a=some o)(D:h.DictOfH (l7 prog w ts) a xs):h'.DictOfH (l7 prog w ts) a xs:=
 D.imp λo=>Exists.imp λO=>Exists.imp λO=>And.imp (ka o) (And.imp_right (And.imp_right (And.imp_right (And.imp_left λRC x hx=>hM.later s (RC x hx)))))
theorem MR.obj{b:Bs}{h:Heap}{Y:List Addr}{a:Addr}{m:MO}(x:MR b h Y a m):∃o,h.get? a=some o/\jS o:=by
 cases m with
 |list l=>exact x.elim λO x=>x.elim λO x=>⟨_,x.1,.inl rfl,nofun⟩
 |attrs r=>exact x.elim λO x=>x.elim λO x=>⟨_,x.1,.inr rfl,nofun⟩
 |dict k es=>
  cases k with
  |int=>exact x.elim λO x=>(DictOf.obj x.1).imp λO x=>⟨x.1,x.2.2⟩
  |tup ts=>exact x.elim λO x=>(DictOfH.obj x.1).imp λO x=>⟨x.1,x.2.2⟩
theorem MR.later{b:Bs}{h h':Heap}{Y gg:List Addr}{a:Addr}{m:MO}(k:Later h Y h' gg)(ka:∀o,h.get? a=some o->h'.get? a=some o)(x:MR b h Y a m):MR b h' gg a m:=by
 cases m with
 |list l=>exact x.imp λO=>Exists.imp λO=>And.imp (ka _) (ay.later k)
 |attrs r=>
  refine x.imp λO=>Exists.imp λO=>And.imp (ka _) ?_
  cases r with
  |none=>exact id
  |some p=>exact Exists.imp λO=>Exists.imp λO=>Exists.imp λO=>And.imp_right (VR.later k)
 |dict kk es=>
  cases kk with
  |int=>exact x.imp λO=>And.imp (λD=>D.at ka) (And.imp_right (ay.later k))
  |tup ts=>exact x.imp λO=>And.imp (DictOfH.later k.k ka) (And.imp_right (ay.later k))
theorem zc:∀{Z:ae}{i:Nat},i<Z.length->∃o,aj Z i=some o
 |o::_,0,_=>⟨o,rfl⟩
 |_::Z,i+1,e=>zc (Z:=Z) (i:=i) (Nat.lt_of_succ_lt_succ e)
theorem bh:∀{Z:ae}{i:Nat}{o:MO},aj Z i=some o->i<Z.length
 |_::_,0,_,_=>Nat.succ_pos _
 |_::r,i+1,_,h=>Nat.succ_lt_succ (bh (Z:=r) (i:=i) h)
theorem dv:∀{Z:ae}{x:ae}{i:Nat},i<Z.length->aj (Z++x) i=aj Z i
 |_::_,_,0,_=>rfl
 |_::r,_,i+1,h=>dv (Z:=r) (Nat.lt_of_succ_lt_succ h)
theorem bz:∀(Z:ae)(o:MO),aj (Z++[o]) Z.length=some o
 |[],_=>rfl
 |_::r,o=>bz r o
theorem fB:∀(Z:ae)(i:Nat)(x:MO),(sset Z i x).length=Z.length
 |[],_,_=>rfl
 |_::_,0,_=>rfl
 |_::r,i+1,x=>congrArg (· +1) (fB r i x)
theorem bB:∀(Z:ae){i j:Nat}(x:MO),j≠i->aj (sset Z i x) j=aj Z j
 |[],_,_,_,_=>rfl
 |_::_,0,0,_,h=>absurd rfl h
 |_::_,0,_+1,_,_=>rfl
 |_::_,_+1,0,_,_=>rfl
 |_::r,_+1,_+1,x,h=>bB r x λe=>h (congrArg (· +1) e)
theorem ez:∀(Z:ae){i:Nat}(x:MO),i<Z.length->aj (sset Z i x) i=some x
 |_::_,0,_,_=>rfl
 |_::r,_+1,x,h=>ez r x (Nat.lt_of_succ_lt_succ h)
structure cx(b:Bs)(Z:ae)(Y:List Addr)(h:Heap):Prop where
 ml:Y.length=Z.length
 st:∀i o,aj Z i=some o->∃a,Y[i]? =some a/\MR b h Y a o
 nd:Y.Nodup
 fresh:∀a∈Y,b.hc.get? a=none
section
variable{b:Bs}{Z:ae}{Y:List Addr}{h h':Heap}{a:Addr}{o:Obj}{m m₀:MO}
theorem bp{α:Type}{x:Option α}{a c:α}(e:x=some a)(f:x=some c):a=c:=Option.some.inj (e.symm.trans f)
theorem aH{α:Type}{x:Option α}{c:α}(e:x=none)(f:x=some c):False:=nomatch e.symm.trans f
theorem cx.at(S:cx b Z Y h){i:Nat}(q:aj Z i=some m)(e:Y[i]? =some a):MR b h Y a m:=
 (S.st i m q).elim λO x=>bp x.1 e▸x.2
theorem cx.obj(S:cx b Z Y h)(ha:a∈Y):∃o,h.get? a=some o/\jS o:=by
 obtain ⟨i,e⟩:=List.getElem?_of_mem ha
 exact(zc (Z:=Z) (i:=i) (S.ml▸(List.getElem?_eq_some_iff.mp e).1)).elim λm q=>(S.at q e).obj
theorem cx.off(S:cx b Z Y h)(e:h.get? a=some o)(s:¬jS o):a∉Y:=λm=>
 (S.obj m).elim λO x=>s (bp e x.1▸x.2)
theorem cx.EA(S:cx b Z Y h)(e:h.get? a=none):a∉Y:=λm=>(S.obj m).elim λO x=>aH e x.1
theorem cx.noSys(S:cx b Z Y h)(ha:a∈Y):(a == sysModules)=false:=
 beq_eq_false_iff_ne.mpr λq=>b.sys.elim λO e=>aH (S.fresh _ ha) (q▸e)
theorem cx.move(S:cx b Z Y h)(s:∀a o,h.get? a=some o->dY o->h'.get? a=some o)(k:∀a∈Y,∀o,h.get? a=some o->h'.get? a=some o):cx b Z Y h':=
 ⟨S.ml,λi o q=>(S.st i o q).imp λa x=>⟨x.1,x.2.later ⟨s,[],(List.append_nil Y).symm⟩ (k a (List.mem_of_getElem? x.1))⟩,S.nd,S.fresh⟩
theorem cx.keeps(S:cx b Z Y h)(k:Sub h h'):cx b Z Y h':=S.move (λa o e O=>k a o e) λa O o e=>k a o e
theorem cx.add(S:cx b Z Y h)(hn:a∉Y)(hf:b.hc.get? a=none)(M:MR b h (Y++[a]) a m):cx b (Z++[m]) (Y++[a]) h:=by
 have la:Later h Y h (Y++[a]):=.lz (λO O e=>e) _
 have ml:(Y++[a]).length=(Z++[m]).length:=by rw[List.length_append,List.length_append,S.ml];rfl
 refine⟨ml,λi o e=> ?_,List.nodup_append.mpr ⟨S.nd,List.nodup_cons.mpr ⟨nofun,List.nodup_nil⟩,λx hx y hy q=>hn (List.mem_singleton.mp hy▸q▸hx)⟩,λx hx=>(List.mem_append.mp hx).elim (S.fresh x) λhx=>List.mem_singleton.mp hx▸hf⟩
 cases Nat.lt_or_ge i Z.length with
 |inl hi=>exact(S.st i o (dv hi▸e)).imp λa x=>⟨la.at x.1,x.2.later la λO e=>e⟩
 |inr hi=>
  have hl:=bh e
  rw[List.length_append] at hl
  obtain rfl:=Nat.le_antisymm (Nat.le_of_lt_succ hl) hi
  exact bp (bz Z m) e▸⟨a,by rw[<-S.ml];exact List.getElem?_concat_length,M⟩
theorem cx.put{i:Nat}(S:cx b Z Y h)(q:aj Z i=some m₀)(e:Y[i]? =some a)(s:∀x o,h.get? x=some o->dY o->h'.get? x=some o)(k:∀x∈Y,x≠a->∀o,h.get? x=some o->h'.get? x=some o)(M:MR b h' Y a m):cx b (sset Z i m) Y h':=by
 refine⟨(S.ml.trans (fB Z i m).symm),λj o eo=> ?_,S.nd,S.fresh⟩
 by_cases hj:j=i
 ·subst hj
  exact bp (ez Z m (bh q)) eo▸⟨a,e,M⟩
 ·exact(S.st j o ((bB Z m hj).symm.trans eo)).imp λa' x=>⟨x.1,x.2.later ⟨s,[],(List.append_nil Y).symm⟩ (k a' (List.mem_of_getElem? x.1) λz=>hj ((List.getElem?_inj (List.getElem?_eq_some_iff.mp x.1).1 S.nd).mp (x.1.trans (z▸e.symm))))⟩
theorem cx.set{i:Nat}(S:cx b Z Y h)(q:aj Z i=some m₀)(e:Y[i]? =some a)(hs:Heap.SameBut a h h')(M:MR b h' Y a m):cx b (sset Z i m) Y h':=
 S.put q e (λx o ex s=>(hs.2 x λz=>(S.at q e).obj.elim λO y=>s.no (bp y.1 (z▸ex)▸y.2)).trans ex) (λx O n o ex=>(hs.2 x n).trans ex) M
end
structure Cx extends Bs where
 fr:List Env
 L:Addr
 locs:List Str
 kf:∀env∈fr,env.scope.kind≠ .module/\∃L,env.frame=some L/\hc.get? L=none
 lf:hc.get? L=none
noncomputable def Cx.F(c:Cx):List Addr:=c.fr.filterMap (·.frame)
structure Pt where
 Y:List Addr
 s:Shared
noncomputable abbrev Pt.h(P:Pt):Heap:=P.s.heap
noncomputable abbrev Pt.at(P:Pt)(Y:List Addr)(h:Heap)(t:Nat):Pt:=⟨Y,{P.s with heap:=h,toks:=t}⟩
noncomputable abbrev Pt.tok(P:Pt)(t:Nat):Pt:=⟨P.Y,{P.s with toks:=t}⟩
noncomputable def Vl(c:Cx)(P:Pt)(p:PV)(v:Value):Prop:=VR c.toBs P.s.heap P.Y p v
noncomputable def b4(c:Cx)(P:Pt)(ps:List PV)(vs:List Value):Prop:=ay c.toBs P.s.heap P.Y ps vs
structure Inv(c:Cx)(J:Loc)(Z:ae)(P:Pt):Prop where
 so:cx c.toBs Z P.Y P.s.heap
 kc:Sub c.hc P.s.heap
 sep:∀a∈P.Y,a∉c.F/\a≠c.L
 ns:∀a∈c.F,∃m,P.s.heap.Ns a m
 loc:∃m,P.s.heap.Ns c.L m/\∀(i:Nat) x p,c.locs[i]? =some x->bo J i=some p->∃v,m x=some v/\Vl c P p v
structure iE(F X:List Addr)(P P':Pt):Prop where
 pre:∃ν,P'.Y=P.Y++ν
 keep:∀a o,P.s.heap.get? a=some o->a∉P.Y->a∉F->a∉X->a∉P'.Y/\P'.s.heap.get? a=some o
 ns:∀a∈F,a∉X->∀m,P.s.heap.Ns a m->P'.s.heap.Ns a m
 off:∀a,a∈F\/a∈X->a∉P.Y->a∉P'.Y
 same:P'.s={P.s with heap:=P'.s.heap,toks:=P'.s.toks}
noncomputable abbrev To(c:Cx)(P P':Pt):Prop:=iE c.F [c.L] P P'
theorem Ns.tab{h:Heap}{a:Addr}{m:Str->Option Value}(n:h.Ns a m):∃o es k,h.get? a=some o/\o.data=.dict es k:=n.imp λO=>Exists.imp λO=>Exists.imp λO n=>⟨n.1,n.2.1⟩
theorem Ns.at{h h':Heap}{a:Addr}{m:Str->Option Value}(n:h.Ns a m)(k:∀o,h.get? a=some o->h'.get? a=some o):h'.Ns a m:=n.imp λo=>Exists.imp λO=>Exists.imp λO=>And.imp_left (k o)
theorem Ns.no{h:Heap}{a:Addr}{m:Str->Option Value}(n:h.Ns a m){o:Obj}(e:h.get? a=some o)(d:∀es k,o.data≠ .dict es k):False:=
 (Ns.tab n).elim λO n=>n.elim λes n=>n.elim λk n=>d es k (bp n.1 e▸n.2)
section
variable{c:Cx}{J aN:Loc}{Z af:ae}{P P' tK:Pt}{F X:List Addr}{a:Addr}{o:Obj}{h':Heap}
theorem Inv.Gz(I:Inv c J Z P):∃m,P.s.heap.Ns c.L m:=I.loc.imp λO=>And.left
theorem Inv.zd(I:Inv c J Z P)(e:P.s.heap.get? a=some o)(d:∀es k,o.data≠ .dict es k):a∉c.F/\a≠c.L:=
 ⟨λm=>(I.ns a m).elim λO n=>Ns.no n e d,λm=>I.Gz.elim λO n=>Ns.no n (m▸e) d⟩
theorem Inv.new(I:Inv c J Z P)(e:P.s.heap.get? a=none):c.hc.get? a=none/\a∉P.Y/\a∉c.F/\a≠c.L:=by
 have tab:∀{b m},P.s.heap.Ns b m->a≠b:=λn q=>(Ns.tab n).elim λO n=>n.elim λO n=>n.elim λO n=>aH e (q▸n.1)
 refine⟨?_,I.so.EA e,λm=>(I.ns a m).elim λO n=>tab n rfl,I.Gz.elim λO n=>tab n⟩
 cases q:c.hc.get? a with
 |none=>rfl
 |some o=>exact(aH e (I.kc a o q)).elim
theorem iE.refl{t:Nat}:iE F X P (P.tok t):=⟨⟨[],(List.append_nil _).symm⟩,λO O e n O O=>⟨n,e⟩,λO O O O n=>n,λO O n=>n,rfl⟩
theorem iE.trans(A:iE F X P P')(B:iE F X P' tK):iE F X P tK:=
 ⟨A.pre.elim λν e=>B.pre.elim λB4 e'=>⟨ν++B4,by rw[e',e,List.append_assoc]⟩,λa o e x y z=>let q:=A.keep a o e x y z;B.keep a o q.2 q.1 y z,λa x y m n=>B.ns a x y m (A.ns a x y m n),λa x n=>B.off a x (A.off a x n),by rw[B.same,A.same]⟩
theorem Inv.later(I:Inv c J Z P)(hX:∀a∈X,a=c.L)(A:iE c.F X P P'):Later P.s.heap P.Y P'.s.heap P'.Y:=
 ⟨λa o e s=>let t:=I.zd e s.t;(A.keep a o e (I.so.off e s.no) t.1 λm=>t.2 (hX a m)).2,A.pre⟩
theorem Inv.nt(I:Inv c J Z P)(A:To c P P'):Later P.s.heap P.Y P'.s.heap P'.Y:=I.later (λO=>List.mem_singleton.mp) A
theorem Vl.to{p:PV}{v:Value}(V:Vl c P p v)(I:Inv c J Z P)(A:To c P P'):Vl c P' p v:=VR.later (I.nt A) V
theorem b4.to{p:List PV}{v:List Value}(V:b4 c P p v)(I:Inv c J Z P)(A:To c P P'):b4 c P' p v:=ay.later (I.nt A) V
theorem Inv.under(I:Inv c J Z P)(A:iE c.F [] P P')(S:cx c.toBs af P'.Y P'.s.heap):Inv c J af P'/\To c P P':=by
 have la:=I.later (λO m=>absurd m List.not_mem_nil) A
 have oL:c.L∉P'.Y:=by
  by_cases q:c.L∈c.F
  ·exact A.off c.L (.inl q) λz=>(I.sep _ z).2 rfl
  ·exact I.Gz.elim λm n=>(Ns.tab n).elim λo n=>n.elim λO n=>n.elim λO n=>(A.keep c.L o n.1 (λz=>(I.sep _ z).2 rfl) q nofun).1
 have kL:∀m,P.s.heap.Ns c.L m->P'.s.heap.Ns c.L m:=λm n=>by
  by_cases q:c.L∈c.F
  ·exact A.ns c.L q nofun m n
  ·exact Ns.at n λo e=>(A.keep c.L o e (λz=>(I.sep _ z).2 rfl) q nofun).2
 have oF:∀a∈c.F,a∉P'.Y:=λa q=>A.off a (.inl q) λz=>(I.sep a z).1 q
 refine⟨⟨S,λa o e=> ?_,λa m=>⟨λq=>oF a q m,λq=>oL (q▸m)⟩,λa q=>(I.ns a q).imp (A.ns a q nofun),I.loc.imp λm=>And.imp (kL m) λhl i x p hx hp=>(hl i x p hx hp).imp λv=>And.imp_right (VR.later la)⟩,
  A.pre,λa o e x y O=>A.keep a o e x y nofun,λa x O=>A.ns a x nofun,λa x n=>x.elim (λx=>A.off a (.inl x) n) λx=>List.mem_singleton.mp x▸oL,A.same⟩
 refine(A.keep a o (I.kc a o e) (λm=>aH (I.so.fresh a m) e) (λm=> ?_) nofun).2
 obtain ⟨env,hm,hf⟩:=List.mem_filterMap.mp m
 exact(c.kf env hm).2.elim λL x=>aH x.2 (bp x.1 hf▸e)
end
end FR
namespace FR.Q
noncomputable abbrev Row:=List Int
noncomputable def pr(r:Row):PV:=.tup (r.map .int)
noncomputable def msg(t:Int)(k:Int)(w:List Nat):PV:=.tup [.int t,.int k,.str w]
noncomputable def ri:List (Int×List (List Nat×Int)):=[(0,[([71,101,110,101,114,97,116,105,111,110],1),([78,97,109,101],4),([77,118,105,100],6),([69,110,99,73,100],6),([69,110,99,66,97,115,101,73,100],6)]),
 (1,[([82,101,115,111,108,117,116,105,111,110,83,99,111,112,101],517),([84,121,112,101,78,97,109,101],4),([84,121,112,101,78,97,109,101,115,112,97,99,101],4)]),
 (2,[([70,108,97,103,115],2),([84,121,112,101,78,97,109,101],4),([84,121,112,101,78,97,109,101,115,112,97,99,101],4),([69,120,116,101,110,100,115],512),([70,105,101,108,100,76,105,115,116],260),([77,101,116,104,111,100,76,105,115,116],262)]),
 (4,[([70,108,97,103,115],1),([78,97,109,101],4),([83,105,103,110,97,116,117,114,101],5)]),
 (6,[([82,86,65],2),([73,109,112,108,70,108,97,103,115],1),([70,108,97,103,115],1),([78,97,109,101],4),([83,105,103,110,97,116,117,114,101],5),([80,97,114,97,109,76,105,115,116],264)]),
 (8,[([70,108,97,103,115],1),([83,101,113,117,101,110,99,101],1),([78,97,109,101],4)]),
 (9,[([67,108,97,115,115],258),([73,110,116,101,114,102,97,99,101],512)]),
 (10,[([67,108,97,115,115],514),([78,97,109,101],4),([83,105,103,110,97,116,117,114,101],5)]),
 (11,[([84,121,112,101],3),([80,97,114,101,110,116],513),([86,97,108,117,101],5)]),
 (17,[([83,105,103,110,97,116,117,114,101],5)]),
 (18,[([80,97,114,101,110,116],258),([69,118,101,110,116,76,105,115,116],276)]),
 (20,[([69,118,101,110,116,70,108,97,103,115],1),([78,97,109,101],4),([69,118,101,110,116,84,121,112,101],512)]),
 (21,[([80,97,114,101,110,116],258),([80,114,111,112,101,114,116,121,76,105,115,116],279)]),
 (23,[([70,108,97,103,115],1),([78,97,109,101],4),([84,121,112,101],5)]),
 (24,[([83,101,109,97,110,116,105,99,115],1),([77,101,116,104,111,100],262),([65,115,115,111,99,105,97,116,105,111,110],515)]),
 (25,[([67,108,97,115,115],258),([77,101,116,104,111,100,66,111,100,121],516),([77,101,116,104,111,100,68,101,99,108,97,114,97,116,105,111,110],516)]),
 (27,[([83,105,103,110,97,116,117,114,101],5)]),
 (32,[([72,97,115,104,65,108,103,73,100],2),([77,97,106,111,114,86,101,114,115,105,111,110],1),([77,105,110,111,114,86,101,114,115,105,111,110],1),([66,117,105,108,100,78,117,109,98,101,114],1),([82,101,118,105,115,105,111,110,78,117,109,98,101,114],1),([70,108,97,103,115],2),([80,117,98,108,105,99,75,101,121],5),([78,97,109,101],4),([67,117,108,116,117,114,101],4)]),
 (35,[([77,97,106,111,114,86,101,114,115,105,111,110],1),([77,105,110,111,114,86,101,114,115,105,111,110],1),([66,117,105,108,100,78,117,109,98,101,114],1),([82,101,118,105,115,105,111,110,78,117,109,98,101,114],1),([70,108,97,103,115],2),([80,117,98,108,105,99,75,101,121,79,114,84,111,107,101,110],5),([78,97,109,101],4),([67,117,108,116,117,114,101],4),([72,97,115,104,86,97,108,117,101],5)]),
 (41,[([78,101,115,116,101,100,67,108,97,115,115],258),([69,110,99,108,111,115,105,110,103,67,108,97,115,115],258)]),
 (42,[([78,117,109,98,101,114],1),([70,108,97,103,115],1),([79,119,110,101,114],518),([78,97,109,101],4)]),
 (43,[([77,101,116,104,111,100],516),([73,110,115,116,97,110,116,105,97,116,105,111,110],5)]),
 (44,[([79,119,110,101,114],298),([67,111,110,115,116,114,97,105,110,116],512)])]
noncomputable def ec(c:List Nat×Int):PV:=.tup [.str c.1,.int c.2]
inductive Ev where
 |i (x:Int) | T | M | r (row:Row)
structure Ed where
 t:Int
 row:Int
 p:Int
 v:Ev
noncomputable def pG:Ev->PV
 |.i x=>.int x
 |.T=>.str [84]
 |.M=>.str [77]
 |.r row=>pr row
noncomputable def i4(e:Ed):PV:=.tup [.int e.t,.int e.row,.int e.p,pG e.v]
inductive Lv where
 |i (x:Int) | F | M
structure Ls where
 t:Int
 row:Ev
 p:Int
 v:Lv
noncomputable def tM:Ed:=⟨0,0,0,.T⟩
noncomputable def rj:Ls:=⟨0,.T,0,.M⟩
noncomputable def OK:Lv->PV
 |.i x=>.int x
 |.F=>.str [70]
 |.M=>.str [77]
noncomputable def tO(e:Ls):PV:=.tup [.int e.t,pG e.row,.int e.p,OK e.v]
noncomputable abbrev Spot:=Int×Int×Int
noncomputable def i5(s:Spot):PV:=.tup [.int s.1,.int s.2.1,.int s.2.2]
noncomputable def mf:List Ed:=[⟨2,2,3,.i 7⟩,⟨1,1,0,.i 5⟩,⟨11,1,1,.i 11⟩,⟨10,1,0,.i 10⟩,⟨10,1,0,.i 15⟩,⟨9,1,1,.i 7⟩,⟨44,1,1,.i 7⟩,⟨20,1,2,.i 11⟩]
noncomputable def gP:List Ed:=[⟨9,1,0,.T⟩,⟨9,1,0,.i 0⟩,⟨9,1,1,.i 0⟩,⟨18,1,0,.T⟩,⟨21,1,0,.i 0⟩,⟨24,1,1,.M⟩,⟨24,1,1,.i 0⟩,⟨24,1,2,.i 7⟩,⟨24,3,2,.i 4⟩,⟨24,3,2,.i 0⟩,⟨25,1,0,.T⟩,⟨25,1,1,.i 0⟩,⟨25,1,2,.i 5⟩,⟨41,1,1,.T⟩,⟨41,1,0,.i 0⟩,⟨42,1,2,.i 0⟩,⟨42,1,2,.i 1⟩,⟨43,1,0,.i 5⟩,⟨44,1,0,.i 4⟩,⟨44,1,0,.i 0⟩,⟨10,1,0,.i 25⟩,⟨10,1,0,.i 20⟩,⟨1,1,0,.i 10⟩,⟨1,1,0,.i 0⟩,⟨2,2,3,.i 13⟩,⟨2,3,3,.i 10⟩,⟨11,1,1,.i 0⟩,⟨11,1,1,.i 29⟩,⟨20,1,2,.i 13⟩,⟨44,1,1,.i 10⟩]
noncomputable def eT:List Ls:=[⟨2,.i 1,4,.i 2⟩,⟨2,.i 1,5,.i 0⟩,⟨2,.i 3,4,.i 0⟩,⟨2,.i 4,5,.i 6⟩,⟨2,.T,4,.F⟩,⟨2,.T,5,.M⟩,⟨6,.i 3,5,.i 0⟩,⟨6,.i 6,5,.i 4⟩,⟨6,.M,5,.i 8⟩,⟨18,.i 1,1,.i 2⟩,⟨21,.i 1,1,.i 2⟩,⟨21,.i 1,1,.i 0⟩,⟨6,.i 1,5,.i 2⟩]
noncomputable def i6:List Spot:=[(0,1,1),(1,2,1),(1,1,2),(2,3,1),(2,2,2),(4,3,1),(6,8,3),(8,2,2),(10,1,1),(20,1,1),(23,2,1),(32,1,7),(32,1,8),(35,1,6),(35,1,7),(42,3,3)]
noncomputable def fX:List Spot:=[(4,1,2),(6,2,4),(10,1,2),(17,1,0),(23,1,2),(27,1,0),(43,1,1)]
noncomputable def hU:List Spot:=[(11,1,2),(32,1,6),(35,1,5),(35,1,8)]
noncomputable def dg:List Spot:=[(0,1,1),(1,2,1),(2,2,1),(4,3,1),(6,6,3),(10,1,1),(20,1,1),(23,1,1),(32,1,7),(35,1,6),(42,1,3)]
noncomputable def jK:List (List Ed×List PV):=[([⟨0,1,(-1),.r [0,1,1,0,0]⟩],[msg 0 2 [115,105,110,103,108,101]]),
 ([⟨0,1,(-2),.i 0⟩],[msg 0 0 [115,105,110,103,108,101]]),
 ([⟨32,1,(-1),.r [0,0,0,0,0,0,0,2,0]⟩],[msg 32 2 [115,105,110,103,108,101]]),
 ([⟨2,1,1,.i 19⟩],[msg 2 1 [109,111,100,117,108,101]]),
 ([⟨2,1,0,.i 32⟩],[msg 2 1 [109,111,100,117,108,101]]),
 ([⟨2,1,3,.i 5⟩],[msg 2 1 [109,111,100,117,108,101]]),
 ([⟨18,1,(-1),.r [2,2]⟩],[msg 18 2 [109,97,112]]),
 ([⟨21,1,(-1),.r [2,3]⟩],[msg 21 2 [109,97,112]]),
 ([⟨18,1,(-1),.r [3,2]⟩],[]),
 ([⟨2,3,1,.i 2⟩],[msg 2 3 [116,119,105,99,101]]),
 ([⟨41,1,(-2),.i 0⟩],[msg 2 4 [116,119,105,99,101]]),
 ([⟨41,1,1,.i 3⟩],[]),
 ([⟨1,2,1,.i 17⟩],[msg 1 2 [116,119,105,99,101]]),
 ([⟨1,2,1,.i 17⟩,⟨1,2,2,.i 19⟩],[]),
 ([⟨4,3,1,.i 4⟩],[msg 4 3 [116,119,105,99,101]]),
 ([⟨4,2,2,.i 1⟩],[msg 4 2 [116,119,105,99,101]]),
 ([⟨6,2,3,.i 6⟩,⟨6,2,4,.i 5⟩],[msg 6 2 [116,119,105,99,101]]),
 ([⟨6,2,3,.i 6⟩],[]),
 ([⟨23,2,2,.i 6⟩],[msg 23 2 [116,119,105,99,101]]),
 ([⟨20,1,(-1),.r [0,14,5]⟩],[msg 20 2 [116,119,105,99,101],msg 20 2 [115,101,109,97,110,116,105,99,115]]),
 ([⟨20,1,(-1),.r [0,13,0]⟩],[msg 20 2 [115,101,109,97,110,116,105,99,115]]),
 ([⟨2,3,3,.i 5⟩],[msg 2 3 [105,102,97,99,101]]),
 ([⟨4,4,0,.i 6⟩],[msg 4 4 [105,102,97,99,101]]),
 ([⟨2,2,3,.i 0⟩],[msg 2 2 [98,97,115,101]]),
 ([⟨2,4,3,.i 0⟩],[msg 2 4 [98,97,115,101]]),
 ([⟨2,3,0,.i 129⟩],[msg 2 3 [98,97,115,101]]),
 ([⟨6,5,2,.i 6⟩],[msg 6 5 [99,99,116,111,114]]),
 ([⟨6,5,4,.i 4⟩],[msg 6 5 [99,99,116,111,114]]),
 ([⟨6,8,3,.i 10⟩],[msg 6 8 [99,99,116,111,114]]),
 ([⟨6,1,0,.i 0⟩],[msg 6 1 [98,111,100,121]]),
 ([⟨6,7,0,.i 1⟩],[msg 6 7 [98,111,100,121]]),
 ([⟨6,8,0,.i 9⟩],[msg 6 8 [98,111,100,121]]),
 ([⟨6,8,1,.i 4096⟩],[msg 6 8 [98,111,100,121]]),
 ([⟨6,8,1,.i 4097⟩],[]),
 ([⟨6,7,2,.i 70⟩],[msg 6 7 [98,111,100,121]]),
 ([⟨6,2,2,.i 1094⟩],[msg 6 2 [98,111,100,121]]),
 ([⟨6,2,1,.i 4098⟩],[msg 6 2 [98,111,100,121]]),
 ([⟨11,1,1,.i 4⟩],[msg 11 1 [99,111,110,115,116,97,110,116],msg 4 1 [99,111,110,115,116,97,110,116],msg 4 2 [99,111,110,115,116,97,110,116]]),
 ([⟨11,1,1,.i 5⟩],[msg 11 1 [99,111,110,115,116,97,110,116],msg 4 2 [99,111,110,115,116,97,110,116]]),
 ([⟨11,1,1,.i 6⟩],[msg 11 1 [99,111,110,115,116,97,110,116],msg 4 2 [99,111,110,115,116,97,110,116]]),
 ([⟨11,1,(-1),.r [8,8,8]⟩],[msg 11 2 [99,111,110,115,116,97,110,116]]),
 ([⟨11,1,(-2),.i 0⟩],[msg 4 2 [99,111,110,115,116,97,110,116]]),
 ([⟨4,2,0,.i 86⟩],[msg 4 2 [99,111,110,115,116,97,110,116]]),
 ([⟨4,2,0,.i 32790⟩],[msg 11 1 [99,111,110,115,116,97,110,116]]),
 ([⟨4,3,0,.i 32774⟩],[msg 4 3 [99,111,110,115,116,97,110,116]]),
 ([⟨4,3,0,.i 86⟩],[msg 4 3 [99,111,110,115,116,97,110,116]]),
 ([⟨4,3,0,.i 32854⟩,⟨11,1,(-1),.r [8,12,8]⟩],[]),
 ([⟨4,3,0,.i 32838⟩,⟨11,1,(-1),.r [8,12,8]⟩],[msg 4 3 [99,111,110,115,116,97,110,116]]),
 ([⟨8,2,1,.i 0⟩],[msg 8 2 [112,97,114,97,109]]),
 ([⟨8,6,1,.i 1⟩],[msg 8 6 [112,97,114,97,109]]),
 ([⟨8,1,1,.i 3⟩],[msg 8 2 [112,97,114,97,109]]),
 ([⟨8,5,1,.i 0⟩,⟨8,6,1,.i 9⟩],[]),
 ([⟨42,3,0,.i 2⟩],[msg 42 3 [110,117,109,98,101,114]]),
 ([⟨42,3,0,.i 0⟩],[msg 42 3 [110,117,109,98,101,114]]),
 ([⟨42,2,0,.i 1⟩],[msg 42 2 [110,117,109,98,101,114],msg 42 3 [110,117,109,98,101,114]]),
 ([⟨42,1,0,.i 1⟩],[msg 42 1 [110,117,109,98,101,114]]),
 ([⟨42,3,3,.i 15⟩],[msg 42 3 [116,119,105,99,101]]),
 ([⟨42,3,2,.i 6⟩],[]),
 ([⟨24,1,0,.i 8⟩],[msg 24 1 [115,101,109,97,110,116,105,99,115]]),
 ([⟨24,2,0,.i 2⟩],[msg 24 2 [115,101,109,97,110,116,105,99,115]]),
 ([⟨24,2,0,.i 3⟩],[msg 24 2 [115,101,109,97,110,116,105,99,115]]),
 ([⟨24,3,0,.i 2⟩],[msg 24 3 [115,101,109,97,110,116,105,99,115],msg 20 1 [115,101,109,97,110,116,105,99,115]]),
 ([⟨24,4,0,.i 8⟩],[msg 24 4 [115,101,109,97,110,116,105,99,115],msg 20 1 [115,101,109,97,110,116,105,99,115]]),
 ([⟨24,4,(-2),.i 0⟩],[msg 20 1 [115,101,109,97,110,116,105,99,115]]),
 ([⟨24,1,1,.i 8⟩],[msg 24 1 [115,101,109,97,110,116,105,99,115]]),
 ([⟨24,4,1,.i 7⟩],[msg 24 4 [115,101,109,97,110,116,105,99,115]]),
 ([⟨24,1,2,.i 5⟩],[]),
 ([⟨18,1,0,.i 4⟩],[msg 24 3 [115,101,109,97,110,116,105,99,115],msg 24 4 [115,101,109,97,110,116,105,99,115]]),
 ([⟨25,1,1,.i 3⟩],[msg 25 1 [105,109,112,108]]),
 ([⟨25,1,1,.i 16⟩],[msg 25 1 [105,109,112,108]]),
 ([⟨25,1,0,.i 4⟩],[msg 25 1 [105,109,112,108]]),
 ([⟨25,1,(-1),.r [2,4,3]⟩],[msg 25 2 [105,109,112,108]]),
 ([⟨25,1,(-1),.r [2,2,14]⟩],[]),
 ([⟨41,1,(-1),.r [4,3]⟩],[msg 41 2 [110,101,115,116,101,100]]),
 ([⟨41,1,(-1),.r [2,4]⟩],[msg 41 1 [110,101,115,116,101,100],msg 41 2 [110,101,115,116,101,100]]),
 ([⟨41,1,(-1),.r [3,3]⟩],[msg 41 2 [110,101,115,116,101,100]]),
 ([⟨41,1,(-1),.r [2,3]⟩,⟨41,1,(-1),.r [3,4]⟩],[msg 41 1 [110,101,115,116,101,100],msg 41 2 [110,101,115,116,101,100],msg 41 3 [110,101,115,116,101,100]]),
 ([⟨41,1,(-1),.r [3,2]⟩],[]),
 ([⟨41,1,(-1),.r [2,3]⟩,⟨41,1,(-1),.r [3,2]⟩],[msg 41 2 [110,101,115,116,101,100],msg 41 3 [110,101,115,116,101,100]]),
 ([⟨18,1,(-2),.i 0⟩],[msg 20 1 [108,105,115,116]]),
 ([⟨21,1,(-2),.i 0⟩],[msg 23 1 [108,105,115,116]]),
 ([⟨25,1,(-1),.r [4,16,3]⟩],[]),
 ([⟨1,2,1,.i 17⟩,⟨1,2,0,.i 4⟩],[]),
 ([⟨24,1,(-1),.r [2,6,5]⟩],[]),
 ([⟨2,4,1,.i 17⟩],[])]
noncomputable def jT(b:List Ed×List PV):PV:=.tup [.tup (b.1.map i4),.tup b.2]
noncomputable def texts:List (List Nat):=[[],[60,77,111,100,117,108,101,62],[65],[73],[102],[103],[103,101,116,95,80],[115,101,116,95,80],[97,100,100,95,69],[114,101,109,111,118,101,95,69],[46,99,99,116,111,114],[109],[77],[80],[69],[84],[85],[79,98,106,101,99,116],[82],[115],[67],[68],[104],[99,111,114,101]]
noncomputable def oN:List (List Nat):=[[],[6,8],[6,2],[0,0,1],[32,0,1],[32,0,8],[40,0,8],[40,0,2],[1]]
noncomputable def lA:bO:=(.cons (.list (.cons (.tup (.cons (.k (.int 0)) (.cons (.k (.int 2)) (.cons (.k (.int 1)) (.cons (.k (.int 0)) (.cons (.k (.int 0)) .nil)))))) .nil)) (.cons (.list (.cons (.tup (.cons (.k (.int 6)) (.cons (.k (.int 17)) (.cons (.k (.int 0)) .nil)))) (.cons (.tup (.cons (.k (.int 6)) (.cons (.k (.int 18)) (.cons (.k (.int 0)) .nil)))) .nil))) (.cons (.list (.cons (.tup (.cons (.k (.int 0)) (.cons (.k (.int 1)) (.cons (.k (.int 0)) (.cons (.k (.int 0)) (.cons (.k (.int 1)) (.cons (.k (.int 1)) .nil))))))) (.cons (.tup (.cons (.k (.int 1)) (.cons (.k (.int 2)) (.cons (.k (.int 0)) (.cons (.k (.int 5)) (.cons (.k (.int 1)) (.cons (.k (.int 1)) .nil))))))) (.cons (.tup (.cons (.k (.int 161)) (.cons (.k (.int 3)) (.cons (.k (.int 0)) (.cons (.k (.int 0)) (.cons (.k (.int 4)) (.cons (.k (.int 7)) .nil))))))) (.cons (.tup (.cons (.k (.int 2)) (.cons (.k (.int 2)) (.cons (.k (.int 0)) (.cons (.k (.int 5)) (.cons (.k (.int 5)) (.cons (.k (.int 8)) .nil))))))) .nil))))) (.cons (.list (.cons (.tup (.cons (.k (.int 6)) (.cons (.k (.int 4)) (.cons (.k (.int 1)) .nil)))) (.cons (.tup (.cons (.k (.int 32854)) (.cons (.k (.int 4)) (.cons (.k (.int 2)) .nil)))) (.cons (.tup (.cons (.k (.int 6)) (.cons (.k (.int 5)) (.cons (.k (.int 1)) .nil)))) (.cons (.tup (.cons (.k (.int 22)) (.cons (.k (.int 22)) (.cons (.k (.int 1)) .nil)))) (.cons (.tup (.cons (.k (.int 6)) (.cons (.k (.int 4)) (.cons (.k (.int 1)) .nil)))) .nil)))))) (.cons (.list (.cons (.tup (.cons (.k (.int 1)) (.cons (.k (.int 0)) (.cons (.k (.int 2054)) (.cons (.k (.int 6)) (.cons (.k (.int 5)) (.cons (.k (.int 1)) .nil))))))) (.cons (.tup (.cons (.k (.int 5)) (.cons (.k (.int 0)) (.cons (.k (.int 2054)) (.cons (.k (.int 7)) (.cons (.k (.int 4)) (.cons (.k (.int 1)) .nil))))))) (.cons (.tup (.cons (.k (.int 9)) (.cons (.k (.int 0)) (.cons (.k (.int 2054)) (.cons (.k (.int 8)) (.cons (.k (.int 4)) (.cons (.k (.int 3)) .nil))))))) (.cons (.tup (.cons (.k (.int 13)) (.cons (.k (.int 0)) (.cons (.k (.int 2054)) (.cons (.k (.int 9)) (.cons (.k (.int 4)) (.cons (.k (.int 4)) .nil))))))) (.cons (.tup (.cons (.k (.int 17)) (.cons (.k (.int 0)) (.cons (.k (.int 6161)) (.cons (.k (.int 10)) (.cons (.k (.int 3)) (.cons (.k (.int 5)) .nil))))))) (.cons (.tup (.cons (.k (.int 21)) (.cons (.k (.int 0)) (.cons (.k (.int 6)) (.cons (.k (.int 11)) (.cons (.k (.int 4)) (.cons (.k (.int 5)) .nil))))))) (.cons (.tup (.cons (.k (.int 0)) (.cons (.k (.int 0)) (.cons (.k (.int 1478)) (.cons (.k (.int 12)) (.cons (.k (.int 4)) (.cons (.k (.int 7)) .nil))))))) (.cons (.tup (.cons (.k (.int 0)) (.cons (.k (.int 4101)) (.cons (.k (.int 6)) (.cons (.k (.int 11)) (.cons (.k (.int 4)) (.cons (.k (.int 7)) .nil))))))) .nil))))))))) (.cons (.list (.cons (.tup (.cons (.k (.int 0)) (.cons (.k (.int 0)) (.cons (.k (.int 0)) .nil)))) (.cons (.tup (.cons (.k (.int 0)) (.cons (.k (.int 1)) (.cons (.k (.int 19)) .nil)))) (.cons (.tup (.cons (.k (.int 0)) (.cons (.k (.int 1)) (.cons (.k (.int 19)) .nil)))) (.cons (.tup (.cons (.k (.int 0)) (.cons (.k (.int 1)) (.cons (.k (.int 0)) .nil)))) (.cons (.tup (.cons (.k (.int 0)) (.cons (.k (.int 1)) (.cons (.k (.int 19)) .nil)))) (.cons (.tup (.cons (.k (.int 0)) (.cons (.k (.int 2)) (.cons (.k (.int 18)) .nil)))) .nil))))))) (.cons (.list (.cons (.tup (.cons (.k (.int 2)) (.cons (.k (.int 12)) .nil))) .nil)) (.cons (.list (.cons (.tup (.cons (.k (.int 9)) (.cons (.k (.int 10)) (.cons (.k (.int 4)) .nil)))) .nil)) (.cons (.list (.cons (.tup (.cons (.k (.int 8)) (.cons (.k (.int 8)) (.cons (.k (.int 8)) .nil)))) .nil)) (.cons (.list (.cons (.tup (.cons (.k (.int 8)) .nil)) .nil)) (.cons (.list (.cons (.tup (.cons (.k (.int 2)) (.cons (.k (.int 1)) .nil))) .nil)) (.cons (.list (.cons (.tup (.cons (.k (.int 0)) (.cons (.k (.int 14)) (.cons (.k (.int 5)) .nil)))) .nil)) (.cons (.list (.cons (.tup (.cons (.k (.int 2)) (.cons (.k (.int 1)) .nil))) .nil)) (.cons (.list (.cons (.tup (.cons (.k (.int 0)) (.cons (.k (.int 13)) (.cons (.k (.int 6)) .nil)))) (.cons (.tup (.cons (.k (.int 0)) (.cons (.k (.int 13)) (.cons (.k (.int 7)) .nil)))) .nil))) (.cons (.list (.cons (.tup (.cons (.k (.int 2)) (.cons (.k (.int 1)) (.cons (.k (.int 3)) .nil)))) (.cons (.tup (.cons (.k (.int 1)) (.cons (.k (.int 2)) (.cons (.k (.int 3)) .nil)))) (.cons (.tup (.cons (.k (.int 8)) (.cons (.k (.int 3)) (.cons (.k (.int 2)) .nil)))) (.cons (.tup (.cons (.k (.int 16)) (.cons (.k (.int 4)) (.cons (.k (.int 2)) .nil)))) .nil))))) (.cons (.list (.cons (.tup (.cons (.k (.int 2)) (.cons (.k (.int 2)) (.cons (.k (.int 3)) .nil)))) .nil)) (.cons (.list (.cons (.tup (.cons (.k (.int 8)) .nil)) .nil)) (.cons (.list (.cons (.tup (.cons (.k (.int 0)) (.cons (.k (.int 0)) (.cons (.k (.int 0)) (.cons (.k (.int 0)) (.cons (.k (.int 0)) (.cons (.k (.int 0)) (.cons (.k (.int 0)) (.cons (.bin .add (.k (.int 2)) (.bin .mul (.k (.int 21)) (.loc 0))) (.cons (.k (.int 0)) .nil)))))))))) .nil)) (.cons (.list (.cons (.tup (.cons (.k (.int 0)) (.cons (.k (.int 0)) (.cons (.k (.int 0)) (.cons (.k (.int 0)) (.cons (.k (.int 0)) (.cons (.k (.int 0)) (.cons (.k (.int 18)) (.cons (.k (.int 0)) (.cons (.k (.int 0)) .nil)))))))))) .nil)) (.cons (.list (.cons (.tup (.cons (.k (.int 4)) (.cons (.k (.int 2)) .nil))) .nil)) (.cons (.list (.cons (.tup (.cons (.k (.int 0)) (.cons (.k (.int 1)) (.cons (.k (.int 6)) (.cons (.k (.int 15)) .nil))))) (.cons (.tup (.cons (.k (.int 0)) (.cons (.k (.int 0)) (.cons (.k (.int 13)) (.cons (.k (.int 15)) .nil))))) (.cons (.tup (.cons (.k (.int 1)) (.cons (.k (.int 0)) (.cons (.k (.int 13)) (.cons (.k (.int 16)) .nil))))) .nil)))) (.cons (.list (.cons (.tup (.cons (.k (.int 12)) (.cons (.k (.int 8)) .nil))) .nil)) (.cons (.list (.cons (.tup (.cons (.k (.int 2)) (.cons (.k (.int 5)) .nil))) .nil)) .nil)))))))))))))))))))))))
noncomputable def rk:bq:=(.cons (.aA 5 (.bin .add (.aF .len (.idx (.loc 2) (.k (.int 4)))) (.k (.int 1))))
 (.cons (.aA 6 (.bin .add (.aF .len (.idx (.loc 2) (.k (.int 6)))) (.k (.int 1))))
 (.cons (.aA 7 (.idx (.tup (.cons (.k (.int 20)) (.cons (.k (.int 21)) (.cons (.k (.int 2)) .nil)))) (.loc 3)))
 (.cons (.aA 8 (.k (.int 0)))
 (.cons (.aP (.or (.cons (.cmp .eq (.loc 3) (.k (.int 2))) (.cons (.cmp .eq (.bin .mod (.bin .fdiv (.loc 4) (.k (.int 36))) (.k (.int 2))) (.k (.int 1))) .nil)))
 (.cons (.aA 8 (.k (.int 19)))
 .nil)
 .nil)
 (.cons (.aA 9 (.idx (.tup (.cons (.k (.int 5)) (.cons (.k (.int 8)) .nil))) (.bin .mod (.bin .fdiv (.loc 4) (.k (.int 18))) (.k (.int 2)))))
 (.cons (.aP (.and (.cons (.cmp .eq (.loc 3) (.k (.int 0))) (.cons (.cmp .eq (.bin .mod (.bin .fdiv (.loc 4) (.k (.int 9))) (.k (.int 2))) (.k (.int 1))) .nil)))
 (.cons (.aA 7 (.k (.int 17)))
 (.cons (.aP (.and (.cons (.cmp .eq (.loc 0) (.k (.int 1))) (.cons (.cmp .eq (.loc 8) (.k (.int 0))) .nil)))
 (.cons (.aA 9 (.k (.int 0)))
 .nil)
 .nil)
 .nil))
 .nil)
 (.cons (.expr (.aK (.idx (.loc 2) (.k (.int 2))) 2 (.cons (.tup (.cons (.k (.int 1)) (.cons (.loc 7) (.cons (.loc 8) (.cons (.loc 9) (.cons (.loc 5) (.cons (.loc 6) .nil))))))) .nil)))
 (.cons (.bP (.loc 2) (.k (.int 4)) (.bin .add (.idx (.loc 2) (.k (.int 4))) (.comp (.tup (.cons (.k (.int 6)) (.cons (.bin .add (.k (.int 4)) (.loc 0)) (.cons (.k (.int 1)) .nil)))) (.gA (.bin .mod (.loc 4) (.k (.int 3)))) .no)))
 (.cons (.bP (.loc 2) (.k (.int 6)) (.bin .add (.idx (.loc 2) (.k (.int 6))) (.comp (.tup (.cons (.bin .add (.k (.int 25)) (.loc 0)) (.cons (.k (.int 0)) (.cons (.k (.int 6)) (.cons (.k (.int 11)) (.cons (.bin .add (.k (.int 4)) (.loc 0)) (.cons (.k (.int 7)) .nil))))))) (.gA (.bin .mod (.bin .fdiv (.loc 4) (.k (.int 3))) (.k (.int 3)))) .no)))
 .nil))))))))))
end FR.Q
namespace FR
open FR.Q
noncomputable def rn:aW:=⟨1,1,
 (.cons (.aP (.or (.cons (.cmp .lt (.loc 0) (.k (.int 0))) (.cons (.cmp .ge (.loc 0) (.gl 0)) .nil)))
 (.cons (.eR (.cons (.k (.str [114,111,119])) (.cons (.loc 0) .nil)))
 .nil)
 .nil)
 .nil)⟩
noncomputable def vB:aW:=⟨3,6,
 (.cons (.expr (.ax 0 (.cons (.loc 2) .nil)))
 (.cons (.aA 3 (.idx (.gl 1) (.loc 0)))
 (.cons (.ba (.many [4,5]) (.enum (.idx (.loc 3) (.k (.int 1))))
 (.cons (.aP (.and (.cons (.cmp .eq (.loc 5) (.loc 1)) (.cons (.cmp .ge (.loc 1) (.k (.int 0))) .nil)))
 (.cons (.ret (.bin .bor (.bin .shl (.loc 2) (.idx (.loc 3) (.k (.int 0)))) (.loc 4)))
 .nil)
 .nil)
 .nil))
 (.cons (.eR (.cons (.k (.str [99,111,100,101,100])) (.cons (.loc 1) .nil)))
 .nil))))⟩
noncomputable def mY:aW:=⟨2,4,
 (.cons (.aA 2 (.idx (.gl 1) (.loc 0)))
 (.cons (.aA 3 (.bin .band (.loc 1) (.bin .sub (.bin .shl (.k (.int 1)) (.idx (.loc 2) (.k (.int 0)))) (.k (.int 1)))))
 (.cons (.aP (.or (.cons (.cmp .ge (.loc 3) (.aF .len (.idx (.loc 2) (.k (.int 1))))) (.cons (.cmp .lt (.idx (.idx (.loc 2) (.k (.int 1))) (.loc 3)) (.k (.int 0))) .nil)))
 (.cons (.eR (.cons (.k (.str [116,97,103])) (.cons (.loc 1) .nil)))
 .nil)
 .nil)
 (.cons (.ret (.tup (.cons (.idx (.idx (.loc 2) (.k (.int 1))) (.loc 3)) (.cons (.bin .shr (.loc 1) (.idx (.loc 2) (.k (.int 0)))) .nil))))
 .nil))))⟩
noncomputable def sJ:aW:=⟨2,4,
 (.cons (.ba (.many [2,3]) (.enum (.idx (.gl 2) (.loc 0)))
 (.cons (.aP (.cmp .eq (.idx (.loc 3) (.k (.int 0))) (.loc 1))
 (.cons (.ret (.loc 2))
 .nil)
 .nil)
 .nil))
 (.cons (.ret (.neg (.k (.int 1))))
 .nil))⟩
noncomputable def lB:aW:=⟨3,4,
 (.cons (.aA 3 (.list .nil))
 (.cons (.expr (.ax 12 (.cons (.loc 0) (.cons (.loc 3) .nil))))
 (.cons (.expr (.ax 15 (.cons (.loc 0) (.cons (.loc 3) .nil))))
 (.cons (.expr (.ax 17 (.cons (.loc 0) (.cons (.loc 3) .nil))))
 (.cons (.expr (.ax 8 (.cons (.loc 0) (.cons (.loc 1) (.cons (.loc 2) (.cons (.loc 3) .nil))))))
 (.cons (.aP (.loc 3)
 (.cons (.ret (.loc 3))
 .nil)
 .nil)
 (.cons (.expr (.ax 10 (.cons (.loc 0) (.cons (.loc 1) (.cons (.loc 3) .nil)))))
 (.cons (.expr (.ax 11 (.cons (.loc 0) (.cons (.loc 3) .nil))))
 (.cons (.expr (.ax 20 (.cons (.loc 0) (.cons (.loc 1) (.cons (.loc 3) .nil)))))
 (.cons (.expr (.ax 21 (.cons (.loc 0) (.cons (.loc 1) (.cons (.loc 2) (.cons (.loc 3) .nil))))))
 (.cons (.expr (.ax 24 (.cons (.loc 0) (.cons (.loc 3) .nil))))
 (.cons (.expr (.ax 26 (.cons (.loc 0) (.cons (.loc 1) (.cons (.loc 3) .nil)))))
 (.cons (.expr (.ax 27 (.cons (.loc 0) (.cons (.loc 1) (.cons (.loc 2) (.cons (.loc 3) .nil))))))
 (.cons (.expr (.ax 28 (.cons (.loc 0) (.cons (.loc 3) .nil))))
 (.cons (.expr (.ax 29 (.cons (.loc 0) (.cons (.loc 3) .nil))))
 (.cons (.expr (.ax 30 (.cons (.loc 0) (.cons (.loc 3) .nil))))
 (.cons (.expr (.ax 31 (.cons (.loc 0) (.cons (.loc 1) (.cons (.loc 3) .nil)))))
 (.cons (.expr (.ax 32 (.cons (.loc 0) (.cons (.loc 3) .nil))))
 (.cons (.expr (.ax 35 (.cons (.loc 0) (.cons (.loc 3) .nil))))
 (.cons (.expr (.ax 36 (.cons (.loc 0) (.cons (.loc 3) .nil))))
 (.cons (.ret (.loc 3))
 .nil)))))))))))))))))))))⟩
noncomputable def tP:aW:=⟨2,2,
 (.cons (.ret (.aK (.attr (.loc 0)) 0 (.cons (.loc 1) (.cons (.list .nil) .nil))))
 .nil)⟩
noncomputable def vC:aW:=⟨2,2,
 (.cons (.ret (.aK (.loc 0) 3 (.cons (.loc 1) .nil)))
 .nil)⟩
noncomputable def vD:aW:=⟨2,2,
 (.cons (.ret (.aF .tuple (.aK (.loc 0) 3 (.cons (.loc 1) .nil))))
 .nil)⟩
noncomputable def vE:aW:=⟨4,9,
 (.cons (.ba (.one 4) (.plain (.aF .sorted (.attr (.loc 0))))
 (.cons (.ba (.many [5,6]) (.enum (.idx (.gl 2) (.loc 4)))
 (.cons (.ba (.many [7,8]) (.enum (.ax 5 (.cons (.loc 0) (.cons (.loc 4) .nil))))
 (.cons (.aP (.not (.ax 9 (.cons (.loc 1) (.cons (.loc 2) (.cons (.loc 4) (.cons (.loc 6) (.cons (.idx (.loc 8) (.loc 5)) .nil)))))))
 (.cons (.expr (.aK (.loc 3) 2 (.cons (.tup (.cons (.loc 4) (.cons (.bin .add (.loc 7) (.k (.int 1))) (.cons (.k (.str [104,101,97,112])) .nil)))) .nil)))
 .nil)
 .nil)
 .nil))
 .nil))
 .nil))
 .nil)⟩
noncomputable def uC:aW:=⟨5,6,
 (.cons (.kX (.cons (.aP (.cmp .eq (.idx (.loc 3) (.k (.int 1))) (.gl 3))
 (.cons (.expr (.aK (.loc 0) 3 (.cons (.loc 4) .nil)))
 .nil)
 (.cons (.aP (.cmp .eq (.idx (.loc 3) (.k (.int 1))) (.gl 4))
 (.cons (.aA 5 (.aF .len (.aK (.loc 1) 3 (.cons (.loc 4) .nil))))
 (.cons (.ret (.or (.cons (.cmp .gt (.loc 5) (.k (.int 0))) (.cons (.cmp .fk (.loc 2) (.gl 6)) (.cons (.cmp .fk (.idx (.loc 3) (.k (.int 0))) (.gl 5)) .nil)))))
 .nil))
 .nil)
 .nil))
 .nil) (.bool false))
 (.cons (.ret (.k (.bool true)))
 .nil))⟩
noncomputable def uD:aW:=⟨3,5,
 (.cons (.ba (.one 3) (.plain (.tup (.cons (.gl 10) (.cons (.gl 9) .nil))))
 (.cons (.aP (.cmp .ne (.aK (.loc 0) 4 (.cons (.loc 3) .nil)) (.k (.int 1)))
 (.cons (.expr (.aK (.loc 2) 2 (.cons (.tup (.cons (.loc 3) (.cons (.aK (.loc 0) 4 (.cons (.loc 3) .nil)) (.cons (.k (.str [115,105,110,103,108,101])) .nil)))) .nil)))
 .nil)
 .nil)
 .nil))
 (.cons (.aA 4 (.ax 5 (.cons (.loc 0) (.cons (.gl 8) .nil))))
 (.cons (.aP (.or (.cons (.cmp .eq (.aF .len (.loc 4)) (.k (.int 0))) (.cons (.cmp .ne (.ax 6 (.cons (.loc 1) (.cons (.idx (.idx (.loc 4) (.k (.int 0))) (.k (.int 1))) .nil))) (.gl 7)) (.cons (.ax 23 (.cons (.idx (.loc 4) (.k (.int 0))) .nil)) (.cons (.bin .shr (.idx (.idx (.loc 4) (.k (.int 0))) (.k (.int 3))) (.k (.int 2))) .nil)))))
 (.cons (.expr (.aK (.loc 2) 2 (.cons (.tup (.cons (.gl 8) (.cons (.k (.int 1)) (.cons (.k (.str [109,111,100,117,108,101])) .nil)))) .nil)))
 .nil)
 .nil)
 .nil)))⟩
noncomputable def yi:aW:=⟨2,6,
 (.cons (.ba (.one 2) (.plain (.tup (.cons (.gl 12) (.cons (.gl 11) .nil))))
 (.cons (.aA 3 (.dC .int))
 (.cons (.ba (.many [4,5]) (.enum (.ax 5 (.cons (.loc 0) (.cons (.loc 2) .nil))))
 (.cons (.aP (.cmp .isin (.idx (.loc 5) (.k (.int 0))) (.loc 3))
 (.cons (.expr (.aK (.loc 1) 2 (.cons (.tup (.cons (.loc 2) (.cons (.bin .add (.loc 4) (.k (.int 1))) (.cons (.k (.str [109,97,112])) .nil)))) .nil)))
 .nil)
 .nil)
 (.cons (.bP (.loc 3) (.idx (.loc 5) (.k (.int 0))) (.k (.int 1)))
 .nil)))
 .nil)))
 .nil)⟩
noncomputable def yj:aW:=⟨2,7,
 (.cons (.ba (.one 2) (.plain (.aF .sorted (.attr (.loc 0))))
 (.cons (.ba (.many [3,4]) (.enum (.idx (.gl 2) (.loc 2)))
 (.cons (.aP (.cmp .ge (.idx (.loc 4) (.k (.int 1))) (.gl 13))
 (.cons (.ba (.many [5,6]) (.enum (.ax 5 (.cons (.loc 0) (.cons (.loc 2) .nil))))
 (.cons (.aP (.cmp .is (.ax 13 (.cons (.idx (.loc 4) (.k (.int 1))) (.cons (.idx (.loc 6) (.loc 3)) .nil))) (.k .none))
 (.cons (.expr (.aK (.loc 1) 2 (.cons (.tup (.cons (.loc 2) (.cons (.bin .add (.loc 5) (.k (.int 1))) (.cons (.k (.str [116,97,103])) .nil)))) .nil)))
 .nil)
 .nil)
 .nil))
 .nil)
 .nil)
 .nil))
 .nil))
 .nil)⟩
noncomputable def vF:aW:=⟨2,2,
 (.cons (.kX (.cons (.ret (.ax 2 (.cons (.bin .sub (.loc 0) (.gl 13)) (.cons (.loc 1) .nil))))
 .nil) .none)
 .nil)⟩
noncomputable def pZ:aW:=⟨2,3,
 (.cons (.ba (.one 2) (.plain (.gl 14))
 (.cons (.aP (.and (.cons (.cmp .eq (.idx (.loc 2) (.k (.int 0))) (.loc 0)) (.cons (.cmp .eq (.idx (.loc 2) (.k (.int 1))) (.loc 1)) .nil)))
 (.cons (.ret (.k (.bool true)))
 .nil)
 .nil)
 .nil))
 (.cons (.ret (.k (.bool false)))
 .nil))⟩
noncomputable def sL:aW:=⟨2,8,
 (.cons (.ba (.one 2) (.plain (.aF .sorted (.attr (.loc 0))))
 (.cons (.ba (.many [3,4]) (.enum (.idx (.gl 2) (.loc 2)))
 (.cons (.aP (.or (.cons (.cmp .lt (.idx (.loc 4) (.k (.int 1))) (.gl 16)) (.cons (.ax 14 (.cons (.loc 2) (.cons (.loc 3) .nil))) .nil)))
 (.cons .cont
 .nil)
 .nil)
 (.cons (.aA 5 (.cmp .isin (.tup (.cons (.loc 2) (.cons (.idx (.loc 4) (.k (.int 0))) .nil))) (.gl 15)))
 (.cons (.ba (.many [6,7]) (.enum (.ax 5 (.cons (.loc 0) (.cons (.loc 2) .nil))))
 (.cons (.aP (.not (.ax 16 (.cons (.loc 0) (.cons (.idx (.loc 4) (.k (.int 1))) (.cons (.idx (.loc 7) (.loc 3)) (.cons (.loc 5) .nil))))))
 (.cons (.expr (.aK (.loc 1) 2 (.cons (.tup (.cons (.loc 2) (.cons (.bin .add (.loc 6) (.k (.int 1))) (.cons (.k (.str [112,97,114,101,110,116])) .nil)))) .nil)))
 .nil)
 .nil)
 .nil))
 .nil))))
 .nil))
 .nil)⟩
noncomputable def yk:aW:=⟨4,5,
 (.cons (.aP (.cmp .lt (.loc 1) (.gl 13))
 (.cons (.ret (.and (.cons (.cmp .ge (.loc 2) (.k (.int 1))) (.cons (.cmp .le (.loc 2) (.aK (.loc 0) 4 (.cons (.bin .sub (.loc 1) (.gl 16)) .nil))) .nil))))
 .nil)
 .nil)
 (.cons (.aA 4 (.ax 13 (.cons (.loc 1) (.cons (.loc 2) .nil))))
 (.cons (.aP (.cmp .is (.loc 4) (.k .none))
 (.cons (.ret (.k (.bool true)))
 .nil)
 .nil)
 (.cons (.aP (.cmp .eq (.idx (.loc 4) (.k (.int 1))) (.k (.int 0)))
 (.cons (.ret (.loc 3))
 .nil)
 .nil)
 (.cons (.ret (.and (.cons (.cmp .ge (.idx (.loc 4) (.k (.int 1))) (.k (.int 1))) (.cons (.cmp .le (.idx (.loc 4) (.k (.int 1))) (.aK (.loc 0) 4 (.cons (.idx (.loc 4) (.k (.int 0))) .nil))) .nil))))
 .nil)))))⟩
noncomputable def vG:aW:=⟨2,10,
 (.cons (.ba (.many [2,3,4]) (.plain (.gl 14))
 (.cons (.aA 5 (.ax 5 (.cons (.loc 0) (.cons (.loc 2) .nil))))
 (.cons (.aP (.and (.cons (.cmp .eq (.aF .len (.loc 5)) (.k (.int 0))) (.cons (.cmp .gt (.aK (.loc 0) 4 (.cons (.loc 4) .nil)) (.k (.int 0))) .nil)))
 (.cons (.expr (.aK (.loc 1) 2 (.cons (.tup (.cons (.loc 4) (.cons (.k (.int 1)) (.cons (.k (.str [108,105,115,116])) .nil)))) .nil)))
 .nil)
 .nil)
 (.cons (.aA 6 (.k (.int 1)))
 (.cons (.ba (.many [7,8]) (.enum (.loc 5))
 (.cons (.aA 9 (.idx (.loc 8) (.loc 3)))
 (.cons (.aP (.or (.cons (.cmp .lt (.loc 9) (.loc 6)) (.cons (.cmp .gt (.loc 9) (.bin .add (.aK (.loc 0) 4 (.cons (.loc 4) .nil)) (.k (.int 1)))) (.cons (.and (.cons (.cmp .eq (.loc 7) (.k (.int 0))) (.cons (.cmp .ne (.loc 9) (.k (.int 1))) .nil))) .nil))))
 (.cons (.expr (.aK (.loc 1) 2 (.cons (.tup (.cons (.loc 2) (.cons (.bin .add (.loc 7) (.k (.int 1))) (.cons (.k (.str [108,105,115,116])) .nil)))) .nil)))
 .nil)
 (.cons (.aA 6 (.loc 9))
 .nil))
 .nil)))
 .nil)))))
 .nil)⟩
noncomputable def vH:aW:=⟨5,6,
 (.cons (.aA 5 (.idx (.aK (.loc 0) 3 (.cons (.loc 1) (.cons (.loc 4) .nil))) (.loc 2)))
 (.cons (.aP (.cmp .lt (.loc 4) (.aK (.loc 0) 4 (.cons (.loc 1) .nil)))
 (.cons (.ret (.tup (.cons (.loc 5) (.cons (.idx (.aK (.loc 0) 3 (.cons (.loc 1) (.cons (.bin .add (.loc 4) (.k (.int 1))) .nil))) (.loc 2)) .nil))))
 .nil)
 .nil)
 (.cons (.ret (.tup (.cons (.loc 5) (.cons (.bin .add (.aK (.loc 0) 4 (.cons (.loc 3) .nil)) (.k (.int 1))) .nil))))
 .nil)))⟩
noncomputable def yl:aW:=⟨5,8,
 (.cons (.ba (.one 5) (.df (.k (.int 1)) (.bin .add (.aK (.loc 0) 4 (.cons (.loc 1) .nil)) (.k (.int 1))))
 (.cons (.dD [6,7] (.ax 18 (.cons (.loc 0) (.cons (.loc 1) (.cons (.loc 2) (.cons (.loc 3) (.cons (.loc 5) .nil)))))))
 (.cons (.aP (.and (.cons (.cmp .ge (.loc 4) (.loc 6)) (.cons (.cmp .lt (.loc 4) (.loc 7)) .nil)))
 (.cons (.ret (.loc 5))
 .nil)
 .nil)
 .nil)))
 (.cons (.ret (.k (.int 0)))
 .nil))⟩
noncomputable def vI:aW:=⟨3,8,
 (.cons (.ba (.many [3,4]) (.plain (.gl 17))
 (.cons (.aA 5 (.ax 3 (.cons (.loc 3) (.cons (.loc 4) .nil))))
 (.cons (.ba (.many [6,7]) (.enum (.ax 5 (.cons (.loc 0) (.cons (.loc 3) .nil))))
 (.cons (.aP (.cmp .eq (.ax 6 (.cons (.loc 1) (.cons (.idx (.loc 7) (.loc 5)) .nil))) (.k (.str [])))
 (.cons (.expr (.aK (.loc 2) 2 (.cons (.tup (.cons (.loc 3) (.cons (.bin .add (.loc 6) (.k (.int 1))) (.cons (.k (.str [110,97,109,101])) .nil)))) .nil)))
 .nil)
 .nil)
 .nil))
 .nil)))
 .nil)⟩
noncomputable def vJ:aW:=⟨4,9,
 (.cons (.aA 4 (.dC .int))
 (.cons (.ba (.one 5) (.plain (.ax 5 (.cons (.loc 0) (.cons (.gl 23) .nil))))
 (.cons (.bP (.loc 4) (.idx (.loc 5) (.k (.int 0))) (.idx (.loc 5) (.k (.int 1))))
 .nil))
 (.cons (.aA 6 (.dC (.tup [.i,.s,.s])))
 (.cons (.ba (.many [7,5]) (.enum (.ax 5 (.cons (.loc 0) (.cons (.gl 8) .nil))))
 (.cons (.aA 8 (.tup (.cons (.aK (.loc 4) 0 (.cons (.bin .add (.loc 7) (.k (.int 1))) (.cons (.k (.int 0)) .nil))) (.cons (.ax 6 (.cons (.loc 1) (.cons (.idx (.loc 5) (.k (.int 2))) .nil))) (.cons (.ax 6 (.cons (.loc 1) (.cons (.idx (.loc 5) (.k (.int 1))) .nil))) .nil)))))
 (.cons (.aP (.cmp .isin (.loc 8) (.loc 6))
 (.cons (.expr (.aK (.loc 3) 2 (.cons (.tup (.cons (.gl 8) (.cons (.bin .add (.loc 7) (.k (.int 1))) (.cons (.k (.str [116,119,105,99,101])) .nil)))) .nil)))
 .nil)
 .nil)
 (.cons (.bP (.loc 6) (.loc 8) (.k (.int 1)))
 .nil))))
 (.cons (.aA 6 (.dC (.tup [.i,.s,.s])))
 (.cons (.ba (.many [7,5]) (.enum (.ax 5 (.cons (.loc 0) (.cons (.gl 22) .nil))))
 (.cons (.aA 8 (.tup (.cons (.idx (.loc 5) (.k (.int 0))) (.cons (.ax 6 (.cons (.loc 1) (.cons (.idx (.loc 5) (.k (.int 2))) .nil))) (.cons (.ax 6 (.cons (.loc 1) (.cons (.idx (.loc 5) (.k (.int 1))) .nil))) .nil)))))
 (.cons (.aP (.cmp .isin (.loc 8) (.loc 6))
 (.cons (.expr (.aK (.loc 3) 2 (.cons (.tup (.cons (.gl 22) (.cons (.bin .add (.loc 7) (.k (.int 1))) (.cons (.k (.str [116,119,105,99,101])) .nil)))) .nil)))
 .nil)
 .nil)
 (.cons (.bP (.loc 6) (.loc 8) (.k (.int 1)))
 .nil))))
 (.cons (.expr (.ax 22 (.cons (.loc 0) (.cons (.loc 1) (.cons (.loc 2) (.cons (.loc 3) (.cons (.tup (.cons (.gl 8) (.cons (.k (.int 4)) (.cons (.gl 21) .nil)))) (.cons (.k (.int 1)) (.cons (.k (.int 2)) .nil)))))))))
 (.cons (.expr (.ax 22 (.cons (.loc 0) (.cons (.loc 1) (.cons (.loc 2) (.cons (.loc 3) (.cons (.tup (.cons (.gl 8) (.cons (.k (.int 5)) (.cons (.gl 20) .nil)))) (.cons (.k (.int 3)) (.cons (.k (.int 4)) .nil)))))))))
 (.cons (.expr (.ax 22 (.cons (.loc 0) (.cons (.loc 1) (.cons (.loc 2) (.cons (.loc 3) (.cons (.tup (.cons (.gl 11) (.cons (.k (.int 1)) (.cons (.gl 19) .nil)))) (.cons (.k (.int 1)) (.cons (.k (.int 2)) .nil)))))))))
 (.cons (.expr (.ax 22 (.cons (.loc 0) (.cons (.loc 1) (.cons (.loc 2) (.cons (.loc 3) (.cons (.tup (.cons (.gl 12) (.cons (.k (.int 1)) (.cons (.gl 18) .nil)))) (.cons (.k (.int 1)) (.cons (.neg (.k (.int 1))) .nil)))))))))
 .nil))))))))))⟩
noncomputable def rp:aW:=⟨7,18,
 (.cons (.dD [7,8,9] (.loc 4))
 (.cons (.ba (.one 10) (.df (.k (.int 1)) (.bin .add (.aK (.loc 0) 4 (.cons (.loc 7) .nil)) (.k (.int 1))))
 (.cons (.dD [11,12] (.ax 18 (.cons (.loc 0) (.cons (.loc 7) (.cons (.loc 8) (.cons (.loc 9) (.cons (.loc 10) .nil)))))))
 (.cons (.aA 13 (.dC (.tup [.s,.n])))
 (.cons (.ba (.one 14) (.df (.loc 11) (.loc 12))
 (.cons (.aA 15 (.aK (.loc 0) 3 (.cons (.loc 9) (.cons (.loc 14) .nil))))
 (.cons (.aA 16 (.ite (.cmp .ge (.loc 6) (.k (.int 0))) (.ax 7 (.cons (.loc 2) (.cons (.idx (.loc 15) (.loc 6)) .nil))) (.tup .nil)))
 (.cons (.aA 17 (.tup (.cons (.ax 6 (.cons (.loc 1) (.cons (.idx (.loc 15) (.loc 5)) .nil))) (.cons (.loc 16) .nil))))
 (.cons (.aP (.cmp .isin (.loc 17) (.loc 13))
 (.cons (.expr (.aK (.loc 3) 2 (.cons (.tup (.cons (.loc 9) (.cons (.loc 14) (.cons (.k (.str [116,119,105,99,101])) .nil)))) .nil)))
 .nil)
 .nil)
 (.cons (.bP (.loc 13) (.loc 17) (.k (.int 1)))
 .nil))))))
 .nil))))
 .nil))⟩
noncomputable def sM:aW:=⟨1,1,
 (.cons (.ret (.cmp .ne (.bin .band (.idx (.loc 0) (.k (.int 0))) (.gl 24)) (.k (.int 0))))
 .nil)⟩
noncomputable def vK:aW:=⟨2,7,
 (.cons (.ba (.many [2,3]) (.enum (.ax 5 (.cons (.loc 0) (.cons (.gl 8) .nil))))
 (.cons (.aP (.not (.ax 23 (.cons (.loc 3) .nil)))
 (.cons .cont
 .nil)
 .nil)
 (.cons (.aP (.bin .shr (.idx (.loc 3) (.k (.int 3))) (.k (.int 2)))
 (.cons (.expr (.aK (.loc 1) 2 (.cons (.tup (.cons (.gl 8) (.cons (.bin .add (.loc 2) (.k (.int 1))) (.cons (.k (.str [105,102,97,99,101])) .nil)))) .nil)))
 .nil)
 .nil)
 (.cons (.dD [4,5] (.ax 18 (.cons (.loc 0) (.cons (.gl 8) (.cons (.k (.int 4)) (.cons (.gl 21) (.cons (.bin .add (.loc 2) (.k (.int 1))) .nil)))))))
 (.cons (.ba (.one 6) (.df (.loc 4) (.loc 5))
 (.cons (.aP (.not (.bin .band (.idx (.aK (.loc 0) 3 (.cons (.gl 21) (.cons (.loc 6) .nil))) (.k (.int 0))) (.gl 25)))
 (.cons (.expr (.aK (.loc 1) 2 (.cons (.tup (.cons (.gl 21) (.cons (.loc 6) (.cons (.k (.str [105,102,97,99,101])) .nil)))) .nil)))
 .nil)
 .nil)
 .nil))
 .nil)))))
 .nil)⟩
noncomputable def Ak:aW:=⟨2,5,
 (.cons (.aP (.or (.cons (.cmp .eq (.aK (.loc 0) 4 (.cons (.gl 9) .nil)) (.k (.int 0))) (.cons (.cmp .ne (.ax 6 (.cons (.loc 1) (.cons (.idx (.aK (.loc 0) 3 (.cons (.gl 9) (.cons (.k (.int 1)) .nil))) (.k (.int 7))) .nil))) (.gl 27)) .nil)))
 (.cons (.ret (.k (.int 0)))
 .nil)
 .nil)
 (.cons (.aA 2 (.comp (.idx (.loc 0) (.k (.int 0))) (.plain (.ax 5 (.cons (.loc 0) (.cons (.gl 23) .nil)))) .no))
 (.cons (.ba (.many [3,4]) (.enum (.ax 5 (.cons (.loc 0) (.cons (.gl 8) .nil))))
 (.cons (.aP (.and (.cons (.cmp .eq (.tup (.cons (.ax 6 (.cons (.loc 1) (.cons (.idx (.loc 4) (.k (.int 2))) .nil))) (.cons (.ax 6 (.cons (.loc 1) (.cons (.idx (.loc 4) (.k (.int 1))) .nil))) .nil))) (.tup (.cons (.k (.str [])) (.cons (.gl 26) .nil)))) (.cons (.cmp .fk (.bin .add (.loc 3) (.k (.int 1))) (.loc 2)) .nil)))
 (.cons (.ret (.bin .add (.loc 3) (.k (.int 1))))
 .nil)
 .nil)
 .nil))
 (.cons (.ret (.k (.int 0)))
 .nil))))⟩
noncomputable def ym:aW:=⟨3,6,
 (.cons (.aA 3 (.ax 25 (.cons (.loc 0) (.cons (.loc 1) .nil))))
 (.cons (.ba (.one 4) (.df (.k (.int 2)) (.bin .add (.aK (.loc 0) 4 (.cons (.gl 8) .nil)) (.k (.int 1))))
 (.cons (.aA 5 (.aK (.loc 0) 3 (.cons (.gl 8) (.cons (.loc 4) .nil))))
 (.cons (.aP (.and (.cons (.not (.ax 23 (.cons (.loc 5) .nil))) (.cons (.cmp .ne (.cmp .eq (.bin .shr (.idx (.loc 5) (.k (.int 3))) (.k (.int 2))) (.k (.int 0))) (.cmp .eq (.loc 4) (.loc 3))) .nil)))
 (.cons (.expr (.aK (.loc 2) 2 (.cons (.tup (.cons (.gl 8) (.cons (.loc 4) (.cons (.k (.str [98,97,115,101])) .nil)))) .nil)))
 .nil)
 .nil)
 .nil)))
 .nil))⟩
noncomputable def vL:aW:=⟨4,6,
 (.cons (.ba (.many [4,5]) (.enum (.ax 5 (.cons (.loc 0) (.cons (.gl 20) .nil))))
 (.cons (.aP (.cmp .eq (.ax 6 (.cons (.loc 1) (.cons (.idx (.loc 5) (.k (.int 3))) .nil))) (.k (.str [46,99,99,116,111,114])))
 (.cons (.aP (.or (.cons (.not (.bin .band (.idx (.loc 5) (.k (.int 2))) (.gl 29))) (.cons (.cmp .ne (.ax 7 (.cons (.loc 2) (.cons (.idx (.loc 5) (.k (.int 4))) .nil))) (.gl 28)) .nil)))
 (.cons (.expr (.aK (.loc 3) 2 (.cons (.tup (.cons (.gl 20) (.cons (.bin .add (.loc 4) (.k (.int 1))) (.cons (.k (.str [99,99,116,111,114])) .nil)))) .nil)))
 .nil)
 .nil)
 .nil)
 .nil)
 .nil))
 .nil)⟩
noncomputable def uE:aW:=⟨2,5,
 (.cons (.ba (.many [2,3]) (.enum (.ax 5 (.cons (.loc 0) (.cons (.gl 20) .nil))))
 (.cons (.aA 4 (.or (.cons (.cmp .ne (.bin .band (.idx (.loc 3) (.k (.int 2))) (.gl 31)) (.k (.int 0))) (.cons (.cmp .gt (.idx (.loc 3) (.k (.int 1))) (.gl 30)) .nil))))
 (.cons (.aP (.cmp .ne (.cmp .eq (.idx (.loc 3) (.k (.int 0))) (.k (.int 0))) (.loc 4))
 (.cons (.expr (.aK (.loc 1) 2 (.cons (.tup (.cons (.gl 20) (.cons (.bin .add (.loc 2) (.k (.int 1))) (.cons (.k (.str [98,111,100,121])) .nil)))) .nil)))
 .nil)
 .nil)
 .nil)))
 .nil)⟩
noncomputable def p5:aW:=⟨2,9,
 (.cons (.aA 2 (.dC (.tup [.i,.i])))
 (.cons (.ba (.many [3,4]) (.enum (.ax 5 (.cons (.loc 0) (.cons (.gl 34) .nil))))
 (.cons (.dD [5,6] (.ax 2 (.cons (.gl 35) (.cons (.idx (.loc 4) (.k (.int 1))) .nil))))
 (.cons (.aP (.or (.cons (.cmp .isin (.tup (.cons (.loc 5) (.cons (.loc 6) .nil))) (.loc 2)) (.cons (.cmp .ne (.loc 5) (.gl 21)) (.cons (.not (.bin .band (.idx (.aK (.loc 0) 3 (.cons (.gl 21) (.cons (.loc 6) .nil))) (.k (.int 0))) (.gl 33))) .nil))))
 (.cons (.expr (.aK (.loc 1) 2 (.cons (.tup (.cons (.gl 34) (.cons (.bin .add (.loc 3) (.k (.int 1))) (.cons (.k (.str [99,111,110,115,116,97,110,116])) .nil)))) .nil)))
 .nil)
 .nil)
 (.cons (.bP (.loc 2) (.tup (.cons (.loc 5) (.cons (.loc 6) .nil))) (.k (.int 1)))
 .nil))))
 (.cons (.ba (.many [3,4]) (.enum (.ax 5 (.cons (.loc 0) (.cons (.gl 21) .nil))))
 (.cons (.aA 7 (.cmp .isin (.tup (.cons (.gl 21) (.cons (.bin .add (.loc 3) (.k (.int 1))) .nil))) (.loc 2)))
 (.cons (.aA 8 (.and (.cons (.bin .band (.idx (.loc 4) (.k (.int 0))) (.gl 33)) (.cons (.not (.and (.cons (.loc 7) (.cons (.bin .band (.idx (.loc 4) (.k (.int 0))) (.gl 25)) .nil)))) .nil))))
 (.cons (.aP (.or (.cons (.cmp .ne (.cmp .ne (.bin .band (.idx (.loc 4) (.k (.int 0))) (.gl 32)) (.k (.int 0))) (.loc 7)) (.cons (.loc 8) .nil)))
 (.cons (.expr (.aK (.loc 1) 2 (.cons (.tup (.cons (.gl 21) (.cons (.bin .add (.loc 3) (.k (.int 1))) (.cons (.k (.str [99,111,110,115,116,97,110,116])) .nil)))) .nil)))
 .nil)
 .nil)
 .nil))))
 .nil)))⟩
noncomputable def uF:aW:=⟨2,8,
 (.cons (.ba (.one 2) (.df (.k (.int 1)) (.bin .add (.aK (.loc 0) 4 (.cons (.gl 20) .nil)) (.k (.int 1))))
 (.cons (.dD [3,4] (.ax 18 (.cons (.loc 0) (.cons (.gl 20) (.cons (.k (.int 5)) (.cons (.gl 36) (.cons (.loc 2) .nil)))))))
 (.cons (.aA 5 (.neg (.k (.int 1))))
 (.cons (.ba (.one 6) (.df (.loc 3) (.loc 4))
 (.cons (.aA 7 (.idx (.aK (.loc 0) 3 (.cons (.gl 36) (.cons (.loc 6) .nil))) (.k (.int 1))))
 (.cons (.aP (.cmp .le (.loc 7) (.loc 5))
 (.cons (.expr (.aK (.loc 1) 2 (.cons (.tup (.cons (.gl 36) (.cons (.loc 6) (.cons (.k (.str [112,97,114,97,109])) .nil)))) .nil)))
 .nil)
 .nil)
 (.cons (.aA 5 (.loc 7))
 .nil))))
 .nil))))
 .nil)⟩
noncomputable def rq:aW:=⟨3,9,
 (.cons (.aA 3 (.dC .int))
 (.cons (.aA 4 (.dC (.tup [.i,.s])))
 (.cons (.ba (.many [5,6]) (.enum (.ax 5 (.cons (.loc 0) (.cons (.gl 37) .nil))))
 (.cons (.aA 7 (.aK (.loc 3) 0 (.cons (.idx (.loc 6) (.k (.int 2))) (.cons (.k (.int 0)) .nil))))
 (.cons (.aP (.cmp .ne (.idx (.loc 6) (.k (.int 0))) (.loc 7))
 (.cons (.expr (.aK (.loc 2) 2 (.cons (.tup (.cons (.gl 37) (.cons (.bin .add (.loc 5) (.k (.int 1))) (.cons (.k (.str [110,117,109,98,101,114])) .nil)))) .nil)))
 .nil)
 .nil)
 (.cons (.bP (.loc 3) (.idx (.loc 6) (.k (.int 2))) (.bin .add (.idx (.loc 6) (.k (.int 0))) (.k (.int 1))))
 (.cons (.aA 8 (.tup (.cons (.idx (.loc 6) (.k (.int 2))) (.cons (.ax 6 (.cons (.loc 1) (.cons (.idx (.loc 6) (.k (.int 3))) .nil))) .nil))))
 (.cons (.aP (.cmp .isin (.loc 8) (.loc 4))
 (.cons (.expr (.aK (.loc 2) 2 (.cons (.tup (.cons (.gl 37) (.cons (.bin .add (.loc 5) (.k (.int 1))) (.cons (.k (.str [116,119,105,99,101])) .nil)))) .nil)))
 .nil)
 .nil)
 (.cons (.bP (.loc 4) (.loc 8) (.k (.int 1)))
 .nil)))))))
 .nil)))⟩
noncomputable def p6:aW:=⟨2,8,
 (.cons (.aA 2 (.dC (.tup [.i,.i])))
 (.cons (.ba (.many [3,4]) (.enum (.ax 5 (.cons (.loc 0) (.cons (.gl 41) .nil))))
 (.cons (.dD [5,6] (.ax 2 (.cons (.gl 40) (.cons (.idx (.loc 4) (.k (.int 2))) .nil))))
 (.cons (.aP (.or (.cons (.not (.ax 33 (.cons (.idx (.loc 4) (.k (.int 0))) (.cons (.loc 5) .nil)))) (.cons (.cmp .isin (.tup (.cons (.idx (.loc 4) (.k (.int 0))) (.cons (.idx (.loc 4) (.k (.int 2))) .nil))) (.loc 2)) .nil)))
 (.cons (.expr (.aK (.loc 1) 2 (.cons (.tup (.cons (.gl 41) (.cons (.bin .add (.loc 3) (.k (.int 1))) (.cons (.k (.str [115,101,109,97,110,116,105,99,115])) .nil)))) .nil)))
 .nil)
 (.cons (.aP (.cmp .ne (.ax 19 (.cons (.loc 0) (.cons (.gl 8) (.cons (.k (.int 5)) (.cons (.gl 20) (.cons (.idx (.loc 4) (.k (.int 1))) .nil)))))) (.ax 34 (.cons (.loc 0) (.cons (.loc 5) (.cons (.loc 6) .nil)))))
 (.cons (.expr (.aK (.loc 1) 2 (.cons (.tup (.cons (.gl 41) (.cons (.bin .add (.loc 3) (.k (.int 1))) (.cons (.k (.str [115,101,109,97,110,116,105,99,115])) .nil)))) .nil)))
 .nil)
 .nil)
 .nil))
 (.cons (.bP (.loc 2) (.tup (.cons (.idx (.loc 4) (.k (.int 0))) (.cons (.idx (.loc 4) (.k (.int 2))) .nil))) (.k (.int 1)))
 .nil))))
 (.cons (.ba (.one 6) (.df (.k (.int 1)) (.bin .add (.aK (.loc 0) 4 (.cons (.gl 18) .nil)) (.k (.int 1))))
 (.cons (.aA 7 (.ax 1 (.cons (.gl 40) (.cons (.gl 18) (.cons (.loc 6) .nil)))))
 (.cons (.aP (.or (.cons (.cmp .fk (.tup (.cons (.gl 39) (.cons (.loc 7) .nil))) (.loc 2)) (.cons (.cmp .fk (.tup (.cons (.gl 38) (.cons (.loc 7) .nil))) (.loc 2)) .nil)))
 (.cons (.expr (.aK (.loc 1) 2 (.cons (.tup (.cons (.gl 18) (.cons (.loc 6) (.cons (.k (.str [115,101,109,97,110,116,105,99,115])) .nil)))) .nil)))
 .nil)
 .nil)
 .nil)))
 .nil)))⟩
noncomputable def rr:aW:=⟨2,2,
 (.cons (.aP (.cmp .eq (.loc 1) (.gl 18))
 (.cons (.ret (.or (.cons (.cmp .eq (.loc 0) (.gl 39)) (.cons (.cmp .eq (.loc 0) (.gl 38)) .nil))))
 .nil)
 .nil)
 (.cons (.ret (.or (.cons (.cmp .eq (.loc 0) (.gl 43)) (.cons (.cmp .eq (.loc 0) (.gl 42)) .nil))))
 .nil))⟩
noncomputable def nu:aW:=⟨3,5,
 (.cons (.aA 3 (.ite (.cmp .eq (.loc 1) (.gl 18)) (.gl 12) (.gl 11)))
 (.cons (.aA 4 (.ax 19 (.cons (.loc 0) (.cons (.loc 3) (.cons (.k (.int 1)) (.cons (.loc 1) (.cons (.loc 2) .nil)))))))
 (.cons (.aP (.cmp .eq (.loc 4) (.k (.int 0)))
 (.cons (.ret (.neg (.k (.int 1))))
 .nil)
 .nil)
 (.cons (.ret (.idx (.aK (.loc 0) 3 (.cons (.loc 3) (.cons (.loc 4) .nil))) (.k (.int 0))))
 .nil))))⟩
noncomputable def vM:aW:=⟨2,7,
 (.cons (.aA 2 (.dC (.tup [.i,.i])))
 (.cons (.ba (.many [3,4]) (.enum (.ax 5 (.cons (.loc 0) (.cons (.gl 44) .nil))))
 (.cons (.dD [5,6] (.ax 2 (.cons (.gl 45) (.cons (.idx (.loc 4) (.k (.int 1))) .nil))))
 (.cons (.aP (.or (.cons (.cmp .ne (.loc 5) (.gl 20)) (.cons (.cmp .ne (.ax 19 (.cons (.loc 0) (.cons (.gl 8) (.cons (.k (.int 5)) (.cons (.gl 20) (.cons (.loc 6) .nil)))))) (.idx (.loc 4) (.k (.int 0)))) .nil)))
 (.cons (.expr (.aK (.loc 1) 2 (.cons (.tup (.cons (.gl 44) (.cons (.bin .add (.loc 3) (.k (.int 1))) (.cons (.k (.str [105,109,112,108])) .nil)))) .nil)))
 .nil)
 (.cons (.aP (.cmp .isin (.tup (.cons (.idx (.loc 4) (.k (.int 0))) (.cons (.idx (.loc 4) (.k (.int 2))) .nil))) (.loc 2))
 (.cons (.expr (.aK (.loc 1) 2 (.cons (.tup (.cons (.gl 44) (.cons (.bin .add (.loc 3) (.k (.int 1))) (.cons (.k (.str [105,109,112,108])) .nil)))) .nil)))
 .nil)
 .nil)
 .nil))
 (.cons (.bP (.loc 2) (.tup (.cons (.idx (.loc 4) (.k (.int 0))) (.cons (.idx (.loc 4) (.k (.int 2))) .nil))) (.k (.int 1)))
 .nil))))
 .nil))⟩
noncomputable def uG:aW:=⟨2,7,
 (.cons (.aA 2 (.dC .int))
 (.cons (.ba (.many [3,4]) (.enum (.ax 5 (.cons (.loc 0) (.cons (.gl 23) .nil))))
 (.cons (.aP (.cmp .isin (.idx (.loc 4) (.k (.int 0))) (.loc 2))
 (.cons (.expr (.aK (.loc 1) 2 (.cons (.tup (.cons (.gl 23) (.cons (.bin .add (.loc 3) (.k (.int 1))) (.cons (.k (.str [110,101,115,116,101,100])) .nil)))) .nil)))
 .nil)
 (.cons (.bP (.loc 2) (.idx (.loc 4) (.k (.int 0))) (.idx (.loc 4) (.k (.int 1))))
 .nil))
 .nil))
 (.cons (.ba (.many [3,4]) (.enum (.ax 5 (.cons (.loc 0) (.cons (.gl 23) .nil))))
 (.cons (.aA 5 (.idx (.loc 4) (.k (.int 1))))
 (.cons (.aA 6 (.k (.int 0)))
 (.cons (.ll (.and (.cons (.cmp .isin (.loc 5) (.loc 2)) (.cons (.cmp .ne (.loc 5) (.idx (.loc 4) (.k (.int 0)))) (.cons (.cmp .le (.loc 6) (.aF .len (.loc 2))) .nil))))
 (.cons (.aA 5 (.idx (.loc 2) (.loc 5)))
 (.cons (.aug 6 .add (.k (.int 1)))
 .nil)))
 (.cons (.aP (.cmp .eq (.loc 5) (.idx (.loc 4) (.k (.int 0))))
 (.cons (.expr (.aK (.loc 1) 2 (.cons (.tup (.cons (.gl 23) (.cons (.bin .add (.loc 3) (.k (.int 1))) (.cons (.k (.str [110,101,115,116,101,100])) .nil)))) .nil)))
 .nil)
 .nil)
 .nil)))))
 .nil)))⟩
noncomputable def pH:aW:=⟨2,10,
 (.cons (.aA 2 (.kz [0,1,2,4,6,8,9,10,11,17,18,20,21,23,24,25,27,32,35,41,42,43,44] lA))
 (.cons (.ba (.many [3,4]) (.enum (.loc 1))
 rk)
 (.cons (.aP (.loc 1)
 (.cons (.expr (.aK (.idx (.loc 2) (.k (.int 9))) 2 (.cons (.tup (.cons (.aF .len (.idx (.loc 2) (.k (.int 2)))) (.cons (.bin .mul (.aF .len (.idx (.loc 2) (.k (.int 2)))) (.k (.int 4))) .nil))) .nil)))
 (.cons (.expr (.aK (.idx (.loc 2) (.k (.int 43))) 2 (.cons (.tup (.cons (.bin .mul (.aF .len (.idx (.loc 2) (.k (.int 6)))) (.k (.int 2))) (.cons (.k (.int 8)) .nil))) .nil)))
 (.cons (.expr (.aK (.idx (.loc 2) (.k (.int 44))) 2 (.cons (.tup (.cons (.k (.int 3)) (.cons (.bin .mul (.aF .len (.idx (.loc 2) (.k (.int 2)))) (.k (.int 4))) .nil))) .nil)))
 .nil)))
 .nil)
 (.cons (.ret (.loc 2))
 .nil))))⟩
noncomputable def nv:aW:=⟨4,8,
 (.cons (.aP (.cmp .eq (.loc 0) (.k (.int 0)))
 (.cons (.aA 4 (.idx (.gl 54) (.bin .mod (.loc 1) (.aF .len (.gl 54)))))
 (.cons (.ret (.tup (.cons (.tup (.cons (.loc 4) .nil)) (.cons (.tup (.cons (.tup (.cons (.idx (.loc 4) (.k (.int 0))) (.cons (.idx (.loc 4) (.k (.int 1))) (.cons (.k (.str [116,97,103])) .nil)))) .nil)) .nil))))
 .nil))
 .nil)
 (.cons (.aP (.cmp .eq (.loc 0) (.k (.int 1)))
 (.cons (.aA 4 (.idx (.gl 53) (.bin .mod (.loc 1) (.aF .len (.gl 53)))))
 (.cons (.ret (.tup (.cons (.tup (.cons (.loc 4) .nil)) (.cons (.tup (.cons (.tup (.cons (.idx (.loc 4) (.k (.int 0))) (.cons (.idx (.loc 4) (.k (.int 1))) (.cons (.k (.str [112,97,114,101,110,116])) .nil)))) .nil)) .nil))))
 .nil))
 .nil)
 (.cons (.aP (.cmp .eq (.loc 0) (.k (.int 2)))
 (.cons (.aA 4 (.idx (.gl 52) (.bin .mod (.loc 1) (.aF .len (.gl 52)))))
 (.cons (.aA 5 (.idx (.loc 4) (.k (.int 1))))
 (.cons (.aP (.cmp .eq (.loc 5) (.k (.str [84])))
 (.cons (.aA 5 (.aF .len (.idx (.loc 3) (.k (.int 2)))))
 .nil)
 .nil)
 (.cons (.aP (.cmp .eq (.loc 5) (.k (.str [77])))
 (.cons (.aA 5 (.aF .len (.idx (.loc 3) (.k (.int 6)))))
 .nil)
 .nil)
 (.cons (.aA 6 (.idx (.loc 4) (.k (.int 3))))
 (.cons (.aP (.cmp .eq (.loc 6) (.k (.str [70])))
 (.cons (.aA 6 (.bin .add (.aF .len (.idx (.loc 3) (.k (.int 4)))) (.k (.int 2))))
 .nil)
 .nil)
 (.cons (.aP (.cmp .eq (.loc 6) (.k (.str [77])))
 (.cons (.aA 6 (.bin .add (.aF .len (.idx (.loc 3) (.k (.int 6)))) (.k (.int 2))))
 .nil)
 .nil)
 (.cons (.ret (.tup (.cons (.tup (.cons (.tup (.cons (.idx (.loc 4) (.k (.int 0))) (.cons (.loc 5) (.cons (.idx (.loc 4) (.k (.int 2))) (.cons (.loc 6) .nil))))) .nil)) (.cons (.tup (.cons (.tup (.cons (.idx (.loc 4) (.k (.int 0))) (.cons (.loc 5) (.cons (.k (.str [108,105,115,116])) .nil)))) .nil)) .nil))))
 .nil))))))))
 .nil)
 (.cons (.aP (.cmp .eq (.loc 0) (.k (.int 3)))
 (.cons (.aA 7 (.idx (.bin .add (.bin .add (.gl 50) (.gl 47)) (.gl 51)) (.bin .mod (.loc 1) (.k (.int 27)))))
 (.cons (.aA 6 (.bin .add (.aF .len (.gl 49)) (.bin .mod (.loc 2) (.k (.int 5)))))
 (.cons (.aP (.cmp .gt (.bin .mod (.loc 1) (.k (.int 27))) (.k (.int 15)))
 (.cons (.aA 6 (.bin .add (.aF .len (.gl 48)) (.bin .mod (.loc 2) (.k (.int 5)))))
 .nil)
 .nil)
 (.cons (.ret (.tup (.cons (.tup (.cons (.tup (.cons (.idx (.loc 7) (.k (.int 0))) (.cons (.idx (.loc 7) (.k (.int 1))) (.cons (.idx (.loc 7) (.k (.int 2))) (.cons (.loc 6) .nil))))) .nil)) (.cons (.tup (.cons (.tup (.cons (.idx (.loc 7) (.k (.int 0))) (.cons (.idx (.loc 7) (.k (.int 1))) (.cons (.k (.str [104,101,97,112])) .nil)))) .nil)) .nil))))
 .nil))))
 .nil)
 (.cons (.aP (.and (.cons (.cmp .eq (.loc 0) (.k (.int 4))) (.cons (.cmp .lt (.bin .mod (.loc 1) (.k (.int 19))) (.k (.int 7))) .nil)))
 (.cons (.aA 7 (.idx (.gl 47) (.bin .mod (.loc 1) (.k (.int 19)))))
 (.cons (.ret (.tup (.cons (.tup (.cons (.tup (.cons (.idx (.loc 7) (.k (.int 0))) (.cons (.idx (.loc 7) (.k (.int 1))) (.cons (.idx (.loc 7) (.k (.int 2))) (.cons (.k (.int 0)) .nil))))) .nil)) (.cons (.tup (.cons (.tup (.cons (.idx (.loc 7) (.k (.int 0))) (.cons (.idx (.loc 7) (.k (.int 1))) (.cons (.k (.str [104,101,97,112])) .nil)))) .nil)) .nil))))
 .nil))
 .nil)
 (.cons (.aP (.cmp .eq (.loc 0) (.k (.int 4)))
 (.cons (.ret (.ax 39 (.cons (.bin .sub (.bin .mod (.loc 1) (.k (.int 19))) (.k (.int 7))) (.cons (.loc 3) .nil))))
 .nil)
 .nil)
 (.cons (.ret (.idx (.gl 46) (.bin .mod (.loc 1) (.aF .len (.gl 46)))))
 .nil)))))))⟩
noncomputable def lC:aW:=⟨2,5,
 (.cons (.aA 2 (.comp (.loc 0) (.plain (.slice (.idx (.loc 1) (.k (.int 2))) (.yes (.k (.int 4))) (.yes (.k (.int 5))))) (.yes (.cmp .eq (.idx (.loc 0) (.k (.int 1))) (.k (.int 17))))))
 (.cons (.aA 3 (.tup .nil))
 (.cons (.aP (.cmp .lt (.loc 0) (.k (.int 11)))
 (.cons (.aA 4 (.idx (.gl 55) (.loc 0)))
 (.cons (.aP (.and (.cons (.cmp .eq (.idx (.loc 4) (.k (.int 0))) (.k (.int 32))) (.cons (.cmp .gt (.aF .len (.loc 2)) (.k (.int 0))) (.cons (.cmp .eq (.idx (.idx (.loc 2) (.k (.int 0))) (.k (.int 3))) (.k (.int 0))) .nil))))
 (.cons (.aA 3 (.tup (.cons (.tup (.cons (.k (.int 2)) (.cons (.k (.int 5)) (.cons (.k (.str [98,97,115,101])) .nil)))) .nil)))
 .nil)
 .nil)
 (.cons (.ret (.tup (.cons (.tup (.cons (.tup (.cons (.idx (.loc 4) (.k (.int 0))) (.cons (.idx (.loc 4) (.k (.int 1))) (.cons (.idx (.loc 4) (.k (.int 2))) (.cons (.k (.int 0)) .nil))))) .nil)) (.cons (.bin .add (.tup (.cons (.tup (.cons (.idx (.loc 4) (.k (.int 0))) (.cons (.idx (.loc 4) (.k (.int 1))) (.cons (.k (.str [110,97,109,101])) .nil)))) .nil)) (.loc 3)) .nil))))
 .nil)))
 .nil)
 (.cons (.aP (.and (.cons (.cmp .gt (.aF .len (.loc 2)) (.k (.int 0))) (.cons (.cmp .eq (.idx (.idx (.loc 2) (.k (.int 0))) (.k (.int 2))) (.k (.int 0))) .nil)))
 (.cons (.aA 3 (.tup (.cons (.tup (.cons (.k (.int 2)) (.cons (.k (.int 5)) (.cons (.k (.str [116,119,105,99,101])) .nil)))) .nil)))
 .nil)
 .nil)
 (.cons (.aP (.cmp .eq (.idx (.idx (.idx (.loc 1) (.k (.int 32))) (.k (.int 0))) (.k (.int 7))) (.k (.int 23)))
 (.cons (.aA 3 (.bin .add (.loc 3) (.tup (.cons (.tup (.cons (.k (.int 2)) (.cons (.k (.int 2)) (.cons (.k (.str [98,97,115,101])) .nil)))) .nil))))
 (.cons (.aP (.and (.cons (.cmp .gt (.aF .len (.loc 2)) (.k (.int 0))) (.cons (.cmp .eq (.idx (.idx (.loc 2) (.k (.int 0))) (.k (.int 3))) (.k (.int 0))) .nil)))
 (.cons (.aA 3 (.bin .add (.loc 3) (.tup (.cons (.tup (.cons (.k (.int 2)) (.cons (.k (.int 5)) (.cons (.k (.str [98,97,115,101])) .nil)))) .nil))))
 .nil)
 .nil)
 .nil))
 .nil)
 (.cons (.ret (.tup (.cons (.tup (.cons (.tup (.cons (.k (.int 2)) (.cons (.k (.int 2)) (.cons (.k (.int 1)) (.cons (.k (.int 17)) .nil))))) .nil)) (.cons (.loc 3) .nil))))
 .nil))))))⟩
noncomputable def rt:aW:=⟨5,6,
 (.cons (.aP (.cmp .eq (.loc 3) (.neg (.k (.int 1))))
 (.cons (.bP (.loc 0) (.loc 1) (.bin .add (.idx (.loc 0) (.loc 1)) (.list (.cons (.loc 4) .nil))))
 .nil)
 (.cons (.aP (.cmp .eq (.loc 3) (.neg (.k (.int 2))))
 (.cons (.bP (.loc 0) (.loc 1) (.slice (.idx (.loc 0) (.loc 1)) .no (.yes (.neg (.k (.int 1))))))
 .nil)
 (.cons (.aP (.cmp .eq (.loc 4) (.k (.str [84])))
 (.cons (.aA 4 (.bin .add (.aF .len (.idx (.loc 0) (.k (.int 2)))) (.k (.int 1))))
 .nil)
 .nil)
 (.cons (.aP (.cmp .eq (.loc 4) (.k (.str [77])))
 (.cons (.aA 4 (.bin .add (.aF .len (.idx (.loc 0) (.k (.int 6)))) (.k (.int 1))))
 .nil)
 .nil)
 (.cons (.aA 5 (.idx (.idx (.loc 0) (.loc 1)) (.bin .sub (.loc 2) (.k (.int 1)))))
 (.cons (.bP (.loc 0) (.loc 1) (.bin .add (.bin .add (.slice (.idx (.loc 0) (.loc 1)) .no (.yes (.bin .sub (.loc 2) (.k (.int 1))))) (.list (.cons (.bin .add (.bin .add (.slice (.loc 5) .no (.yes (.loc 3))) (.tup (.cons (.loc 4) .nil))) (.slice (.loc 5) (.yes (.bin .add (.loc 3) (.k (.int 1)))) .no)) .nil))) (.slice (.idx (.loc 0) (.loc 1)) (.yes (.loc 2)) .no)))
 .nil)))))
 .nil))
 .nil)⟩
noncomputable def GA:aW:=⟨1,12,
 (.cons (.aA 1 (.comp (.bin .mod (.loc 0) (.k (.int 1000003))) (.plain (.slice (.loc 0) .no (.yes (.k (.int 6))))) .no))
 (.cons (.aA 2 (.slice (.bin .add (.loc 1) (.list (.cons (.k (.int 0)) (.cons (.k (.int 0)) (.cons (.k (.int 0)) .nil))))) .no (.yes (.k (.int 3)))))
 (.cons (.aA 3 (.new 0 (.cons (.k (.str [])) .nil)))
 (.cons (.aA 4 (.new 0 (.cons (.k (.bytes [])) .nil)))
 (.cons (.setAttr (.loc 3) (.aF .list (.gl 49)))
 (.cons (.setAttr (.loc 4) (.aF .list (.gl 48)))
 (.cons (.aA 5 (.ax 37 (.cons (.bin .mod (.idx (.loc 2) (.k (.int 0))) (.k (.int 2))) (.cons (.slice (.loc 1) (.yes (.k (.int 3))) (.yes (.k (.int 6)))) .nil))))
 (.cons (.aA 6 (.tup .nil))
 (.cons (.aP (.cmp .gt (.bin .mod (.idx (.loc 2) (.k (.int 1))) (.k (.int 8))) (.k (.int 0)))
 (.cons (.dD [7,6] (.ax 38 (.cons (.bin .sub (.bin .mod (.idx (.loc 2) (.k (.int 1))) (.k (.int 8))) (.k (.int 1))) (.cons (.idx (.loc 2) (.k (.int 2))) (.cons (.bin .fdiv (.idx (.loc 2) (.k (.int 1))) (.k (.int 8))) (.cons (.loc 5) .nil))))))
 (.cons (.ba (.one 8) (.plain (.loc 7))
 (.cons (.expr (.ax 40 (.cons (.loc 5) (.cons (.idx (.loc 8) (.k (.int 0))) (.cons (.idx (.loc 8) (.k (.int 1))) (.cons (.idx (.loc 8) (.k (.int 2))) (.cons (.idx (.loc 8) (.k (.int 3))) .nil)))))))
 .nil))
 .nil))
 .nil)
 (.cons (.aA 9 (.new 1 .nil))
 (.cons (.ba (.one 10) (.plain (.aF .sorted (.loc 5)))
 (.cons (.ba (.one 11) (.plain (.idx (.loc 5) (.loc 10)))
 (.cons (.expr (.aK (.loc 9) 5 (.cons (.loc 10) (.cons (.loc 11) .nil))))
 .nil))
 .nil))
 (.cons (.ret (.cmp .eq (.aF .sorted (.ax 4 (.cons (.loc 9) (.cons (.loc 3) (.cons (.loc 4) .nil))))) (.aF .sorted (.loc 6))))
 .nil))))))))))))⟩
noncomputable def p7:aW:=⟨2,2,
 (.cons (.setAttr (.loc 0) (.list (.cons (.loc 1) .nil)))
 .nil)⟩
noncomputable def kD:aW:=⟨2,2,
 (.cons (.aP (.or (.cons (.cmp .lt (.loc 1) (.k (.int 0))) (.cons (.cmp .ge (.loc 1) (.aF .len (.attr (.loc 0)))) .nil)))
 (.cons (.eR (.cons (.k (.str [111,102,102,115,101,116])) (.cons (.loc 1) .nil)))
 .nil)
 .nil)
 (.cons (.ret (.idx (.attr (.loc 0)) (.loc 1)))
 .nil))⟩
noncomputable def ny:aW:=⟨1,1,
 (.cons (.setAttr (.loc 0) (.dC .int))
 .nil)⟩
noncomputable def jz:aW:=⟨3,3,
 (.cons (.expr (.aK (.aK (.attr (.loc 0)) 1 (.cons (.loc 1) (.cons (.list .nil) .nil))) 2 (.cons (.loc 2) .nil)))
 (.cons (.ret (.aF .len (.idx (.attr (.loc 0)) (.loc 1))))
 .nil))⟩
noncomputable def jA:aW:=⟨3,3,
 (.cons (.aP (.or (.cons (.cmp .lt (.loc 2) (.k (.int 1))) (.cons (.cmp .gt (.loc 2) (.aK (.loc 0) 4 (.cons (.loc 1) .nil))) .nil)))
 (.cons (.eR (.cons (.k (.str [114,111,119])) (.cons (.loc 2) .nil)))
 .nil)
 .nil)
 (.cons (.ret (.idx (.idx (.attr (.loc 0)) (.loc 1)) (.bin .sub (.loc 2) (.k (.int 1)))))
 .nil))⟩
noncomputable def iF:aW:=⟨2,2,
 (.cons (.ret (.aF .len (.aK (.attr (.loc 0)) 0 (.cons (.loc 1) (.cons (.list .nil) .nil)))))
 .nil)⟩
noncomputable def Al:List (Nat×aW):=[(0,rn),(1,vB),(2,mY),(3,sJ),(4,lB),(5,tP),(6,vC),(7,vD),(8,vE),(9,uC),(10,uD),(11,yi),(12,yj),(13,vF),(14,pZ),(15,sL),(16,yk),(17,vG),(18,vH),(19,yl),(20,vI),(21,vJ),(22,rp),(23,sM),(24,vK),(25,Ak),(26,ym),(27,vL),(28,uE),(29,p5),(30,uF),(31,rq),(32,p6),(33,rr),(34,nu),(35,vM),(36,uG),(37,pH),(38,nv),(39,lC),(40,rt),(41,GA),(101,p7),(102,kD),(103,ny),(104,jz),(105,jA),(106,iF)]
noncomputable def u3:List (Nat×aW)->Nat->Option aW
 |[],_=>none
 |p::r,i=>bif Nat.beq p.1 i then some p.2 else u3 r i
noncomputable def ah(i:Nat):Option aW:=u3 Al i
noncomputable def vN:PV:=(.int 16777216)
noncomputable def ze:PV:=(.eM [0,1,2,3,4,5,6] [(.tup [(.int 2),(.tup [(.int 2),(.int 1),(.int 27)])]),(.tup [(.int 2),(.tup [(.int 4),(.int 8),(.int 23)])]),(.tup [(.int 3),(.tup [(.int 2),(.int 1),(.int (-1)),(.int 6),(.int 27)])]),(.tup [(.int 1),(.tup [(.int 20),(.int 23)])]),(.tup [(.int 1),(.tup [(.int 6),(.int 10)])]),(.tup [(.int 2),(.tup [(.int 0),(.int (-1)),(.int 35),(.int 1)])]),(.tup [(.int 1),(.tup [(.int 2),(.int 6)])])])
noncomputable def tQ:PV:=.eM (ri.map (·.1)) (ri.map λp=>.tup (p.2.map ec))
noncomputable def B5:PV:=(.int 4)
noncomputable def B6:PV:=(.int 5)
noncomputable def uH:PV:=(.tup [(.str [83,105,103,110,97,116,117,114,101]),(.str [84,121,112,101]),(.str [73,110,115,116,97,110,116,105,97,116,105,111,110])])
noncomputable def vO:PV:=(.tup [(.int 4),(.int 6),(.int 10),(.int 17),(.int 23),(.int 27),(.int 43)])
noncomputable def uI:PV:=(.str [60,77,111,100,117,108,101,62])
noncomputable def vP:PV:=(.int 2)
noncomputable def uJ:PV:=(.int 32)
noncomputable def yn:PV:=(.int 0)
noncomputable def p9:PV:=(.int 21)
noncomputable def uK:PV:=(.int 18)
noncomputable def Am:PV:=(.int 512)
noncomputable def H5:PV:=(.tup [(.tup [(.int 2),(.int 4),(.int 4)]),(.tup [(.int 2),(.int 5),(.int 6)]),(.tup [(.int 6),(.int 5),(.int 8)]),(.tup [(.int 18),(.int 1),(.int 20)]),(.tup [(.int 21),(.int 1),(.int 23)])])
noncomputable def uL:PV:=(.tup [(.tup [(.int 2),(.str [69,120,116,101,110,100,115])]),(.tup [(.int 20),(.str [69,118,101,110,116,84,121,112,101])])])
noncomputable def EB:PV:=(.int 256)
noncomputable def H6:PV:=(.tup [(.tup [(.int 0),(.str [78,97,109,101])]),(.tup [(.int 1),(.str [84,121,112,101,78,97,109,101])]),(.tup [(.int 2),(.str [84,121,112,101,78,97,109,101])]),(.tup [(.int 4),(.str [78,97,109,101])]),(.tup [(.int 6),(.str [78,97,109,101])]),(.tup [(.int 10),(.str [78,97,109,101])]),(.tup [(.int 20),(.str [78,97,109,101])]),(.tup [(.int 23),(.str [78,97,109,101])]),(.tup [(.int 32),(.str [78,97,109,101])]),(.tup [(.int 35),(.str [78,97,109,101])]),(.tup [(.int 42),(.str [78,97,109,101])])])
noncomputable def An:PV:=(.int 20)
noncomputable def uM:PV:=(.int 23)
noncomputable def sN:PV:=(.int 6)
noncomputable def Ao:PV:=(.int 4)
noncomputable def vQ:PV:=(.int 1)
noncomputable def qc:PV:=(.int 41)
noncomputable def sO:PV:=(.int 32)
noncomputable def yo:PV:=(.int 16)
noncomputable def yp:PV:=(.str [79,98,106,101,99,116])
noncomputable def yr:PV:=(.str [99,111,114,101])
noncomputable def yt:PV:=(.tup [(.int 0),(.int 0),(.int 1)])
noncomputable def yu:PV:=(.int 16)
noncomputable def pB:PV:=(.int 4096)
noncomputable def uN:PV:=(.int 1024)
noncomputable def ru:PV:=(.int 32768)
noncomputable def vR:PV:=(.int 64)
noncomputable def uO:PV:=(.int 11)
noncomputable def qe:PV:=(.int 1)
noncomputable def Ap:PV:=(.int 8)
noncomputable def pC:PV:=(.int 42)
noncomputable def uP:PV:=(.int 16)
noncomputable def Aq:PV:=(.int 8)
noncomputable def pD:PV:=(.int 3)
noncomputable def mh:PV:=(.int 24)
noncomputable def yv:PV:=(.int 2)
noncomputable def yw:PV:=(.int 1)
noncomputable def rv:PV:=(.int 25)
noncomputable def m9:PV:=(.int 4)
noncomputable def jU:PV:=.tup (jK.map jT)
noncomputable def mj:PV:=.tup (fX.map i5)
noncomputable def yx:PV:=.tup (oN.map .bytes)
noncomputable def yy:PV:=.tup (texts.map .str)
noncomputable def pI:PV:=.tup (i6.map i5)
noncomputable def nD:PV:=.tup (hU.map i5)
noncomputable def kY:PV:=.tup (eT.map tO)
noncomputable def jr:PV:=.tup (gP.map i4)
noncomputable def mn:PV:=.tup (mf.map i4)
noncomputable def iK:PV:=.tup (dg.map i5)
noncomputable def RE:List PV:=[vN,ze,tQ,B5,B6,uH,vO,uI,vP,uJ,yn,p9,uK,Am,H5,uL,EB,H6,An,uM,sN,Ao,vQ,qc,sO,yo,yp,yr,yt,yu,pB,uN,ru,vR,uO,qe,Ap,pC,uP,Aq,pD,mh,yv,yw,rv,m9,jU,mj,yx,yy,pI,nD,kY,jr,mn,iK]
noncomputable def JW:List PV->Nat->PV
 |[],_=>.none
 |x::_,0=>x
 |_::r,i+1=>JW r i
noncomputable def aa(i:Nat):PV:=JW RE i
noncomputable def Ry(n:Nat):=ar ah aa n
end FR
namespace FR
section
variable{cf:Nat->List PV->ae->Out PV}{gl:Nat->PV}{J cY:Loc}{Z ai:ae}
theorem eI{s:MS}{r:bq}(e:aZ cf gl s J Z=some (.ok (.next,cY),ai)):ak cf gl (.cons s r) J Z=ak cf gl r cY ai:=by
 show au (aZ cf gl s J Z) (λf Z=>match f.1 with | .next=>ak cf gl r f.2 Z | _=>give f Z)=_
 rw[e];rfl
theorem eJ{s:MS}{r:bq}{f:Fl}(h:f≠ .next)(e:aZ cf gl s J Z=some (.ok (f,cY),ai)):ak cf gl (.cons s r) J Z=some (.ok (f,cY),ai):=by
 show au (aZ cf gl s J Z) (λf Z=>match f.1 with | .next=>ak cf gl r f.2 Z | _=>give f Z)=_
 rw[e]
 cases f with
 |next=>exact absurd rfl h
 |_=>rfl
theorem iL{s:MS}{f:Fl}(e:aZ cf gl s J Z=some (.ok (f,cY),ai)):ak cf gl (.cons s .nil) J Z=some (.ok (f,cY),ai):=by
 cases f with
 |next=>exact eI e
 |_=>exact eJ nofun e
theorem sP{a:ME}{u:PV}(e:ag cf gl a J Z=some (.ok u,ai)):aZ cf gl (.ret a) J Z=some (.ok (.ret u,J),ai):=by
 show au (ag cf gl a J Z) (λv Z=>give (Fl.ret v,J) Z)=_
 rw[e];rfl
theorem dI{i:Nat}{a:ME}{u:PV}(e:ag cf gl a J Z=some (.ok u,ai)):aZ cf gl (.aA i a) J Z=some (.ok (.next,cD J i u),ai):=by
 show au (ag cf gl a J Z) (λv Z=>give (Fl.next,cD J i v) Z)=_
 rw[e];rfl
theorem fC{c:ME}{a b:bq}{u:PV}(e:ag cf gl c J Z=some (.ok u,ai)):aZ cf gl (.aP c a b) J Z=pick (truth ai u) (ak cf gl a J ai) (ak cf gl b J ai):=by
 show au (ag cf gl c J Z) (λv Z=>pick (truth Z v) (ak cf gl a J Z) (ak cf gl b J Z))=_
 rw[e];rfl
theorem EC{c:ME}{a b r:bq}{v:PV}{aU:ae}{dB:Loc}(e:ag cf gl c J Z=some (.ok (.bool true),ai))(k:ak cf gl a J ai=some (.ok (.ret v,dB),aU)):ak cf gl (.cons (.aP c a b) r) J Z=some (.ok (.ret v,dB),aU):=eJ nofun ((fC e).trans k)
theorem jV{a:ME}{u:PV}(e:ag cf gl a J Z=some (.ok u,ai)):aZ cf gl (.expr a) J Z=some (.ok (.next,J),ai):=by
 show au (ag cf gl a J Z) (λO Z=>give (Fl.next,J) Z)=_
 rw[e];rfl
theorem vS{s:MS}{r:bq}{x:Ex}(e:aZ cf gl s J Z=some (.error x,ai)):ak cf gl (.cons s r) J Z=some (.error x,ai):=by
 show au (aZ cf gl s J Z) (λf Z=>match f.1 with | .next=>ak cf gl r f.2 Z | _=>give f Z)=_
 rw[e];rfl
theorem sQ{α β:Type}{m:Out α}{k:α->ae->Out β}{x:Ex}(e:m=some (.error x,ai)):au m k=some (.error x,ai):=by rw[e];rfl
theorem lD{a:ME}{it:MI}{c:fm}{s:Src}{en:Bool}{aU:ae}{vs:List PV}(e:ft cf gl it J Z=some (.ok (s,en),ai))
  (h:bW (λx Z=>aX (cV cf gl c [some x] Z) λc Z=>pick (ic Z c) (aX (ag cf gl a [some x] Z) λy Z=>give (some y) Z) (give .none Z)) s en (dX ai s+1) 0 ai=some (.ok vs,aU)):ag cf gl (.comp a it c) J Z=some (.ok (.ref aU.length),aU++[.list vs]):=by
 show au (ft cf gl it J Z) (λsrc Z=>aX (bW (λx Z=>aX (cV cf gl c [some x] Z) λc Z=>pick (ic Z c) (aX (ag cf gl a [some x] Z) λy Z=>give (some y) Z) (give .none Z)) src.1 src.2 (dX Z src.1+1) 0 Z) λvs Z=>some (.ok (PV.ref Z.length),Z++[.list vs]))=_
 rw[e]
 show aX (bW (λx Z=>aX (cV cf gl c [some x] Z) λc Z=>pick (ic Z c) (aX (ag cf gl a [some x] Z) λy Z=>give (some y) Z) (give .none Z)) s en (dX ai s+1) 0 ai) (λvs Z=>some (.ok (PV.ref Z.length),Z++[.list vs]))=_
 rw[h];rfl
theorem i8{a:ME}{v:PV}{s:Src}(e:ag cf gl a J Z=some (.ok v,ai))(h:srcOf ai v=some s):ft cf gl (.plain a) J Z=some (.ok (s,false),ai):=by
 show au (ag cf gl a J Z) (λv Z=>read Z ((srcOf Z v).bind λs=>some (s,false)))=_
 rw[e]
 show read ai ((srcOf ai v).bind λs=>some (s,false))=_
 rw[h];rfl
theorem rx{a:ME}{n:Int}(e:ag cf gl a J Z=some (.ok (.int n),ai))(h:small n=true):ft cf gl (.gA a) J Z=some (.ok (.range 0 n.toNat,false),ai):=by
 show au (ag cf gl a J Z) (λv Z=>read Z ((bw v).bind λn=>az (small n) (some (Src.range 0 n.toNat,false))))=_
 rw[e]
 show read ai (az (small n) (some (Src.range 0 n.toNat,false)))=_
 rw[h];rfl
theorem NK{a b:ME}{m n:Int}(e:ag cf gl a J Z=some (.ok (.int m),Z))(e2:ag cf gl b J Z=some (.ok (.int n),ai))(h:small m=true)(h2:small n=true):ft cf gl (.df a b) J Z=some (.ok (.range m (n-m).toNat,false),ai):=by
 show au (ag cf gl a J Z) (λu Z=>au (ag cf gl b J Z) λv Z=>read Z ((bw u).bind λm=>(bw v).bind λn=>az (small m) (az (small n) (some (Src.range m (n-m).toNat,false)))))=_
 rw[e]
 show au (ag cf gl b J Z) (λv Z=>read Z ((bw v).bind λn=>az (small m) (az (small n) (some (Src.range m (n-m).toNat,false)))))=_
 rw[e2]
 show read ai (az (small m) (az (small n) (some (Src.range m (n-m).toNat,false))))=_
 rw[h,h2];rfl
theorem ED{ks:List Int}{es:bO}{vs:List PV}(h:bg cf gl es J Z=some (.ok vs,ai))(h1:iJ ks=true)(h2:decide (vs.length=ks.length)=true):ag cf gl (.kz ks es) J Z=some (.ok (.ref ai.length),ai++[.dict .int ((ks.map Key.int).zip vs)]):=by
 show aX (bg cf gl es J Z) (λvs Z=>az (iJ ks) (az (decide (vs.length=ks.length)) (some (.ok (PV.ref Z.length),Z++[.dict .int ((ks.map Key.int).zip vs)]))))=_
 rw[h]
 show az (iJ ks) (az (decide (vs.length=ks.length)) _)=_
 rw[h1,h2];rfl
theorem oO{a:ME}{r:Out PV}(h:ag cf gl a J Z=r):ag cf gl (.and (.cons a .nil)) J Z=r:=h
theorem zf{a b:ME}{r:bO}(ha:ag cf gl a J Z=some (.ok (.bool false),Z)):ag cf gl (.and (.cons a (.cons b r))) J Z=some (.ok (.bool false),Z):=by
 show au (ag cf gl a J Z) (λv Z=>pick (truth Z v) (ag cf gl (.and (.cons b r)) J Z) (give v Z))=_
 rw[ha];rfl
theorem lE{a b:ME}{r:bO}{x y:Bool}(ha:ag cf gl a J Z=some (.ok (.bool x),Z))(hb:ag cf gl (.and (.cons b r)) J Z=some (.ok (.bool y),Z)):ag cf gl (.and (.cons a (.cons b r))) J Z=some (.ok (.bool (x&&y)),Z):=by
 show au (ag cf gl a J Z) (λv Z=>pick (truth Z v) (ag cf gl (.and (.cons b r)) J Z) (give v Z))=_
 rw[ha]
 show pick (some x) _ _=_
 cases x with
 |true=>exact hb
 |false=>rfl
theorem EE{a:ME}{v:PV}{s:Src}(e:ag cf gl a J Z=some (.ok v,ai))(h:srcOf ai v=some s):ft cf gl (.enum a) J Z=some (.ok (s,true),ai):=by
 show au (ag cf gl a J Z) (λv Z=>read Z ((srcOf Z v).bind λs=>some (s,true)))=_
 rw[e]
 show read ai ((srcOf ai v).bind λs=>some (s,true))=_
 rw[h];rfl
theorem jL{t:iY}{it:MI}{body:bq}{s:Src}{en:Bool}(e:ft cf gl it J Z=some (.ok (s,en),ai)):aZ cf gl (.ba t it body) J Z=forL (ak cf gl body) t s en (dX ai s+1) 0 J ai:=by
 show au (ft cf gl it J Z) (λsrc Z=>forL (ak cf gl body) t src.1 src.2 (dX Z src.1+1) 0 J Z)=_
 rw[e];rfl
end
section
variable{f:Loc->ae->Out (Fl×Loc)}{t:iY}{s:Src}{en:Bool}{n k:Nat}{J cY dB:Loc}{Z aU:ae}{x:PV}{fl:Fl}
noncomputable def OL(f:Fl)(J:Loc)(Z:ae)(o:Out (Fl×Loc)):Out (Fl×Loc):=match f with
 |.ret v=>some (.ok (.ret v,J),Z)
 |_=>o
theorem qf(h:b9 Z k s=some none):forL f t s en (n+1) k J Z=some (.ok (.next,J),Z):=by
 show (match b9 Z k s with | some x=>(match x with | some x=>(eN t (wrap en k x) J).bind λJ=>aX (f J Z) λr Z=>(match r.1 with | .ret v=>give (Fl.ret v,r.2) Z | _=>forL f t s en n (k+1) r.2 Z) | none=>give (Fl.next,J) Z) | none=>none)=_
 rw[h];rfl
theorem mq(h:b9 Z k s=some (some x))(hb:eN t (wrap en k x) J=some cY)(e:f cY Z=some (.ok (fl,dB),aU)):forL f t s en (n+1) k J Z=OL fl dB aU (forL f t s en n (k+1) dB aU):=by
 show (match b9 Z k s with | some x=>(match x with | some x=>(eN t (wrap en k x) J).bind λJ=>aX (f J Z) λr Z=>(match r.1 with | .ret v=>give (Fl.ret v,r.2) Z | _=>forL f t s en n (k+1) r.2 Z) | none=>give (Fl.next,J) Z) | none=>none)=_
 rw[h]
 show ((eN t (wrap en k x) J).bind λJ=>aX (f J Z) λr Z=>match r.1 with | .ret v=>give (Fl.ret v,r.2) Z | _=>forL f t s en n (k+1) r.2 Z)=_
 rw[hb]
 show aX (f cY Z) (λr Z=>match r.1 with | .ret v=>give (Fl.ret v,r.2) Z | _=>forL f t s en n (k+1) r.2 Z)=_
 rw[e]
 cases fl<;>rfl
end
theorem i9{f:PV->ae->Out (Option PV)}{s:Src}{en:Bool}{n k:Nat}{Z:ae}(h:b9 Z k s=some none):bW f s en (n+1) k Z=some (.ok [],Z):=by
 show (match b9 Z k s with | some x=>(match x with | some x=>az (decide (k<=65536)) (aX (f (wrap en k x) Z) λy Z=>(match y with | some y=>aX (bW f s en n (k+1) Z) λys Z=>give (y::ys) Z | none=>bW f s en n (k+1) Z)) | none=>give [] Z) | none=>none)=_
 rw[h];rfl
theorem nF{f:PV->ae->Out (Option PV)}{s:Src}{en:Bool}{n k:Nat}{Z ai aU:ae}{x y:PV}{ys:List PV}(h:b9 Z k s=some (some x))(hk:k<=65536)(e:f (wrap en k x) Z=some (.ok (some y),ai))(e2:bW f s en n (k+1) ai=some (.ok ys,aU)):bW f s en (n+1) k Z=some (.ok (y::ys),aU):=by
 show (match b9 Z k s with | some x=>(match x with | some x=>az (decide (k<=65536)) (aX (f (wrap en k x) Z) λy Z=>(match y with | some y=>aX (bW f s en n (k+1) Z) λys Z=>give (y::ys) Z | none=>bW f s en n (k+1) Z)) | none=>give [] Z) | none=>none)=_
 rw[h]
 show az (decide (k<=65536)) (aX (f (wrap en k x) Z) λy Z=>(match y with | some y=>aX (bW f s en n (k+1) Z) λys Z=>give (y::ys) Z | none=>bW f s en n (k+1) Z))=_
 rw[decide_eq_true hk,e]
 show aX (bW f s en n (k+1) ai) (λys Z=>give (y::ys) Z)=_
 rw[e2];rfl
theorem fY{Z:ae}{i k:Nat}{l:List PV}(g:aj Z i=some (.list l)):b9 Z k (.live i)=some (fq l k):=by
 show ((aj Z i).bind λo=>(cL o).bind λl=>some (fq l k))=_
 rw[g];rfl
theorem eZ{Z:ae}{i:Nat}{l:List PV}(g:aj Z i=some (.list l)):dX Z (.live i)=l.length:=by
 show (match (aj Z i).bind cL with | some l=>l.length | none=>0)=_
 rw[g];rfl
theorem yz{test:Loc->ae->Out PV}{body:Loc->ae->Out (Fl×Loc)}{n:Nat}{J:Loc}{Z ai:ae}(e:test J Z=some (.ok (.bool false),ai)):eS test body (n+1) J Z=some (.ok (.next,J),ai):=by
 show aX (test J Z) (λv Z=>pick (truth Z v) (aX (body J Z) λr Z=>match r.1 with | .ret v=>give (Fl.ret v,r.2) Z | _=>eS test body n r.2 Z) (give (Fl.next,J) Z))=_
 rw[e];rfl
theorem B7{test:Loc->ae->Out PV}{body:Loc->ae->Out (Fl×Loc)}{n:Nat}{J dB:Loc}{Z ai aU:ae}{f:Fl}(e:test J Z=some (.ok (.bool true),ai))(e2:body J ai=some (.ok (f,dB),aU)):eS test body (n+1) J Z=OL f dB aU (eS test body n dB aU):=by
 show aX (test J Z) (λv Z=>pick (truth Z v) (aX (body J Z) λr Z=>match r.1 with | .ret v=>give (Fl.ret v,r.2) Z | _=>eS test body n r.2 Z) (give (Fl.next,J) Z))=_
 rw[e]
 show aX (body J ai) (λr Z=>match r.1 with | .ret v=>give (Fl.ret v,r.2) Z | _=>eS test body n r.2 Z)=_
 rw[e2]
 cases f<;>rfl
theorem Ar{f:PV->ae->Out (Option PV)}{s:Src}{en:Bool}{n k:Nat}{Z ai:ae}{x:PV}(h:b9 Z k s=some (some x))(hk:k<=65536)(e:f (wrap en k x) Z=some (.ok none,ai)):bW f s en (n+1) k Z=bW f s en n (k+1) ai:=by
 show (match b9 Z k s with | some x=>(match x with | some x=>az (decide (k<=65536)) (aX (f (wrap en k x) Z) λy Z=>(match y with | some y=>aX (bW f s en n (k+1) Z) λys Z=>give (y::ys) Z | none=>bW f s en n (k+1) Z)) | none=>give [] Z) | none=>none)=_
 rw[h]
 show az (decide (k<=65536)) (aX (f (wrap en k x) Z) λy Z=>(match y with | some y=>aX (bW f s en n (k+1) Z) λys Z=>give (y::ys) Z | none=>bW f s en n (k+1) Z))=_
 rw[decide_eq_true hk,e];rfl
noncomputable def outF(f:Fl)(Z:ae):Out PV:=match f with
 |.ret v=>some (.ok v,Z)
 |.next=>some (.ok .none,Z)
 |.cont=>none
theorem nG{defs:Nat->Option aW}{gl:Nat->PV}{n i:Nat}{d:aW}{vs:List PV}{Z af:ae}{f:Fl}{aN:Loc}(hd:defs i=some d)(hp:vs.length=d.params)
  (e:ak (ar defs gl n) gl d.body (vs.map some++List.replicate (d.locals-d.params) none) Z=some (.ok (f,aN),af)):ar defs gl (n+1) i vs Z=outF f af:=by
 show ((defs i).bind λd=>u0 (ar defs gl n) gl d vs Z)=_
 rw[hd]
 show az (decide (vs.length=d.params)) (back (ak (ar defs gl n) gl d.body (vs.map some++List.replicate (d.locals-d.params) none) Z))=_
 rw[decide_eq_true hp,e]
 cases f<;>rfl
theorem yA{defs:Nat->Option aW}{gl:Nat->PV}{n i:Nat}{d:aW}{vs:List PV}{Z af:ae}(hd:defs i=some d)(hp:vs.length=d.params)
  (e:ak (ar defs gl n) gl d.body (vs.map some++List.replicate (d.locals-d.params) none) Z=some (.error .fresh,af)):ar defs gl (n+1) i vs Z=some (.error .hZ,af):=by
 show ((defs i).bind λd=>u0 (ar defs gl n) gl d vs Z)=_
 rw[hd]
 show az (decide (vs.length=d.params)) (back (ak (ar defs gl n) gl d.body (vs.map some++List.replicate (d.locals-d.params) none) Z))=_
 rw[decide_eq_true hp,e]
 rfl
section
variable{Z:ae}{i m:Nat}
theorem zg{kk:KK}{es:List (Key×PV)}(g:aj Z i=some (.dict kk es)):cU m (.ref i) Z=Nat.ble m 1:=by
 show (match aj Z i with | some o=>(match o with | .dict _ _=>Nat.ble m 1 | .list _=>Nat.beq m 2 | .attrs _=>false) | .none=>false)=_
 rw[g]
theorem sR{l:List PV}(g:aj Z i=some (.list l)):cU m (.ref i) Z=Nat.beq m 2:=by
 show (match aj Z i with | some o=>(match o with | .dict _ _=>Nat.ble m 1 | .list _=>Nat.beq m 2 | .attrs _=>false) | .none=>false)=_
 rw[g]
theorem sS{c:Nat}{r:Option PV}(g:aj Z i=some (.attrs r)):cU m (.inst c i) Z=bif Nat.beq c 0 then Nat.beq m 3 else (Nat.beq c 1&&(Nat.beq m 3||(Nat.beq m 4||Nat.beq m 5))):=by
 show (match aj Z i with | some o=>(match o with | .attrs _=>bif Nat.beq c 0 then Nat.beq m 3 else (Nat.beq c 1&&(Nat.beq m 3||(Nat.beq m 4||Nat.beq m 5))) | _=>false) | .none=>false)=_
 rw[g]
theorem JX{kk:KK}{es:List (Key×PV)}{k d:PV}{y:Key}(g:aj Z i=some (.dict kk es))(e:toKey kk k=some y):getM (.ref i) k d Z=some ((aT es y).getD d,Z):=by
 show ((aj Z i).bind λo=>(iZ o).bind λq=>(toKey q.1 k).bind λk=>some ((aT q.2 k).getD d,Z))=_
 rw[g]
 show ((toKey kk k).bind λk=>some ((aT es k).getD d,Z))=_
 rw[e];rfl
theorem vT{l:List PV}{v:PV}(g:aj Z i=some (.list l))(hf:fits l=true):sG (.ref i) v Z=some (.none,sset Z i (.list (l++[v]))):=by
 show ((aj Z i).bind λo=>(cL o).bind λl=>az (fits l) (some (PV.none,sset Z i (.list (l++[v])))))=_
 rw[g]
 show az (fits l) _=_
 rw[hf];rfl
theorem zh{l:List PV}(g:aj Z i=some (.list l))(hf:fits l=true):truth Z (.ref i)=some (!l.isEmpty):=by
 show ((aj Z i).bind λo=>(cL o).bind λl=>az (fits l) (some (!l.isEmpty)))=_
 rw[g]
 show az (fits l) _=_
 rw[hf];rfl
theorem nH{kk:KK}{es:List (Key×PV)}{k v:PV}{y:Key}(g:aj Z i=some (.dict kk es))(e:toKey kk k=some y)(hf:fits es=true):setItem (.ref i) k v Z=some (sset Z i (.dict kk (bZ es y v))):=by
 show ((aj Z i).bind λo=>(iZ o).bind λq=>(toKey q.1 k).bind λk=>az (fits q.2) (some (sset Z i (.dict q.1 (bZ q.2 k v)))))=_
 rw[g]
 show ((toKey kk k).bind λk=>az (fits es) (some (sset Z i (.dict kk (bZ es k v)))))=_
 rw[e]
 show az (fits es) _=_
 rw[hf];rfl
end
end FR
namespace FR
open PySem PySem.W PySem.Calls PyProof.Rows
section
variable{c:Cx}{J aN:Loc}{Z af:ae}{P P' av:Pt}{F X W:List Addr}{a:Addr}{o:Obj}{h':Heap}{t i:Nat}{m m₀:MO}
theorem iE.sub(k:Sub P.s.heap h'):iE F X P (P.at P.Y h' t):=⟨⟨[],(List.append_nil _).symm⟩,λO O e n O O=>⟨n,k _ _ e⟩,λO O O O n=>n.keeps k,λO O n=>n,rfl⟩
theorem Inv.sub(I:Inv c J Z P)(k:Sub P.s.heap h'):Inv c J Z (P.at P.Y h' t)/\To c P (P.at P.Y h' t):=I.under (.sub k) (I.so.keeps k)
theorem Inv.push(I:Inv c J Z P)(k:Sub P.s.heap h')(hn:P.s.heap.get? a=none)(M:MR c.toBs h' (P.Y++[a]) a m):Inv c J (Z++[m]) (P.at (P.Y++[a]) h' t)/\To c P (P.at (P.Y++[a]) h' t):=
 let n:=I.new hn
 have ne:∀b,b∉P.Y->b≠a->b∉P.Y++[a]:=λb x y z=>(List.mem_append.mp z).elim x λz=>y (List.mem_singleton.mp z)
 I.under ⟨⟨[a],rfl⟩,λb o e x O O=>⟨ne b x λq=>aH hn (q▸e),k _ _ e⟩,λO O O O n=>n.keeps k,λb x y=>ne b y λq=>x.elim (λx=>n.2.2.1 (q▸x)) nofun,rfl⟩ ((I.so.keeps k).add n.2.1 n.1 M)
theorem Inv.set(I:Inv c J Z P)(q:aj Z i=some m₀)(e:P.Y[i]? =some a)(hs:Heap.SameBut a P.s.heap h')(M:MR c.toBs h' P.Y a m):Inv c J (sset Z i m) (P.at P.Y h' t)/\To c P (P.at P.Y h' t):=
 have ha:=List.mem_of_getElem? e
 I.under ⟨⟨[],(List.append_nil _).symm⟩,λb o e x O O=>⟨x,(hs.2 b λq=>x (q▸ha)).trans e⟩,λb x O O n=>Ns.at n λo e=>(hs.2 b λq=>(I.sep _ ha).1 (q▸x)).trans e,λO O n=>n,rfl⟩ (I.so.set q e hs M)
theorem Inv.write(I:Inv c J Z P)(S:cx c.toBs af P.Y h')(kp:∀a o,P.s.heap.get? a=some o->a∉P.Y->a≠c.L->h'.get? a=some o)
  (N:∃m,h'.Ns c.L m/\∀(i:Nat) x p,c.locs[i]? =some x->bo aN i=some p->∃v,m x=some v/\VR c.toBs h' P.Y p v):Inv c aN af (P.at P.Y h' t)/\To c P (P.at P.Y h' t):=by
 have kn:∀a∈c.F,a≠c.L->∀m,P.s.heap.Ns a m->h'.Ns a m:=λa x y m n=>Ns.at n λo e=>kp a o e (λz=>(I.sep a z).1 x) y
 refine⟨⟨S,λa o e=>kp a o (I.kc a o e) (λm=>aH (I.so.fresh a m) e) λq=>aH c.lf (q▸e),I.sep,λa x=> ?_,N⟩,⟨[],(List.append_nil _).symm⟩,λa o e x O z=>⟨x,kp a o e x λq=>z (List.mem_singleton.mpr q)⟩,λa x y=>kn a x λq=>y (List.mem_singleton.mpr q),λO O n=>n,rfl⟩
 by_cases q:a=c.L
 ·exact q▸N.imp λO=>And.left
 ·exact(I.ns a x).imp (kn a x q)
structure iM(c:Cx)(av:Pt)(a:Addr):Prop where
 n:av.s.heap.get? a=none
 h:c.hc.get? a=none
 f:a∉c.F
 l:a≠c.L
theorem Inv.free(I:Inv c J Z P)(e:P.s.heap.get? a=none):iM c P a:=let n:=I.new e;⟨e,n.1,n.2.2.1,n.2.2.2⟩
theorem Inv.foreign(I:Inv c J Z P)(A:To c av P)(hn:∀a∈W,iM c av a)(hm:∀a∈W,a∉P.Y)(hs:∀a∈W,∀o,P.s.heap.get? a=some o->¬dY o)
  (kp:∀a o,a∉W->P.s.heap.get? a=some o->h'.get? a=some o):Inv c J Z (P.at P.Y h' t)/\To c av (P.at P.Y h' t)/\Later P.s.heap P.Y h' P.Y:=by
 have la:∀a o,P.s.heap.get? a=some o->dY o->h'.get? a=some o:=λa o e s=>kp a o (λw=>hs a w o e s) e
 have nw:∀a o,av.s.heap.get? a=some o->a∉W:=λa o e w=>aH (hn a w).n e
 have kn:∀a,a∉W->∀m,P.s.heap.Ns a m->h'.Ns a m:=λa w m n=>Ns.at n λo e=>kp a o w e
 have OM:Later P.s.heap P.Y h' P.Y:=⟨la,[],(List.append_nil _).symm⟩
 refine⟨⟨I.so.move la λa m o e=>kp a o (λw=>hm a w m) e,λa o e=>kp a o (λw=>aH (hn a w).h e) (I.kc a o e),I.sep,λa x=>(I.ns a x).imp (kn a λw=>(hn a w).f x),I.loc.imp λm=>And.imp (kn _ (λw=>(hn _ w).l rfl) m) λhl i x p hx hp=>(hl i x p hx hp).imp λv=>And.imp_right (VR.later OM)⟩,
  ⟨A.pre,λa o e x y z=>let q:=A.keep a o e x y z;⟨q.1,kp a o (nw a o e) q.2⟩,λa x y m n=>kn a (λw=>(hn a w).f x) m (A.ns a x y m n),A.off,congrArg (λs:Shared=>{s with heap:=h',toks:=t}) A.same⟩,OM⟩
end
inductive oP(c:Cx)(X:List Addr)(af:ae)(P:Pt):Value->Shared->Prop
 |mk (e:Addr) (gg:List Addr) (hb h':Heap) (t':Nat) (a0:Value) (fl:Heap.FlyingW hb c.fr e (.ref (bT 2)) a0 h') (so:cx c.toBs af gg hb) (pre:∃ν,gg=P.Y++ν)
  (keep:∀a o,P.s.heap.get? a=some o->a∉P.Y->a∉c.F->a∉X->a∉gg/\hb.get? a=some o) (ns:∀a∈c.F,a∉X->∀m,P.s.heap.Ns a m->h'.Ns a m) (off:∀a,a∈c.F\/a∈X->a∉P.Y->a∉gg):
  oP c X af P (.ref e) {P.s with heap:=h',toks:=t'}
inductive oQ(c:Cx)(af:ae)(P:Pt):Value->Shared->Prop
 |mk (e:Addr) (oe:Obj) (vs:Array Value) (a0:Value) (P':Pt) (g1:P'.s.heap.get? e=some oe) (g2:oe.cls=.ref (bT 2)) (g3:oe.data=.fields vs) (g4:vs[1]? =some .none) (g5:vs[0]? =some a0)
  (A:To c P P') (I:Inv c [] af P') (g6:∀o,P.s.heap.get? e=some o->e∈P.Y\/e∈c.F\/e∈[c.L]):oQ c af P (.ref e) P'.s
noncomputable def zi(c:Cx)(E:Value->Shared->Prop)(P:Pt)(af:ae):Ex->Prop
 |.hZ=>∀x s',oP c [c.L] af P x s'->E x s'
 |.fresh=>∀x s',oQ c af P x s'->E x s'
structure eU(c:Cx)(β:Type) where
 k:β->ae->Pt->Prop
 up:∀b Z P P',To c P P'->k b Z P->k b Z P'
noncomputable def Fo{c:Cx}{β:Type}(E:Value->Shared->Prop)(K:eU c β)(P:Pt):Out β->Prop
 |none=>False
 |some r=>match r.1 with
  |.ok b=>K.k b r.2 P
  |.error e=>zi c E P r.2 e
noncomputable def bH(c:Cx)(J:Loc){α β:Type}(R:Pt->β->α->Prop)(Q:α->Shared->Prop):eU c β where
 k b Z P:=∀P' a,To c P P'->Inv c J Z P'->R P' b a->Q a P'.s
 up _ _ _ _ A h P' a B:=h P' a (A.trans B)
section
variable{c:Cx}{α β γ:Type}{E:Value->Shared->Prop}{J:Loc}{Z af:ae}{P P':Pt}{K:eU c β}{G:eU c γ}{m:Out α}{R:Pt->α->γ->Prop}{t:Nat}
theorem oP.trans{x:Value}{s':Shared}(A:To c P P')(y:oP c [c.L] af P' x s'):oP c [c.L] af P x s':=by
 obtain ⟨e,gg,hb,h',t',a0,fl,so,pre,keep,ns,off⟩:=y
 rw[A.same]
 exact⟨e,gg,hb,h',t',a0,fl,so,A.pre.elim λν e=>pre.elim λB4 e'=>⟨ν++B4,by rw[e',e,List.append_assoc]⟩,λa o e x y z=>let q:=A.keep a o e x y z;keep a o q.2 q.1 y z,λa x y m n=>ns a x y m (A.ns a x y m n),λa x n=>off a x (A.off a x n)⟩
theorem oQ.trans{x:Value}{s':Shared}(A:To c P P')(y:oQ c af P' x s'):oQ c af P x s':=by
 obtain ⟨e,oe,vs,a0,tK,g1,g2,g3,g4,g5,B,I,g6⟩:=y
 refine⟨e,oe,vs,a0,tK,g1,g2,g3,g4,g5,A.trans B,I,λo q=> ?_⟩
 by_cases h:e∈P.Y\/e∈c.F\/e∈[c.L]
 ·exact h
 ·have h:=not_or.mp h
  have k:=A.keep e o q h.1 (λz=>h.2 (.inl z)) λz=>h.2 (.inr z)
  exact .inr ((g6 o k.2).resolve_left k.1)
theorem zi.up{e:Ex}(A:To c P P')(h:zi c E P af e):zi c E P' af e:=by
 cases e with
 |hZ=>exact λx s' y=>h x s' (y.trans A)
 |fresh=>exact λx s' y=>h x s' (y.trans A)
theorem Fo.up{o:Out β}(A:To c P P')(F:Fo E K P o):Fo E K P' o:=by
 cases o with
 |none=>exact F
 |some r=>
  obtain ⟨r,af⟩:=r
  cases r with
  |ok b=>exact K.up b af P P' A F
  |error e=>exact zi.up A F
theorem Fo.bind{m:Out γ}{k:γ->ae->Out β}(F:Fo E K P (au m k))(h:∀b af,Fo E K P (k b af)->G.k b af P):Fo E G P m:=by
 cases m with
 |none=>exact F
 |some r=>
  obtain ⟨r,af⟩:=r
  cases r with
  |ok b=>exact h b af F
  |error e=>exact F
theorem Fo.aX{c':Cx}{G:eU c' γ}{m:Out γ}{k:γ->ae->Out β}(F:Fo E K P (aX m k))(h:∀b af,Fo E K P (k b af)->G.k b af P'){E':Value->Shared->Prop}:Fo E' G P' m:=by
 cases m with
 |none=>exact F
 |some r=>
  obtain ⟨r,af⟩:=r
  cases r with
  |ok b=>exact h b af F
  |error e=>exact F.elim
theorem Fo.au{R:Pt->γ->α->Prop}{Q:α->Shared->Prop}{m:Out γ}{k:γ->ae->Out β}(F:Fo E K P (au m k))(h:∀b af P' a,To c P P'->Inv c J af P'->R P' b a->Fo E K P' (k b af)->Q a P'.s):Fo E (bH c J R Q) P m:=
 F.bind λb af F P' a A I r=>h b af P' a A I r (F.up A)
variable{Q:α->Shared->Prop}{R:Pt->β->α->Prop}{b:β}{a:α}{o:Option β}{h':Heap}{d:MO}{ad:Addr}
theorem Fo.ok(F:Fo E (bH c J R Q) P (some (.ok b,af)))(x:Inv c J af P'/\To c P P')(r:R P' b a):Q a P'.s:=F P' a x.2 x.1 r
theorem Fo.here(F:Fo E (bH c J R Q) P (some (.ok b,Z)))(I:Inv c J Z P)(r:R (P.tok t) b a):Q a {P.s with toks:=t}:=F.ok (P':=P.tok t) (I.sub λO O e=>e) r
theorem Fo.same(F:Fo E (bH c J R Q) P (some (.ok b,Z)))(I:Inv c J Z P)(r:R P b a):Q a P.s:=F P a .refl I r
variable{η:Type}{M:Prop}{q:Bool}
theorem Fo.om{o:Out β}(F:Fo E K P (az q o)):q=true/\Fo E K P o:=by
 cases q with
 |true=>exact⟨rfl,F⟩
 |false=>exact F.elim
theorem Fo.lm{o:Option (β×ae)}(F:Fo E K P (lift (az q o))):q=true/\Fo E K P (lift o):=by
 cases q with
 |true=>exact⟨rfl,F⟩
 |false=>exact F.elim
theorem Fo.rm{o:Option β}(F:Fo E K P (read Z (az q o))):q=true/\Fo E K P (read Z o):=by
 cases q with
 |true=>exact⟨rfl,F⟩
 |false=>exact F.elim
theorem Fo.ob{o:Option η}{f:η->Out β}(F:Fo E K P (o.bind f))(h:∀a,o=some a->Fo E K P (f a)->M):M:=by
 cases o with
 |none=>exact F.elim
 |some a=>exact h a rfl F
theorem Fo.lb{o:Option η}{f:η->Option (β×ae)}(F:Fo E K P (lift (o.bind f)))(h:∀a,o=some a->Fo E K P (lift (f a))->M):M:=by
 cases o with
 |none=>exact F.elim
 |some a=>exact h a rfl F
theorem Fo.rb{o:Option η}{f:η->Option β}(F:Fo E K P (read Z (o.bind f)))(h:∀a,o=some a->Fo E K P (read Z (f a))->M):M:=by
 cases o with
 |none=>exact F.elim
 |some a=>exact h a rfl F
theorem Fo.rd{o:Option β}(F:Fo E K P (read Z o))(h:∀a,o=some a->Fo E K P (some (.ok a,Z))->M):M:=by
 cases o with
 |none=>exact F.elim
 |some a=>exact h a rfl F
theorem bm{o:Option η}{f:η->Option β}{b:β}(e:o.bind f=some b)(h:∀a,o=some a->f a=some b->M):M:=by
 cases o with
 |none=>exact nomatch e
 |some a=>exact h a rfl e
theorem mm{o:Option β}{b:β}(e:az q o=some b):q=true/\o=some b:=by
 cases q with
 |true=>exact⟨rfl,e⟩
 |false=>exact nomatch e
end
noncomputable abbrev Cx.W(c:Cx)(A:Around){α:Type}(m:Sem α)(Q:α->Shared->Prop)(E:Value->Shared->Prop)(s:Shared):Prop:=wpAny (model c.prog c.w) A m Q E s
structure ry(c:Cx)(A:Around)(env:Env)(n k:Nat):Prop where
 kf:env.scope.kind=.function
 gl:env.globals=3
 bi:env.builtins=0
 lo:env.locals=c.L
 kl:∀(i:Nat)(x:Str),c.locs[i]? =some x->env.kindOf x=some .local
 nd:c.locs.Nodup
 fr:A.frames=some c.fr
 hn:A.handled=none
 dp:A.depth+8*n+k<=704
 hu:A.units+16*n+k<=3008
structure Tops(b:Bs) where
 mg:Str->Option Value
 mb:Str->Option Value
 ng:b.hc.Ns 3 mg
 nb:b.hc.Ns 0 mb
structure Gx where
 c:Cx
 A:Around
 env:Env
 cf:Nat->List PV->ae->Out PV
 gl:Nat->PV
 n:Nat
 k:Nat
 T:Tops c.toBs
 hY:ry c A env n k
theorem Gx.hu(G:Gx):G.A.units<=3900:=Nat.le_trans (Nat.le_trans (Nat.le_add_right _ _) (Nat.le_trans (Nat.le_add_right _ _) G.hY.hu)) (by decide)
noncomputable def aJ(G:Gx)(e:PySem.Expr)(m:ME):Prop:=∀(J:Loc)(Z:ae)(P:Pt)(Q:Value->Shared->Prop)(E:Value->Shared->Prop),
 Inv G.c J Z P->Fo E (bH G.c J (Vl G.c) Q) P (ag G.cf G.gl m J Z)->G.c.W G.A (eval e G.env) Q E P.s
noncomputable def jB(m:Out PV):Out Bool:=au m λv Z=>read Z (truth Z v)
noncomputable def dw(G:Gx)(e:PySem.Expr)(m:ME):Prop:=∀(J:Loc)(Z:ae)(P:Pt)(Q:Bool->Shared->Prop)(E:Value->Shared->Prop),
 Inv G.c J Z P->Fo E (bH G.c J (λO=>Eq) Q) P (jB (ag G.cf G.gl m J Z))->G.c.W G.A (isTrue e G.env (eval e G.env)) Q E P.s
noncomputable def oR(G:Gx)(es:List (Bool×Sem Value))(ms:bO):Prop:=∀(J:Loc)(Z:ae)(P:Pt)(Q:List Value->Shared->Prop)(E:Value->Shared->Prop),
 Inv G.c J Z P->Fo E (bH G.c J (b4 G.c) Q) P (bg G.cf G.gl ms J Z)->G.c.W G.A (spliced es) Q E P.s
section
variable{G:Gx}{J:Loc}{Z:ae}{P:Pt}{E:Value->Shared->Prop}{β:Type}{K:eU G.c β}
theorem aJ.go{e:PySem.Expr}{m:ME}(S:aJ G e m){Q:Value->Shared->Prop}{k:PV->ae->Out β}(I:Inv G.c J Z P)(F:Fo E K P (au (ag G.cf G.gl m J Z) k))
  (h:∀p af P' v,To G.c P P'->Inv G.c J af P'->Vl G.c P' p v->Fo E K P' (k p af)->Q v P'.s):G.c.W G.A (eval e G.env) Q E P.s:=S J Z P Q E I (F.au h)
theorem oR.go{es:List (Bool×Sem Value)}{ms:bO}(S:oR G es ms){Q:List Value->Shared->Prop}{k:List PV->ae->Out β}(I:Inv G.c J Z P)(F:Fo E K P (au (bg G.cf G.gl ms J Z) k))
  (h:∀p af P' v,To G.c P P'->Inv G.c J af P'->b4 G.c P' p v->Fo E K P' (k p af)->Q v P'.s):G.c.W G.A (spliced es) Q E P.s:=S J Z P Q E I (F.au h)
theorem B8:oR G [] .nil:=λO O O O O I F=>spliced_nil (F.same I ay.nil)
theorem As{e:PySem.Expr}{m:ME}{es:List (Bool×Sem Value)}{ms:bO}(a:aJ G e m)(b:oR G es ms):oR G ((false,eval e G.env)::es) (.cons m ms):=
 λO O O O O I F=>spliced_cons (a.go I F λO O O O O aD EF aL=>b.go aD aL λO O O O cH bI EG bN=>bN.same bI (ay.cons (EF.to aD cH) EG))
end
end FR
namespace FR
open PySem PySem.W PySem.Calls PyProof.Rows PySem.SeqAt
noncomputable def zj:pF->Operator
 |.add=>.Add | .sub=>.Sub | .mul=>.Mult | .mod=>.Mod | .fdiv=>.FloorDiv | .band=>.BitAnd | .bor=>.BitOr | .shl=>.LShift | .shr=>.RShift
noncomputable def vU:Cm->CmpOp
 |.eq=>.Eq | .ne=>.NotEq | .lt=>.Lt | .le=>.LtE | .gt=>.Gt | .ge=>.GtE | .isin=>.In | .fk=>.NotIn | .is=>.Is
theorem dF{n:Nat}(h:n<=65537):n<=sizeLine:=Nat.le_trans h (by decide)
theorem eA{α:Type}{l:List α}(h:fits l=true):l.length<=65536:=of_decide_eq_true h
theorem aw{a b:Bool}(h:(a&&b)=true):a=true/\b=true:=⟨(Bool.and_eq_true_iff.mp h).1,(Bool.and_eq_true_iff.mp h).2⟩
structure Small(i:Int):Prop where
 lo: -(2 ^ 63)<=i
 hi:i<2 ^ 63
 bits:Builtin.Int.intBits i<=64
 abs:i.natAbs<2 ^ 64
 JY: -(2 ^ 62)<i
 JZ:i<2 ^ 62
theorem dy{i:Int}(h:small i=true):Small i:=by
 have h:=aw h
 have a:=of_decide_eq_true h.1
 have b:=of_decide_eq_true h.2
 exact⟨by omega,by omega,intBits_le_64 (by omega) (by omega),by omega,by omega,by omega⟩
theorem fD{y:PV}{j:Int}(e:bw y=some j):y=.int j:=by
 cases y with
 |int _=>exact congrArg _ (Option.some.inj e)
 |_=>exact(aH rfl e).elim
theorem dZ{y:PV}{l:List PV}(e:di y=some l):y=.tup l:=by
 cases y with
 |tup _=>exact congrArg _ (Option.some.inj e)
 |_=>exact(aH rfl e).elim
theorem nI{y:PV}{l:List Nat}(e:uW y=some l):y=.str l:=by
 cases y with
 |str _=>exact congrArg _ (Option.some.inj e)
 |_=>exact(aH rfl e).elim
theorem kE{y:PV}{l:Nat}(e:oM y=some l):y=.ref l:=by
 cases y with
 |ref _=>exact congrArg _ (Option.some.inj e)
 |_=>exact(aH rfl e).elim
theorem rz{y:PV}{u:Unit}(e:lp y=some u):y=.none:=by
 cases y with
 |none=>rfl
 |_=>exact(aH rfl e).elim
theorem rA{y:PV}{q:Nat×Nat}(e:vw y=some q):y=.inst q.1 q.2:=by
 cases y with
 |inst _ _=>exact congrArg (λq:Nat×Nat=>PV.inst q.1 q.2) (Option.some.inj e)
 |_=>exact(aH rfl e).elim
theorem fZ{o:MO}{l:List PV}(e:cL o=some l):o=.list l:=by
 cases o with
 |list _=>exact congrArg _ (Option.some.inj e)
 |_=>exact(aH rfl e).elim
theorem mr{o:MO}{q:KK×List (Key×PV)}(e:iZ o=some q):o=.dict q.1 q.2:=by
 cases o with
 |dict _ _=>exact congrArg (λq:KK×List (Key×PV)=>MO.dict q.1 q.2) (Option.some.inj e)
 |_=>exact(aH rfl e).elim
theorem pJ{o:MO}{r:Option PV}(e:lq o=some r):o=.attrs r:=by
 cases o with
 |attrs _=>exact congrArg _ (Option.some.inj e)
 |_=>exact(aH rfl e).elim
theorem vV{k:KK}{u:Unit}(e:intD k=some u):k=.int:=by
 cases k<;>first | rfl | cases e
section
variable{c:Cx}{A:Around}{E:Value->Shared->Prop}{J:Loc}{Z af:ae}{P:Pt}{va vb v:Value}{x y p:PV}{Q:Value->Shared->Prop}{M:Value->Prop}{l:List PV}{i:Nat}{o:MO}
@[elab_as_elim] theorem Vl.int{j:Int}(e:bw y=some j)(W:Vl c P y v)(k:∀t,M (.int j t)):M v:=by cases fD e;exact VR.jq W k
@[elab_as_elim] theorem Vl.str{j:List Nat}(e:uW y=some j)(W:Vl c P y v)(k:∀t,M (.str ⟨j.toArray⟩ t)):M v:=by cases nI e;exact VR.sI W k
@[elab_as_elim] theorem Vl.tup(e:di y=some l)(W:Vl c P y v)(k:∀a xs n,P.s.heap.get? a=some (l8 xs n)->b4 c P l xs.toList->M (.ref a)):M v:=by cases dZ e;exact VR.d8 W k
@[elab_as_elim] theorem Vl.ref(I:Inv c J Z P)(W:Vl c P (.ref i) v)(e:aj Z i=some o)(k:∀a,P.Y[i]? =some a->MR c.toBs P.s.heap P.Y a o->M (.ref a)):M v:=VR.Ez W λa ea=>k a ea (I.so.at e ea)
theorem Au(e:listOf Z y=some l):∃i,y=.ref i/\aj Z i=some (.list l):=by
 cases y with
 |ref i=>exact bm e λo q e=>⟨i,rfl,q.trans (congrArg _ (fZ e))⟩
 |_=>cases e
@[elab_as_elim] theorem Vl.list(e:listOf Z y=some l)(I:Inv c J Z P)(W:Vl c P y v)(k:∀a xs n,P.s.heap.get? a=some (gI xs n)->b4 c P l xs.toList->M (.ref a)):M v:=
by
 obtain ⟨i,rfl,q⟩:=Au e
 exact Vl.ref I W q λa O m=>m.elim λxs m=>m.elim λn m=>k a xs n m.1 m.2
theorem b4.size{xs:Array Value}(V:b4 c P l xs.toList):xs.size=l.length:=V.length
theorem sT(I:Inv c J Z P){vs:List Value}(V:b4 c P l vs)(F:Fo E (bH c J (Vl c) Q) P (some (.ok (.tup l),Z))){t:Tok}:
  Q (.ref P.s.heap.objs.size) {P.s with heap:=P.s.heap.push {cls:=.type "tuple",data:=.seq vs.toArray},toks:=t}:=
 have k:Sub P.s.heap (P.s.heap.push {cls:=.type "tuple",data:=.seq vs.toArray}):=λO O e=>Heap.get?_push_of_some _ e
 F.ok (I.sub k (t:=t)) (VR.pY (xs:=vs.toArray) (n:=0) (Heap.get?_push_size _ rfl) (ay.later (.sub k) V))
theorem b5(h:Heap):h.get? h.objs.size=none:=Heap.get?_none_of_le (Nat.le_refl _)
theorem nJ(I:Inv c J Z P){a:Addr}:(P.Y++[a])[Z.length]? =some a:=by rw[<-I.so.ml];exact List.getElem?_concat_length
theorem qg(I:Inv c J Z P){vs:List Value}(V:b4 c P l vs)(F:Fo E (bH c J (Vl c) Q) P (some (.ok (.ref Z.length),Z++[.list l]))){t:Tok}:
  Q (.ref P.s.heap.objs.size) {P.s with heap:=P.s.heap.push {cls:=.type "list",data:=.seq vs.toArray},toks:=t}:=
 have k:Sub P.s.heap (P.s.heap.push {cls:=.type "list",data:=.seq vs.toArray}):=λO O e=>Heap.get?_push_of_some _ e
 F.ok (I.push k (b5 _) ⟨vs.toArray,0,Heap.get?_push_size _ rfl,ay.later (.lz k _) V⟩ (t:=t)) (VR.md (nJ I))
theorem Fo.gC{β η:Type}{K:eU c β}{q:Bool}{o:Option η}{f:η->Option (β×ae)}(F:Fo E K P (lift ((az q o).bind f))):q=true/\Fo E K P (lift (o.bind f)):=by
 cases q with
 |true=>exact⟨rfl,F⟩
 |false=>exact F.elim
theorem H7{o:pF}{i j:Int}{t u:Tok}(I:Inv c J Z P)(F:Fo E (bH c J (Vl c) Q) P (lift ((gB o i j).bind λz=>some (.int z,Z)))):c.W A (binaryOp (zj o) (.int i t) (.int j u)) Q E P.s:=by
 have ok:∀{z:Int}{t t':Tok},Fo E (bH c J (Vl c) Q) P (some (.ok (.int z),Z))->Q (.int z t) {P.s with toks:=t'}:=λF=>F.here I (VR.l9 _ _)
 cases o with
 |add=>exact add_int (ok F)
 |sub=>exact sub_int (ok F)
 |mul=>exact mul_int (ok (Fo.gC F).2) (.of_left (dy (Fo.gC F).1).bits)
 |mod=>exact mod_int' (of_decide_eq_true (Fo.gC F).1) (ok (Fo.gC F).2)
 |fdiv=>exact floordiv_int (of_decide_eq_true (Fo.gC F).1) (ok (Fo.gC (Fo.gC F).2).2) (.inl (PyProof.noPylong_small (of_decide_eq_true (Fo.gC (Fo.gC F).2).1)))
 |band=>exact and_int (ok F)
 |bor=>exact or_int (ok F)
 |shl=>exact lshift_int_small (of_decide_eq_true (Fo.gC (Fo.gC F).2).1) (Int.le_trans (of_decide_eq_true (Fo.gC (Fo.gC (Fo.gC F).2).2).1) (by decide)) (dy (Fo.gC F).1).abs (ok (Fo.gC (Fo.gC (Fo.gC F).2).2).2)
 |shr=>exact rshift_int (of_decide_eq_true (Fo.gC F).1) (ok (Fo.gC (Fo.gC F).2).2)
theorem H8{l k:List PV}(I:Inv c J Z P)(V:Vl c P (.tup l) va)(W:Vl c P (.tup k) vb)(hf:fits (l++k)=true)(F:Fo E (bH c J (Vl c) Q) P (some (.ok (.tup (l++k)),Z))):
  c.W A (binaryOp .Add va vb) Q E P.s:=by
 revert V W
 refine λV=>VR.d8 (M:=λva=>Vl c P (.tup k) vb->c.W A (binaryOp .Add va vb) Q E P.s) V λt xs n ho V0=>λW=>VR.d8 (M:=λvb=>c.W A (binaryOp .Add (.ref t) vb) Q E P.s) W λb ys n2 tR W0=> ?_
 have eK:xs.size+ys.size<=sizeLine:=dF (by rw[b4.size V0,b4.size W0,<-List.length_append];exact Nat.le_succ_of_le (eA hf))
 have go:=λ{S} g h=>concat_meets (prog:=c.prog) (w:=c.w) (A:=A) (s:=P.s) (a:=.ref t) (b:=.ref b) (T:="tuple") (Q:=Q) (E:=E) (S:=S) ⟨_,ho,rfl⟩ ⟨_,tR,rfl⟩ noFill_tuple_add seq_tuple_add PySem.F.slot_tuple_add PySem.F.entry_tuple_add (PySem.F.args_tuple_add_2 _ _) g h
 have tS:∀{zs:Array Value},zs.toList=[]->zs.isEmpty=true:=λe=>Array.isEmpty_iff.mpr (Array.toList_eq_nil_iff.mp e)
 have nE:∀{zs:Array Value},zs.toList≠[]->¬zs.isEmpty=true:=λe h=>e (Array.toList_eq_nil_iff.mpr (Array.isEmpty_iff.mp h))
 by_cases hv:xs.toList=[]
 ·refine go (tuple_addW0 t b xs ys n n2 none none #[] #[] (tS hv)) ⟨ho,tR,F.same I ?_⟩
  rw[List.eq_nil_of_length_eq_zero ((ay.length V0).symm.trans (congrArg List.length hv))]
  exact VR.pY tR W0
 ·by_cases hw:ys.toList=[]
  ·refine go (tuple_addW1 t b xs ys n n2 none none #[] #[] (nE hv) (tS hw)) ⟨ho,tR,F.same I ?_⟩
   rw[List.eq_nil_of_length_eq_zero ((ay.length W0).symm.trans (congrArg List.length hw)),List.append_nil]
   exact VR.pY ho V0
  ·refine go (tuple_addW2 t b xs ys n n2 none none #[] #[] (nE hv) (nE hw) eK) ⟨ho,tR,?_⟩
   rw[<-Array.toArray_toList (xs:=xs++ys),Array.toList_append]
   exact sT I (ay.append V0 W0) F (t:=P.s.toks)
theorem EH{l k:List PV}(I:Inv c J Z P)(V:Vl c P x va)(W:Vl c P y vb)(hi:listOf Z x=some l)(hj:listOf Z y=some k)(hf:fits (l++k)=true)(F:Fo E (bH c J (Vl c) Q) P (some (.ok (.ref Z.length),Z++[.list (l++k)]))):
  c.W A (binaryOp .Add va vb) Q E P.s:=by
 refine Vl.list (M:=λva=>c.W A (binaryOp .Add va vb) Q E P.s) hi I V λt xs n ho V=>Vl.list (M:=λvb=>c.W A (binaryOp .Add (.ref t) vb) Q E P.s) hj I W λb ys n2 tR W=> ?_
 have eK:xs.size+ys.size<=sizeLine:=dF (by rw[V.size,W.size,<-List.length_append];exact Nat.le_succ_of_le (eA hf))
 refine concat_meets ⟨_,ho,rfl⟩ ⟨_,tR,rfl⟩ noFill_list_add seq_list_add PySem.F.slot_list_add PySem.F.entry_list_add (PySem.F.args_list_add_2 _ _) (list_addW t b xs ys n n2 none none #[] #[] eK) ⟨ho,tR,?_⟩
 rw[<-Array.toArray_toList (xs:=xs++ys),Array.toList_append]
 exact qg I (ay.append V W) F (t:=P.s.toks)
theorem B9{o:pF}(I:Inv c J Z P)(V:Vl c P x va)(W:Vl c P y vb)(F:Fo E (bH c J (Vl c) Q) P (lift (binop o x y Z))):c.W A (binaryOp (zj o) va vb) Q E P.s:=by
 cases x with
 |int i=>exact F.lb λj e F=>Vl.int (M:=λvb=>c.W A (binaryOp (zj o) va vb) Q E P.s) e W λu=>VR.jq (M:=λva=>c.W A (binaryOp (zj o) va (.int j u)) Q E P.s) V λt=>H7 I F
 |tup l=>
  have F:=F.lm
  cases of_decide_eq_true F.1
  exact F.2.lb λk e F=>H8 I V (dZ e▸W) F.lm.1 F.lm.2
 |ref i=>
  have F:=F.lm
  cases of_decide_eq_true F.1
  exact F.2.lb λl e1 F=>F.lb λk e2 F=>EH I V W e1 e2 F.lm.1 F.lm.2
 |_=>exact F.elim
end
noncomputable def Lk(b:Bs)(h:Heap)(Y:List Addr)(o:Option PV)(q:Option Value):Prop:=match o with
 |some p=>∃v,q=some v/\VR b h Y p v
 |none=>q=none
section
variable{b:Bs}{h:Heap}{Y:List Addr}{p:PV}{v:Value}{k:Int}{es:List (Key×PV)}{aM:List (Int×Value)}{xs:List (List K1×Addr×Value)}{l:List K1}{vs:List PV}{ws:List Value}{o:Option PV}{q:Option Value}
theorem Lk.getD{d:PV}{u:Value}(x:Lk b h Y o q)(V:VR b h Y d u):VR b h Y (o.getD d) (q.getD u):=by
 cases o with
 |none=>rw[show q=none from x];exact V
 |some p=>exact x.elim λv x=>x.1▸x.2
theorem Lk.isSome(x:Lk b h Y o q):q.isSome=o.isSome:=by
 cases o with
 |none=>rw[show q=none from x];rfl
 |some p=>exact x.elim λv x=>x.1▸rfl
theorem Lk.some{p:PV}(x:Lk b h Y o q)(e:o=some p):∃v,q=some v/\VR b h Y p v:=by cases e;exact x
theorem vW(V:ay b h Y vs (aM.map (·.2))):Lk b h Y (l5 (aM.map (·.1)) vs k) (valueAt aM k):=by
 induction aM generalizing vs with
 |nil=>exact rfl
 |cons kv aM ih=>cases vs with
  |nil=>exact V.elim
  |cons q vs=>
   show Lk b h Y (if kv.1=k then Option.some q else l5 (aM.map (·.1)) vs k) (((kv::aM).find? λx=>decide (x.1=k)).map (·.2))
   rw[List.find?_cons]
   by_cases hk:kv.1=k
   ·rw[if_pos hk,decide_eq_true hk];exact⟨kv.2,rfl,V.1⟩
   ·rw[if_neg hk,decide_eq_false hk];exact ih V.2
theorem kF(e:es.map (·.1)=aM.map (λx=>Key.int x.1))(V:ay b h Y (es.map (·.2)) (aM.map (·.2))):Lk b h Y (aT es (.int k)) (valueAt aM k):=by
 induction aM generalizing es with
 |nil=>cases List.map_eq_nil_iff.mp e;exact rfl
 |cons kv aM ih=>cases es with
  |nil=>exact nomatch e
  |cons q es=>
   have e:=List.cons.inj e
   show Lk b h Y (if q.1=.int k then Option.some q.2 else aT es (.int k)) (((kv::aM).find? λx=>decide (x.1=k)).map (·.2))
   rw[List.find?_cons,show q.1=Key.int kv.1 from e.1]
   by_cases hk:kv.1=k
   ·rw[if_pos (congrArg _ hk),decide_eq_true hk];exact⟨kv.2,rfl,V.1⟩
   ·rw[if_neg λz=>hk (Key.int.noConfusion z id),decide_eq_false hk];exact ih e.2 V.2
theorem nK(e:es.map (·.1)=xs.map (λx=>Key.tup x.1))(V:ay b h Y (es.map (·.2)) (xs.map (·.2.2))):Lk b h Y (aT es (.tup l)) ((atKey xs l).map (·.2)):=by
 induction xs generalizing es with
 |nil=>cases List.map_eq_nil_iff.mp e;exact rfl
 |cons kv aM ih=>cases es with
  |nil=>exact nomatch e
  |cons q es=>
   have e:=List.cons.inj e
   show Lk b h Y (if q.1=.tup l then Option.some q.2 else aT es (.tup l)) ((((kv::aM).find? λx=>decide (x.1=l)).map (·.2)).map (·.2))
   rw[List.find?_cons,show q.1=Key.tup kv.1 from e.1]
   by_cases hk:kv.1=l
   ·rw[if_pos (congrArg _ hk),decide_eq_true hk];exact⟨kv.2.2,rfl,V.1⟩
   ·rw[if_neg λz=>hk (Key.tup.noConfusion z id),decide_eq_false hk];exact ih e.2 V.2
theorem Av{l:List PV}{is:List Int}(V:ay b h Y l ws)(e:ints? l=some is):ItemsAre (intKind b.prog b.w) is ws:=by
 induction l generalizing is ws with
 |nil=>cases e;exact V.elim0 .nil
 |cons p l ih=>
  refine bm e λi e1 e'=>bm e' λjs e2 e3=> ?_
  cases fD e1;cases e3
  exact V.cI λv vs a c=>VR.jq (M:=λv=>ItemsAre _ (i::js) (v::vs)) a λt=>.cons (by simp [intKind,Value.isInt]) (ih c e2)
theorem H9{t:KT}{k:K1}(V:VR b h Y p v)(e:JM t p=some k):kd k=t/\ie b.prog b.w h k v:=by
 cases t with
 |i=>exact bm e λx e1 e2=>by cases fD e1;cases e2;exact⟨rfl,V⟩
 |s=>exact bm e λx e1 e2=>by cases nI e1;cases e2;exact⟨rfl,V⟩
 |n=>
  refine bm e λx e1 e'=>bm e' λis e2 e3=> ?_
  cases dZ e1;cases e3
  exact⟨rfl,VR.d8 V λa xs n g V=>⟨a,rfl,_,xs,n,g,rfl,rfl,Av V e2⟩⟩
theorem EI{ts:List KT}{l:List PV}{ks:List K1}(V:ay b h Y l ws)(e:Ab ts l=some ks):ks.map kd=ts/\eO b.prog b.w h ks ws:=by
 induction ts generalizing l ks ws with
 |nil=>cases l with
  |nil=>cases e;exact⟨rfl,ay.elim0 (M:=λvs=>vs=[]) V rfl⟩
  |cons _ _=>exact nomatch e
 |cons t ts ih=>cases l with
  |nil=>exact nomatch e
  |cons p l=>
   refine bm e λk e1 e'=>bm e' λks e2 e3=> ?_
   cases e3
   exact V.cI λv vs a c=>let q:=H9 a e1;let r:=ih c e2;⟨by rw[List.map_cons,q.1,r.1],v,vs,rfl,q.2,r.2⟩
theorem isInt_self(i:Int)(t:Tok){prog:Program}{w:World}:(intKind prog w).is i (.int i t)=true:=by simp [intKind,Value.isInt]
end
section
variable{c:Cx}{A:Around}{E:Value->Shared->Prop}{J:Loc}{Z af:ae}{P:Pt}{va vb v:Value}{x y p:PV}{Q:Value->Shared->Prop}{M:Value->Prop}{l:List PV}{k:Key}
@[elab_as_elim] theorem Vl.Aw{M:Key->Value->Prop}(e:toKey .int y=some k)(W:Vl c P y v)(m:∀i t,M (.int i) (.int i t)):M k v:=
by
 refine bm e λi e1 e2=> ?_
 cases fD e1;cases e2;exact VR.jq (M:=λv=>M (.int i) v) W λt=>m i t
@[elab_as_elim] theorem Vl.Ax{M:Key->Value->Prop}{ts:List KT}(e:toKey (.tup ts) y=some k)(W:Vl c P y v)(m:∀ks a,hM c.prog c.w ts P.s.heap ks a->M (.tup ks) (.ref a)):M k v:=
by
 refine bm e λl e1 e'=>bm e' λks e2 e3=> ?_
 cases dZ e1;cases e3
 exact VR.d8 (M:=λv=>M (.tup ks) v) W λa xs n g V=>let q:=EI V e2;m ks a ⟨q.1,_,xs,n,g,rfl,rfl,q.2⟩
theorem UK(hu:A.units<=3900)(ts:List KT):(l7 c.prog c.w ts).room A:=Nat.lt_of_le_of_lt (Nat.succ_le_succ hu) (by decide)
theorem rB(hu:A.units<=3900)(ts:List KT):(l7 c.prog c.w ts).room A.in1:=Nat.lt_of_le_of_lt (Nat.succ_le_succ (Nat.succ_le_succ hu)) (by decide)
theorem Ia{k:Int}{n j:Nat}(h:seqIndex? k n=some j)(h0:0<=k):j=k.toNat:=by
 unfold seqIndex? at h
 rw[if_neg (Int.not_lt.mpr h0)] at h
 dsimp only at h
 split at h
 ·exact(Option.some.inj h).symm
 ·cases h
theorem Ib{k:Int}{n j:Nat}(h:seqIndex? k n=some j)(h0:k<0):j=(k+n).toNat/\ -(n:Int)<=k:=by
 unfold seqIndex? at h
 rw[if_pos h0] at h
 dsimp only at h
 split at h
 ·rename_i q
  have q:=of_decide_eq_true (aw q).1
  exact⟨(Option.some.inj h).symm,by omega⟩
 ·cases h
theorem yB{t:Addr}{xs:Array Value}(I:Inv c J Z P)(g:P.s.heap.IsList t xs)(V:b4 c P l xs.toList)(W:Vl c P y vb)(F:Fo E (bH c J (Vl c) Q) P (read Z (listAt l y))):c.W A (getItem (.ref t) vb) Q E P.s:=
by
 refine F.rb λk e F=>Vl.int (M:=λvb=>c.W A (getItem (.ref t) vb) Q E P.s) e W λu=>F.rm.2.rb λj q F'=>F'.rd λp e F'=> ?_
 obtain ⟨v,ev,V'⟩:=ay.get V e
 rw[Array.getElem?_toList] at ev
 have hs:=dy F.rm.1
 cases Int.lt_or_le k 0 with
 |inl h0=>
  have q':=Ib q h0
  rw[<-V.size] at q'
  exact wpAny_getItem_list_neg g h0 q'.2 hs.lo (q'.1▸ev) (F'.same I V')
 |inr h0=>exact wpAny_getItem_list g h0 hs.hi (Ia q h0▸ev) (F'.same I V')
theorem Ay{t:Addr}{xs:Array Value}(I:Inv c J Z P)(g:IsTup P.s.heap t xs)(V:b4 c P l xs.toList)(W:Vl c P y vb)(F:Fo E (bH c J (Vl c) Q) P (read Z (listAt l y))):c.W A (getItem (.ref t) vb) Q E P.s:=
by
 refine F.rb λk e F=>Vl.int (M:=λvb=>c.W A (getItem (.ref t) vb) Q E P.s) e W λu=>F.rm.2.rb λj q F'=>F'.rd λp e F'=> ?_
 obtain ⟨v,ev,V'⟩:=ay.get V e
 rw[Array.getElem?_toList] at ev
 rw[<-V.size] at q
 exact PyProof.Rows.getItem_tuple g (dy F.rm.1).lo (dy F.rm.1).hi q ev (F'.same I V')
theorem Ca(hu:A.units<=3900)(I:Inv c J Z P)(a:Addr){o:MO}(M:MR c.toBs P.s.heap P.Y a o)(W:Vl c P y vb)(F:Fo E (bH c J (Vl c) Q) P (read Z (Ac y o))):c.W A (getItem (.ref a) vb) Q E P.s:=by
 cases o with
 |list l=>exact M.elim λxs M=>M.elim λn M=>yB I ⟨_,M.1,rfl,n,rfl⟩ M.2 W F
 |dict kk es=>
  refine F.rb λk qk F'=>F'.rd λp e F2=> ?_
  revert e
  cases kk with
  |int=>exact M.elim λaM M=>Vl.Aw (M:=λk vb=>aT es k=some p->c.W A (getItem (.ref a) vb) Q E P.s) qk W λi t e=>((kF M.2.1 M.2.2).some e).elim λv e=>wpAny_getItem_of (isInt_self i t) M.1.mapOf e.1 (F2.here I e.2)
  |tup ts=>exact M.elim λxs M=>Vl.Ax (M:=λk vb=>aT es k=some p->c.W A (getItem (.ref a) vb) Q E P.s) qk W λks b K e=>((nK M.2.1 M.2.2).some e).elim λv e=>(Option.map_eq_some_iff.mp e.1).elim λq e'=>wpAny_getItem_heap (rB hu ts) K M.1 e'.1 (F2.here I (e'.2.symm▸e.2))
 |attrs r=>exact F.elim
theorem yC(hu:A.units<=3900)(I:Inv c J Z P)(V:Vl c P x va)(W:Vl c P y vb)(F:Fo E (bH c J (Vl c) Q) P (read Z (index x y Z))):c.W A (getItem va vb) Q E P.s:=by
 cases x with
 |tup l=>exact VR.d8 (M:=λva=>c.W A (getItem va vb) Q E P.s) V λa xs n g V=>Ay I ⟨_,g,rfl,n,rfl⟩ V W F
 |eM ks vs=>
  obtain ⟨a,aM,rfl,D,_,rfl,V⟩:=V
  exact F.rb λk e F=>Vl.int (M:=λvb=>c.W A (getItem (.ref a) vb) Q E P.s) e W λt=>F.rd λp e F=>((vW V).some e).elim λv e=>wpAny_getItem_of (isInt_self k t) (D.at (I.kc _)).mapOf e.1 (F.here I e.2)
 |ref r=>exact F.rb λo e F=>Vl.ref (M:=λva=>c.W A (getItem va vb) Q E P.s) I V e λa ea M=>Ca hu I a M W F
 |_=>exact F.elim
end
noncomputable def b0(v u:Value):Option Bool:=match v with
 |.int i _=>match u with
  |.int j _=>some (i == j)
  |.str _ _=>some false
  |_=>none
 |.str i _=>match u with
  |.str j _=>some (i == j)
  |.int _ _=>some false
  |_=>none
 |.bool i=>match u with
  |.bool j=>some (i == j)
  |_=>none
 |_=>none
noncomputable def Ds(f:Value->Value->Bool->Prop)(vs us:List Value)(r:Bool):Prop:=
 ∃e:Nat->Bool,(∀j v u,vs[j]? =some v->us[j]? =some u->f v u (e j))/\((List.range (min vs.length us.length)).all e&&vs.length == us.length)=r
noncomputable def D(h:Heap):Nat->Value->Value->Bool->Prop
 |0,v,u,r=>b0 v u=some r
 |n+1,v,u,r=>b0 v u=some r\/∃a b xs ys,v=.ref a/\u=.ref b/\h.IsTuple a xs/\h.IsTuple b ys/\Ds (D h n) xs.toList ys.toList r
theorem vX{e f:Nat->Bool}:∀(l:List Nat),(∀j∈l,e j=f j)->l.all e=l.all f
 |[],_=>rfl
 |j::l,h=>by rw[List.all_cons,List.all_cons,h j List.mem_cons_self,vX l λi hi=>h i (List.mem_cons_of_mem _ hi)]
theorem Cb{vs us:List Value}{j:Nat}(h:j∈List.range (min vs.length us.length)):∃v u,vs[j]? =some v/\us[j]? =some u:=
 have h:=List.mem_range.mp h
 ⟨_,_,List.getElem?_eq_getElem (Nat.lt_of_lt_of_le h (Nat.min_le_left _ _)),List.getElem?_eq_getElem (Nat.lt_of_lt_of_le h (Nat.min_le_right _ _))⟩
theorem kZ{h:Heap}{a:Addr}{xs ys:Array Value}(x:h.IsTuple a xs)(y:h.IsTuple a ys):xs=ys:=
 x.elim λo x=>y.elim λo' y=>x.2.2.elim λn e=>y.2.2.elim λm f=>by
  have q:=e.symm.trans ((congrArg Obj.data (bp x.1 y.1)).trans f)
  cases q;rfl
section
variable{f:Value->Value->Bool->Prop}{vs us:List Value}{r r':Bool}{h:Heap}
theorem Ds.fn(hf:∀v u r r',f v u r->f v u r'->r=r')(x:Ds f vs us r)(y:Ds f vs us r'):r=r':=
 x.elim λe x=>y.elim λe' y=>by
  rw[<-x.2,<-y.2,vX _ λj hj=>(Cb hj).elim λv q=>q.elim λu q=>hf v u _ _ (x.1 j v u q.1 q.2) (y.1 j v u q.1 q.2)]
theorem Ds.refl(hf:∀v r,f v v r->r=true)(x:Ds f vs vs r):r=true:=
 x.elim λe x=>by
  rw[<-x.2,beq_self_eq_true,Bool.and_true,List.all_eq_true]
  exact λj hj=>(Cb hj).elim λv q=>q.elim λu q=>hf v _ (x.1 j v v q.1 q.1)
theorem D.fn:∀(n:Nat)(v u:Value)(r r':Bool),D h n v u r->D h n v u r'->r=r'
 |0,_,_,_,_,x,y=>bp x y
 |n+1,v,u,r,r',x,y=>by
  have no:∀{a:Addr}{z:Bool},v=.ref a->b0 v u=some z->False:=λe x=>aH rfl ((congrArg (b0 · u) e).symm.trans x)
  refine x.elim (λx=>y.elim (bp x) λy=>y.elim λa y=>y.elim λO y=>y.elim λO y=>y.elim λO y=>(no y.1 x).elim) λx=>x.elim λa x=>x.elim λb x=>x.elim λxs x=>x.elim λys x=>y.elim (λy=>(no x.1 y).elim) λy=>y.elim λa' y=>y.elim λb' y=>y.elim λza y=>y.elim λUW y=> ?_
  have e:=Value.ref.inj (x.1.symm.trans y.1)
  have f:=Value.ref.inj (x.2.1.symm.trans y.2.1)
  have X:=kZ (e▸x.2.2.1) y.2.2.1
  have jo:=kZ (f▸x.2.2.2.1) y.2.2.2.1
  exact Ds.fn (D.fn n) (X▸jo▸x.2.2.2.2) y.2.2.2.2
theorem zk{v:Value}(e:b0 v v=some r):r=true:=by
 cases v with
 |int i t=>exact(Option.some.inj e).symm.trans (beq_self_eq_true i)
 |str i t=>exact(Option.some.inj e).symm.trans (beq_self_eq_true i)
 |bool i=>exact(Option.some.inj e).symm.trans (beq_self_eq_true i)
 |_=>exact(aH rfl e).elim
theorem D.refl:∀(n:Nat)(v:Value)(r:Bool),D h n v v r->r=true
 |0,_,_,x=>zk x
 |n+1,v,r,x=>x.elim zk λx=>x.elim λa x=>x.elim λb x=>x.elim λxs x=>x.elim λys x=>
  Ds.refl (D.refl n) (kZ (Value.ref.inj (x.1.symm.trans x.2.1)▸x.2.2.1) x.2.2.2.1▸x.2.2.2.2)
end
section
variable{b:Bs}{h:Heap}{Y:List Addr}{p q:PV}{v u:Value}{l k:List PV}{vs us:List Value}{r:Bool}
theorem Ic(i j:List Nat):((⟨i.toArray⟩:Str) == ⟨j.toArray⟩)=decide (i=j):=by rw[<-str_beq,Bool.eq_iff_iff,beq_iff_eq,decide_eq_true_eq]
theorem GB(V:VR b h Y p v)(W:VR b h Y q u)(e:Gs p q=some r):b0 v u=some r:=by
 cases p with
 |int i=>refine VR.jq (M:=λv=>b0 v u=_) V λt=> ?_;cases q with
  |int j=>exact VR.jq (M:=λu=>b0 (.int i t) u=_) W λt'=>e
  |str j=>exact VR.sI (M:=λu=>b0 (.int i t) u=_) W λt'=>e
  |_=>exact(aH rfl e).elim
 |str i=>refine VR.sI (M:=λv=>b0 v u=_) V λt=> ?_;cases q with
  |str j=>exact VR.sI (M:=λu=>b0 (.str ⟨i.toArray⟩ t) u=_) W λt'=>(congrArg some (Ic i j)).trans e
  |int j=>exact VR.jq (M:=λu=>b0 (.str ⟨i.toArray⟩ t) u=_) W λt'=>e
  |_=>exact(aH rfl e).elim
 |bool i=>refine VR.Ai (M:=λv=>b0 v u=_) V ?_;cases q with
  |bool j=>exact VR.Ai (M:=λu=>b0 (.bool i) u=_) W e
  |_=>exact(aH rfl e).elim
 |_=>exact(aH rfl e).elim
theorem Cc{f:PV->PV->Option Bool}{g:Value->Value->Bool->Prop}(hf:∀p q v u r,VR b h Y p v->VR b h Y q u->f p q=some r->g v u r)(V:ay b h Y l vs)(W:ay b h Y k us)(e:gO f l k=some r):Ds g vs us r:=by
 induction l generalizing k vs us r with
 |nil=>
  refine ay.elim0 (M:=λvs=>Ds g vs us r) V ?_
  cases k with
  |nil=>cases e;exact ay.elim0 (M:=λus=>Ds g [] us true) W ⟨λO=>true,λO O O a O=>(aH List.getElem?_nil a).elim,rfl⟩
  |cons q k=>cases e;exact ay.cI (M:=λus=>Ds g [] us false) W λO us O O=>⟨λO=>true,λO O O a O=>(aH List.getElem?_nil a).elim,by rw[List.length_nil,Nat.zero_min];rfl⟩
 |cons p l ih=>
  refine ay.cI (M:=λvs=>Ds g vs us r) V λv vs V1 V2=> ?_
  cases k with
  |nil=>cases e;exact ay.elim0 (M:=λus=>Ds g (v::vs) us false) W ⟨λO=>true,λO O O O a=>(aH List.getElem?_nil a).elim,by rw[List.length_nil,Nat.min_zero];rfl⟩
  |cons q k=>
   refine ay.cI (M:=λus=>Ds g (v::vs) us r) W λu us W1 W2=>bm e λx e1 e'=>bm e' λy e2 e3=> ?_
   cases e3
   obtain ⟨ee,h1,rfl⟩:=ih V2 W2 e2
   refine⟨λj=>Nat.casesOn j x ee,λj=> ?_,?_⟩
   ·cases j with
    |zero=>exact λv u a c=>Option.some.inj a▸Option.some.inj c▸hf _ _ _ _ _ V1 W1 e1
    |succ j=>exact h1 j
   ·rw[List.length_cons,List.length_cons,Nat.succ_min_succ,List.range_succ_eq_map,List.all_cons,List.all_map,Bool.and_assoc,show (vs.length+1 == us.length+1)=(vs.length == us.length) from by rw[Bool.eq_iff_iff,beq_iff_eq,beq_iff_eq,Nat.succ_inj]]
    rfl
theorem oU:∀(n:Nat)(p q:PV)(v u:Value)(r:Bool),VR b h Y p v->VR b h Y q u->eqv n p q=some r->D h n v u r
 |0,p,q,v,u,r,V,W,e=>GB V W e
 |n+1,p,q,v,u,r,V,W,e=>by
  have e:(match di p with | some x=>(di q).bind λy=>gO (eqv n) x y | none=>Gs p q)=some r:=e
  cases ep:di p with
  |none=>rw[ep] at e;exact .inl (GB V W e)
  |some x=>
   rw[ep] at e
   refine bm e λy eq e=> ?_
   cases dZ ep;cases dZ eq
   exact VR.d8 (M:=λv=>D h (n+1) v u r) V λa xs m g V=>VR.d8 (M:=λu=>D h (n+1) (.ref a) u r) W λa' ys m' g' W=>.inr ⟨a,a',xs,ys,rfl,rfl,⟨_,g,rfl,m,rfl⟩,⟨_,g',rfl,m',rfl⟩,Cc (oU n) V W e⟩
end
section
variable{s:Shared}
theorem Ds.each{f:Value->Value->Bool->Prop}{A:Around}{xs ys:Array Value}{e:Nat->Bool}(hf:∀v u r,f v u r->EqAt A s v u r)(x:∀j v u,xs.toList[j]? =some v->ys.toList[j]? =some u->f v u (e j)):
  ∀j(h1:j<xs.size)(h2:j<ys.size),EqAt A s xs[j] ys[j] (e j):=λj h1 h2=>
 hf _ _ _ (x j _ _ (by rw[Array.getElem?_toList,Array.getElem?_eq_getElem h1]) (by rw[Array.getElem?_toList,Array.getElem?_eq_getElem h2]))
theorem GC{A:Around}{v u:Value}{r:Bool}(e:b0 v u=some r):EqAt A s v u r/\RcAt A s v u r/\RcNeAt A s v u (!r):=by
 cases v with
 |int i t=>cases u with
  |int j t'=>exact Option.some.inj e▸⟨EqAt.int_int _ _ _ _,RcAt.int_int _ _ _ _,RcNeAt.int_int _ _ _ _⟩
  |str j t'=>exact Option.some.inj e▸⟨EqAt.int_str _ _ _ _,RcAt.int_str _ _ _ _,RcNeAt.int_str _ _ _ _⟩
  |_=>exact(aH rfl e).elim
 |str i t=>cases u with
  |str j t'=>exact Option.some.inj e▸⟨EqAt.str_str _ _ _ _,RcAt.str_str _ _ _ _,RcNeAt.str_str _ _ _ _⟩
  |int j t'=>exact Option.some.inj e▸⟨EqAt.str_int _ _ _ _,RcAt.str_int _ _ _ _,RcNeAt.str_int _ _ _ _⟩
  |_=>exact(aH rfl e).elim
 |bool i=>cases u with
  |bool j=>exact Option.some.inj e▸⟨EqAt.bool_bool _ _,RcAt.bool_bool _ _,RcNeAt.bool_bool _ _⟩
  |_=>exact(aH rfl e).elim
 |_=>exact(aH rfl e).elim
theorem D.at:∀(n:Nat)(A:Around)(v u:Value)(r:Bool),A.units+n<=5000->D s.heap n v u r->EqAt A s v u r/\RcAt A s v u r/\RcNeAt A s v u (!r)
 |0,_,_,_,_,_,x=>GC x
 |n+1,A,v,u,r,hu,x=>x.elim GC λx=>by
  refine x.elim λa z=>z.elim λb z=>z.elim λxs z=>z.elim λys z=>z.2.2.2.2.elim λe y=> ?_
  have X:=z.2.2.1
  have jo:=z.2.2.2.1
  rw[<-y.2] at x⊢
  rw[z.1,z.2.1] at x⊢
  have y:=y.1
  clear z
  have hc:A.units<cLine:=Nat.lt_of_le_of_lt (Nat.le_trans (Nat.le_add_right _ _) hu) (by decide)
  have he:=Ds.each (A:=A.in1) (λv u r x=>(D.at n A.in1 v u r (by rw[show A.in1.units=A.units+1 from rfl,Nat.add_right_comm];exact hu) x).1) y
  rw[Array.length_toList,Array.length_toList] at x⊢
  have rc:=RcAt.tuples X jo hc he
  refine⟨?_,rc,RcNeAt.tuples X jo hc he⟩
  by_cases q:a=b
  ·subst q
   rw[D.refl (h:=s.heap) (n+1) (.ref a) _ (.inr x)]
   exact EqAt.same _
  ·exact EqAt.of_refs q rc
end
section
variable{c:Cx}{A:Around}{E:Value->Shared->Prop}{J:Loc}{Z af:ae}{P:Pt}{va vb v:Value}{x y p:PV}{Q:Value->Shared->Prop}{l k:List PV}{r:Bool}
theorem RF(F:Fo E (bH c J (Vl c) Q) P (some (.ok (.bool r),Z)))(I:Inv c J Z P)(t:Tok):Q (.bool r) {P.s with toks:=t}:=F.here I (VR.u1 r)
theorem u6(hu:A.units<=3900):A.in1.units+6<=5000:=Nat.le_trans (Nat.add_le_add_right (Nat.succ_le_succ hu) 6) (by decide)
theorem ON(hu:A.units<=3900):A.units+6<=5000:=Nat.le_trans (Nat.add_le_add_right hu 6) (by decide)
theorem OO(hu:A.units<=3900):A.units<cLine:=Nat.lt_of_le_of_lt hu (by decide)
open Classical in
theorem zl(hu:A.units<=3900){xs:List Value}(V:b4 c P l xs)(W:Vl c P x va)(h:isIn x l=some r):
  (∀y∈xs,EqAt A.in1 P.s y va (decide (D P.s.heap 6 y va true)))/\(xs.any λy=>decide (D P.s.heap 6 y va true))=r:=by
 induction l generalizing xs r with
 |nil=>cases h;exact ay.elim0 (M:=λxs=>(∀y∈xs,EqAt A.in1 P.s y va (decide (D P.s.heap 6 y va true)))/\(xs.any λy=>decide (D P.s.heap 6 y va true))=false) V ⟨λO hy=>absurd hy List.not_mem_nil,rfl⟩
 |cons q l ih=>
  refine bm h λb e1 h=>bm h λr' e2 h=> ?_
  cases h
  refine ay.cI (M:=λxs=>(∀y∈xs,EqAt A.in1 P.s y va (decide (D P.s.heap 6 y va true)))/\(xs.any λy=>decide (D P.s.heap 6 y va true))=(b||r')) V λv xs V1 V2=> ?_
  have d:=oU 6 q x v va b V1 W e1
  have i:=ih V2 e2
  have hb:decide (D P.s.heap 6 v va true)=b:=by
   cases b with
   |true=>exact decide_eq_true d
   |false=>exact decide_eq_false λd'=>nomatch D.fn 6 _ _ _ _ d d'
  exact⟨λy hy=>(List.mem_cons.mp hy).elim (λe=>by rw[e,hb];exact(D.at 6 A.in1 _ _ _ (u6 hu) d).1) (i.1 y),by rw[List.any_cons,hb,i.2]⟩
noncomputable def Cd(c:Cx)(A:Around)(E:Value->Shared->Prop)(P:Pt)(va vb:Value)(r:Bool):Prop:=
 (∀{Q:Value->Shared->Prop},(∀t,Q (.bool r) {P.s with toks:=t})->c.W A (compareOp .In va vb) Q E P.s)/\∀{Q:Value->Shared->Prop},(∀t,Q (.bool !r) {P.s with toks:=t})->c.W A (compareOp .NotIn va vb) Q E P.s
theorem pK(hu:A.units<=3900)(I:Inv c J Z P)(V:Vl c P x va)(W:Vl c P y vb)(h:among x y Z=some r):Cd c A E P va vb r:=by
 cases y with
 |tup l=>
  refine VR.d8 (M:=λvb=>Cd c A E P va vb r) W λa xs m g W=>(zl hu W V h).elim λe1 e2=> ?_
  rw[Array.any_toList] at e2
  have hl:P.s.heap.IsTuple a xs:=⟨_,g,rfl,m,rfl⟩
  have e1:=λy hy=>e1 y (Array.mem_toList_iff.mpr hy)
  exact⟨λq=>in_tupleAt _ hl e1 (e2▸q P.s.toks),λq=>notIn_tupleAt _ hl e1 (e2▸q P.s.toks)⟩
 |ref i=>
  refine bm h λo e h'=>Vl.ref (M:=λvb=>Cd c A E P va vb r) I W e λa ea M=> ?_
  cases o with
  |list l=>
   refine M.elim λxs M=>M.elim λm M=>(zl hu M.2 V h').elim λe1 e2=> ?_
   rw[Array.any_toList] at e2
   have hl:P.s.heap.IsList a xs:=⟨_,M.1,rfl,m,rfl⟩
   have e1:=λy hy=>e1 y (Array.mem_toList_iff.mpr hy)
   exact⟨λq=>in_listAt _ hl e1 (e2▸q P.s.toks),λq=>notIn_listAt _ hl e1 (e2▸q P.s.toks)⟩
  |dict kk es=>
   have hs:=I.so.noSys (List.mem_of_getElem? ea)
   refine bm h' λk qk h2=> ?_
   cases h2
   cases kk with
   |int=>
    refine M.elim λaM M=>Vl.Aw (M:=λk va=>Cd c A E P va (.ref a) (aT es k).isSome) qk V λi t=> ?_
    rw[<-(kF M.2.1 M.2.2).isSome]
    exact⟨λq=>wpAny_in_of (isInt_self i t) hs M.1.mapOf (q _),λq=>wpAny_notIn_of (isInt_self i t) hs M.1.mapOf (q _)⟩
   |tup ts=>
    refine M.elim λxs M=>Vl.Ax (M:=λk va=>Cd c A E P va (.ref a) (aT es k).isSome) qk V λks b K=> ?_
    rw[<-(nK M.2.1 M.2.2).isSome,Option.isSome_map]
    exact⟨λq=>wpAny_in_heap (rB hu ts) K hs M.1 (q _),λq=>wpAny_notIn_heap (rB hu ts) K hs M.1 (q _)⟩
  |attrs r=>exact(aH rfl h').elim
 |_=>exact(aH rfl h).elim
theorem EJ{a b:Addr}{xs ys:Array Value}(hu:A.units<=3900)(x:Ds (D P.s.heap 6) xs.toList ys.toList r)(hl:P.s.heap.IsList a xs)(hb:P.s.heap.IsList b ys)(F:Q (.bool r) P.s):c.W A (compareOp .Eq (.ref a) (.ref b)) Q E P.s:=by
 obtain ⟨e,x,rfl⟩:=x
 have he:=Ds.each (A:=A.in1) (λv u r x=>(D.at 6 A.in1 v u r (u6 hu) x).1) x
 rw[Array.length_toList,Array.length_toList] at F
 by_cases q:xs.size=ys.size
 ·rw[<-q,Nat.min_self,beq_self_eq_true,Bool.and_true] at F
  exact eq_listAt hl hb q (OO hu) he F
 ·rw[beq_eq_false_iff_ne.mpr q,Bool.and_false] at F
  exact eq_list_lengthsAt hl hb (bne_iff_ne.mpr q) (OO hu) F
theorem yD(hu:A.units<=3900)(I:Inv c J Z P)(V:Vl c P x va)(W:Vl c P y vb)(h:equal x y Z=some r)(F:Q (.bool r) P.s):c.W A (compareOp .Eq va vb) Q E P.s:=by
 cases x with
 |ref i=>exact bm h λl e1 h=>bm h λk e2 h=>Vl.list (M:=λva=>c.W A (compareOp .Eq va vb) Q E P.s) e1 I V λa xs n g V=>Vl.list (M:=λvb=>c.W A (compareOp .Eq (.ref a) vb) Q E P.s) e2 I W λb ys m g' W=>EJ hu (Cc (oU (b:=c.toBs) (Y:=P.Y) 6) V W h) ⟨_,g,rfl,n,rfl⟩ ⟨_,g',rfl,m,rfl⟩ F
 |_=>exact(D.at 6 A va vb r (ON hu) (oU 6 _ _ _ _ _ V W h)).2.1 _ _ _ _ F
theorem mv{f:Int->Int->Bool}{M:Value->Value->Bool->Prop}(V:Vl c P x va)(W:Vl c P y vb)(h:cmpInt f x y=some r)(k:∀i t j u,M (.int i t) (.int j u) (f i j)):M va vb r:=by
 refine bm h λi e1 h=>bm h λj e2 h=> ?_
 cases h
 exact Vl.int (M:=λva=>M va vb (f i j)) e1 V λt=>Vl.int (M:=λvb=>M (.int i t) vb (f i j)) e2 W λu=>k i t j u
theorem tT{o:Cm}(hu:A.units<=3900)(I:Inv c J Z P)(V:Vl c P x va)(W:Vl c P y vb)(h:kA o x y Z=some r)(F:∀t,Q (.bool r) {P.s with toks:=t}):c.W A (compareOp (vU o) va vb) Q E P.s:=by
 cases o with
 |eq=>exact yD hu I V W h (F P.s.toks)
 |ne=>exact bm h λq e h=>by cases h;exact(D.at 6 A va vb q (ON hu) (oU 6 _ _ _ _ _ V W e)).2.2 _ _ _ _ (F P.s.toks)
 |lt=>exact mv (M:=λva vb r=>(∀t,Q (.bool r) {P.s with toks:=t})->c.W A (compareOp .Lt va vb) Q E P.s) V W h (λi t j u F=>lt_int (F P.s.toks)) F
 |le=>exact mv (M:=λva vb r=>(∀t,Q (.bool r) {P.s with toks:=t})->c.W A (compareOp .LtE va vb) Q E P.s) V W h (λi t j u F=>le_int (F P.s.toks)) F
 |gt=>exact mv (M:=λva vb r=>(∀t,Q (.bool r) {P.s with toks:=t})->c.W A (compareOp .Gt va vb) Q E P.s) V W h (λi t j u F=>gt_int (F P.s.toks)) F
 |ge=>exact mv (M:=λva vb r=>(∀t,Q (.bool r) {P.s with toks:=t})->c.W A (compareOp .GtE va vb) Q E P.s) V W h (λi t j u F=>ge_int (F P.s.toks)) F
 |isin=>exact(pK hu I V W h).1 F
 |fk=>exact bm h λq e h=>by cases h;exact(pK hu I V W e).2 F
 |is=>
  refine bm h λO e h=> ?_
  cases rz e
  refine VR.Ah (M:=λvb=>c.W A (compareOp .Is va vb) Q E P.s) W ?_
  cases x with
  |none=>cases h;exact VR.Ah (M:=λva=>c.W A (compareOp .Is va .none) Q E P.s) V (wpAny_is_self rfl (F P.s.toks))
  |tup l=>cases h;exact VR.d8 (M:=λva=>c.W A (compareOp .Is va .none) Q E P.s) V λa xs m g V=>wpAny_is_other rfl (λe=>nomatch e) (F P.s.toks)
  |_=>exact(aH rfl h).elim
end
section
variable{K:Type}[DecidableEq K]{kv:K×Value}{aM:List (K×Value)}{k:K}{v:Value}
theorem qh{α:Type}{f:α->α}:∀{l:List α},(∀x∈l,f x=x)->l.map f=l
 |[],_=>rfl
 |x::l,h=>by rw[List.map_cons,h x List.mem_cons_self,qh λy hy=>h y (List.mem_cons_of_mem _ hy)]
theorem Ce(h:kv.1≠k):stored (kv::aM) k v=kv::stored aM k v:=by
 unfold stored
 rw[List.any_cons,decide_eq_false h,Bool.false_or,List.map_cons,if_neg h]
 cases aM.any λkv=>decide (kv.1=k)<;>rfl
theorem Cf(h:kv.1=k)(n:∀x∈aM,x.1≠k):stored (kv::aM) k v=(kv.1,v)::aM:=by
 unfold stored
 rw[List.any_cons,decide_eq_true h,Bool.true_or,if_pos rfl,List.map_cons,if_pos h,qh λx hx=>if_neg (n x hx)]
variable{xv:K×Addr×Value}{xs:List (K×Addr×Value)}{a:Addr}
theorem Az(h:xv.1≠k):storedH (xv::xs) k a v=xv::storedH xs k a v:=by
 have e:atKey (xv::xs) k=atKey xs k:=by unfold atKey;rw[List.find?_cons,decide_eq_false h]
 unfold storedH
 rw[e,List.map_cons,show putAt k v xv=xv from if_neg h]
 cases (atKey xs k).isSome<;>rfl
theorem AA(h:xv.1=k)(n:∀x∈xs,x.1≠k):storedH (xv::xs) k a v=(xv.1,xv.2.1,v)::xs:=by
 have e:(atKey (xv::xs) k).isSome=true:=by unfold atKey;rw[List.find?_cons,decide_eq_true h];rfl
 unfold storedH
 rw[e,if_pos rfl,List.map_cons,show putAt k v xv=_ from if_pos h,qh (f:=putAt k v) λx hx=>if_neg (n x hx)]
end
section
variable{b:Bs}{h:Heap}{Y:List Addr}{p:PV}{v:Value}{es:List (Key×PV)}{aM:List (Int×Value)}{xs:List (List K1×Addr×Value)}{k:Int}{l:List K1}{a:Addr}
theorem vY{K V:Type}{kv:K×V}{aM:List (K×V)}{k:K}(nd:((kv::aM).map (·.1)).Nodup)(hk:kv.1=k):∀x∈aM,x.1≠k:=λO hx e=>
 (List.nodup_cons.mp nd).1 (List.mem_map.mpr ⟨_,hx,e.trans hk.symm⟩)
theorem vZ(W:VR b h Y p v)(e:es.map (·.1)=aM.map (λx=>Key.int x.1))(V:ay b h Y (es.map (·.2)) (aM.map (·.2)))(nd:(aM.map (·.1)).Nodup):
  (bZ es (.int k) p).map (·.1)=(stored aM k v).map (λx=>Key.int x.1)/\ay b h Y ((bZ es (.int k) p).map (·.2)) ((stored aM k v).map (·.2)):=by
 induction aM generalizing es with
 |nil=>cases List.map_eq_nil_iff.mp e;exact⟨rfl,W,trivial⟩
 |cons kv aM ih=>cases es with
  |nil=>exact nomatch e
  |cons q es=>
   have e:=List.cons.inj e
   show (if q.1=.int k then (q.1,p)::es else q::bZ es (.int k) p).map (·.1)=_/\ay b h Y ((if q.1=.int k then (q.1,p)::es else q::bZ es (.int k) p).map (·.2)) _
   by_cases hk:kv.1=k
   ·rw[if_pos (e.1.trans (congrArg _ hk)),Cf hk (vY nd hk)]
    exact⟨by rw[List.map_cons,List.map_cons,e.2];exact congrArg (· ::_) e.1,W,V.2⟩
   ·rw[if_neg λz=>hk (Key.int.noConfusion (e.1.symm.trans z) id),Ce hk]
    have i:=ih e.2 V.2 (List.nodup_cons.mp nd).2
    exact⟨by rw[List.map_cons,List.map_cons,i.1];exact congrArg (· ::_) e.1,V.1,i.2⟩
theorem EK(W:VR b h Y p v)(e:es.map (·.1)=xs.map (λx=>Key.tup x.1))(V:ay b h Y (es.map (·.2)) (xs.map (·.2.2)))(nd:(xs.map (·.1)).Nodup):
  (bZ es (.tup l) p).map (·.1)=(storedH xs l a v).map (λx=>Key.tup x.1)/\ay b h Y ((bZ es (.tup l) p).map (·.2)) ((storedH xs l a v).map (·.2.2)):=by
 induction xs generalizing es with
 |nil=>cases List.map_eq_nil_iff.mp e;exact⟨rfl,W,trivial⟩
 |cons kv aM ih=>cases es with
  |nil=>exact nomatch e
  |cons q es=>
   have e:=List.cons.inj e
   show (if q.1=.tup l then (q.1,p)::es else q::bZ es (.tup l) p).map (·.1)=_/\ay b h Y ((if q.1=.tup l then (q.1,p)::es else q::bZ es (.tup l) p).map (·.2)) _
   by_cases hk:kv.1=l
   ·rw[if_pos (e.1.trans (congrArg _ hk)),AA hk (vY nd hk)]
    exact⟨by rw[List.map_cons,List.map_cons,e.2];exact congrArg (· ::_) e.1,W,V.2⟩
   ·rw[if_neg λz=>hk (Key.tup.noConfusion (e.1.symm.trans z) id),Az hk]
    have i:=ih e.2 V.2 (List.nodup_cons.mp nd).2
    exact⟨by rw[List.map_cons,List.map_cons,i.1];exact congrArg (· ::_) e.1,V.1,i.2⟩
theorem DictOf.nodup{prog:Program}{w:World}(D:h.DictOf (intKind prog w) a aM):(aM.map (·.1)).Nodup:=D.elim λO D=>D.elim λO D=>D.elim λO D=>D.2.2.2.2.2
theorem DictOfH.nodup{prog:Program}{w:World}{ts:List KT}(D:h.DictOfH (l7 prog w ts) a xs):(xs.map (·.1)).Nodup:=D.elim λO D=>D.elim λO D=>D.elim λO D=>D.2.2.2.2.2
theorem kG{h':Heap}{d:Addr}(hs:Heap.SameBut d h h'){o:Obj}(ho:h.get? d=some o)(hc:jS o):Later h Y h' Y:=
 ⟨λx o' e s=>(hs.2 x λq=>s.no (bp ho (q▸e)▸hc)).trans e,[],(List.append_nil _).symm⟩
end
section
variable{c:Cx}{A:Around}{E:Value->Shared->Prop}{J:Loc}{Z af:ae}{P:Pt}{va vb vc vd v:Value}{x y z d p:PV}{Q:Value->Shared->Prop}{l:List PV}{r:Bool}{a:Addr}{i:Nat}
theorem nM{xs:Array Value}{n:Nat}(g:P.s.heap.get? a=some (gI xs n))(V:b4 c P l xs.toList)(W:Vl c P y vb)(hf:xs.size<=65537)
  (F:∀h',Heap.SameBut a P.s.heap h'->(∃za n',h'.get? a=some (gI za n')/\ay c.toBs h' P.Y (l++[y]) za.toList)->Later P.s.heap P.Y h' P.Y->Q .none {P.s with heap:=h'}):c.W A (call (.builtin "list.append") [.ref a,vb]) Q E P.s:=by
 refine call_meets PySem.F.slot_list_append ⟨_,g,rfl⟩ PySem.F.entry_list_append (PySem.F.args_list_append_2 _ _) (AutoListH.list_append_list_val_0 a xs n vb (dF hf)) ⟨g,?_⟩
 have hs:=Heap.SameBut.update P.s.heap a (Obj.mapSeq λxs=>xs.push vb)
 have la:=kG (Y:=P.Y) hs g ⟨.inl rfl,nofun⟩
 exact F _ hs ⟨_,_,get?_update_seq g λxs=>xs.push vb,by rw[Array.toList_push];exact ay.append (ay.later la V) (ay.cons (VR.later la W) ay.nil)⟩ la
theorem Cg(I:Inv c J Z P)(V:Vl c P x va)(W:Vl c P y vb)(F:Fo E (bH c J (Vl c) Q) P (lift (sG x y Z))):c.W A (call (.builtin "list.append") [va,vb]) Q E P.s:=by
 refine F.lb λi e F1=>F1.lb λo q F2=>F2.lb λl ql F3=> ?_
 clear F F1 F2
 cases kE e;cases fZ ql
 exact Vl.ref (M:=λva=>c.W A (call (.builtin "list.append") [va,vb]) Q E P.s) I V q λa ea M=>M.elim λxs M=>M.elim λn M=>
  nM M.1 M.2 W (Nat.le_succ_of_le (b4.size (c:=c) (P:=P) M.2▸eA F3.lm.1)) λh' hs m la=>F3.lm.2.ok (I.set q ea hs m (t:=P.s.toks)) VR.u2
theorem GD{n:Nat}(h:n<=65536):(n:Int)<2 ^ 63:=by omega
theorem iT{Q:Bool->Shared->Prop}(I:Inv c J Z P)(V:Vl c P x va)(F:Fo E (bH c J (λO=>Eq) Q) P (read Z (truth Z x))):c.W A (truthy va) Q E P.s:=by
 cases x with
 |none=>exact VR.Ah (M:=λva=>c.W A (truthy va) Q E P.s) V (truthy_none (F.same I rfl))
 |bool b=>exact VR.Ai (M:=λva=>c.W A (truthy va) Q E P.s) V (wpAny_truthy_bool (F.same I rfl))
 |int i=>exact VR.jq (M:=λva=>c.W A (truthy va) Q E P.s) V λt=>truthy_int (F.same I rfl)
 |ref i=>
  refine F.rb λo q F1=>F1.rb λl ql F2=> ?_
  clear F F1
  cases fZ ql
  refine Vl.ref (M:=λva=>c.W A (truthy va) Q E P.s) I V q λa ea M=>M.elim λxs M=>M.elim λn M=> ?_
  have n1:=b4.size (c:=c) (P:=P) M.2
  refine wpAny_truthy_list ⟨_,M.1,rfl,n,rfl⟩ (GD (n1▸eA F2.rm.1)) ?_
  rw[show xs.isEmpty=l.isEmpty from ?_]
  ·exact F2.rm.2.here I rfl
  ·rw[Bool.eq_iff_iff,Array.isEmpty_iff_size_eq_zero,List.isEmpty_iff_length_eq_zero,n1]
 |_=>exact F.elim
theorem uQ{Q:Unit->Shared->Prop}(hu:A.units<=3900)(I:Inv c J Z P)(V:Vl c P x va)(W:Vl c P y vb)(U:Vl c P z vc)(h:FR.setItem x y z Z=some af)(F:∀P',Inv c J af P'/\To c P P'->Q () P'.s):
  c.W A (PySem.setItem va vb vc) Q E P.s:=by
 refine bm h λi e h1=>bm h1 λo q h2=>bm h2 λCi qd h3=>bm h3 λk qk h4=> ?_
 obtain ⟨kk,es⟩:=Ci
 clear h h1 h2 h3
 cases kE e;cases mr qd
 have hf:es.length<=65537:=Nat.le_succ_of_le (eA (mm h4).1)
 cases (mm h4).2
 refine Vl.ref (M:=λva=>c.W A (PySem.setItem va vb vc) Q E P.s) I V q λa ea M=> ?_
 clear h4
 revert F
 cases kk with
 |int=>
  refine M.elim λaM M=>Vl.Aw (M:=λk vb=>(∀P',Inv c J (sset Z i (.dict .int (bZ es k z))) P'/\To c P P'->Q () P'.s)->c.W A (PySem.setItem (.ref a) vb vc) Q E P.s) qk W λk t F=> ?_
  refine wpAny_setItem_pairs (isInt_self k t) M.1 (λh' D' hs=> ?_) (dF ?_)
  ·have la:=(DictOf.obj M.1).elim λo x=>kG (Y:=P.Y) hs x.1 x.2.2
   have kp:=vZ (k:=k) (VR.later la U) M.2.1 (ay.later la M.2.2) (DictOf.nodup M.1)
   exact F _ (I.set q ea hs ⟨_,D',kp.1,kp.2⟩)
  ·rw[<-List.length_map (f:=λx=>Key.int x.1),<-M.2.1,List.length_map];exact hf
 |tup ts=>
  refine M.elim λxs M=>Vl.Ax (M:=λk vb=>(∀P',Inv c J (sset Z i (.dict (.tup ts) (bZ es k z))) P'/\To c P P'->Q () P'.s)->c.W A (PySem.setItem (.ref a) vb vc) Q E P.s) qk W λks b K F=> ?_
  refine wpAny_setItem_heap (rB hu ts) K M.1 (λh' D' hs=> ?_) (dF ?_)
  ·have la:=(DictOfH.obj M.1).elim λo x=>kG (Y:=P.Y) hs x.1 x.2.2
   have kp:=EK (l:=ks) (a:=b) (VR.later la U) M.2.1 (ay.later la M.2.2) (DictOfH.nodup M.1)
   exact F _ (I.set q ea hs ⟨_,D',kp.1,kp.2⟩)
  ·rw[<-List.length_map (f:=λx=>Key.tup x.1),<-M.2.1,List.length_map];exact hf
theorem Cj(hu:A.units<=3900)(I:Inv c J Z P)(V:Vl c P x va)(W:Vl c P y vb)(U:Vl c P d vd)(F:Fo E (bH c J (Vl c) Q) P (lift (getM x y d Z))):c.W A (call (.builtin "dict.get") [va,vb,vd]) Q E P.s:=by
 cases x with
 |eM ks ws=>
  obtain ⟨a,aM,rfl,D,hs,rfl,V⟩:=V
  refine F.lb λk e F=>Vl.int (M:=λvb=>c.W A (call (.builtin "dict.get") [.ref a,vb,vd]) Q E P.s) e W λt=> ?_
  have D:=D.at (I.kc _)
  exact call_meetsIn PySem.F.slot_dict_get D.typeIs PySem.F.entry_dict_get (PySem.F.args_dict_get_3 _ _ _) (meets_dict_get_default _ a (isInt_self k t) hs vd) ⟨_,D.mapOf,F.here I ((vW V).getD U)⟩
 |ref i=>
  refine F.lb λo q F1=>F1.lb λCi qd F2=>F2.lb λk qk F3=> ?_
  clear F F1 F2
  obtain ⟨kk,es⟩:=Ci
  cases mr qd
  refine Vl.ref (M:=λva=>c.W A (call (.builtin "dict.get") [va,vb,vd]) Q E P.s) I V q λa ea M=> ?_
  have hs:=I.so.noSys (List.mem_of_getElem? ea)
  revert F3
  cases kk with
  |int=>exact M.elim λaM M=>Vl.Aw (M:=λk vb=>Fo E (bH c J (Vl c) Q) P (lift (some ((aT es k).getD d,Z)))->c.W A (call (.builtin "dict.get") [.ref a,vb,vd]) Q E P.s) qk W λk t F=>
    call_meetsIn PySem.F.slot_dict_get M.1.typeIs PySem.F.entry_dict_get (PySem.F.args_dict_get_3 _ _ _) (meets_dict_get_default _ a (isInt_self k t) hs vd) ⟨_,M.1.mapOf,F.here I ((kF M.2.1 M.2.2).getD U)⟩
  |tup ts=>exact M.elim λxs M=>Vl.Ax (M:=λk vb=>Fo E (bH c J (Vl c) Q) P (lift (some ((aT es k).getD d,Z)))->c.W A (call (.builtin "dict.get") [.ref a,vb,vd]) Q E P.s) qk W λks b K F=>
    call_meetsIn PySem.F.slot_dict_get M.1.typeIs PySem.F.entry_dict_get (PySem.F.args_dict_get_3 _ _ _) (meetsH_dict_get_default _ a b hs vd) ⟨rB hu ts,_,_,K,M.1,F.here I ((nK M.2.1 M.2.2).getD U)⟩
 |_=>exact F.elim
theorem qj(I:Inv c J Z P)(V:Vl c P x va)(W:Vl c P y vb)(U:Vl c P d vd)(F:Fo E (bH c J (Vl c) Q) P (lift (vt x y d Z))):c.W A (call (.builtin "dict.setdefault") [va,vb,vd]) Q E P.s:=by
 refine F.lb λi e F1=>F1.lb λk ek F2=>F2.lb λo q F3=>F3.lb λCi qd F4=>F4.lb λO qi F5=> ?_
 clear F F1 F2 F3 F4
 obtain ⟨kk,es⟩:=Ci
 cases kE e;cases mr qd;cases vV qi
 refine Vl.ref (M:=λva=>c.W A (call (.builtin "dict.setdefault") [va,vb,vd]) Q E P.s) I V q λa ea M=>M.elim λaM M=>Vl.int (M:=λvb=>c.W A (call (.builtin "dict.setdefault") [.ref a,vb,vd]) Q E P.s) ek W λt=> ?_
 have f:=kF (k:=k) M.2.1 M.2.2
 refine call_meetsIn PySem.F.slot_dict_setdefault M.1.typeIs PySem.F.entry_dict_setdefault (PySem.F.args_dict_setdefault_3 _ _ _) (kt_meets_setdefault _ a (isInt_self k t) (I.so.noSys (List.mem_of_getElem? ea)) vd) ⟨aM,M.1,dF ?_,?_⟩
 ·rw[<-List.length_map (f:=λx=>Key.int x.1),<-M.2.1,List.length_map];exact Nat.le_succ_of_le (eA F5.lm.1)
 have F:=F5.lm.2
 clear F5
 revert F
 dsimp only
 generalize aT es (.int k)=o at f
 cases o with
 |some w=>exact λF=>f.elim λv f=>⟨λv' hv=>F.here I (bp f.1 hv▸f.2),λhn=>(aH hn f.1).elim⟩
 |none=>
  refine λF=>⟨λv hv=>(aH f hv).elim,λO h' D' hs=> ?_⟩
  have la:=(DictOf.obj M.1).elim λo x=>kG (Y:=P.Y) hs x.1 x.2.2
  have kp:=vZ (k:=k) (VR.later la U) M.2.1 (ay.later la M.2.2) (DictOf.nodup M.1)
  exact F.ok (I.set q ea hs ⟨_,D',kp.1,kp.2⟩ (t:=P.s.toks+1)) (VR.later la U)
theorem mx{n m:Nat}{t t':Tok}(I:Inv c J Z P)(e:m=n)(F:Fo E (bH c J (Vl c) Q) P (lift (lenOf n Z))):Q (.int m t) {P.s with toks:=t'}:=by
 subst e
 exact F.lm.2.here I (VR.l9 _ _)
theorem my{n:Nat}(F:Fo E (bH c J (Vl c) Q) P (lift (lenOf n Z))):n<=65536:=of_decide_eq_true F.lm.1
theorem Ck(I:Inv c J Z P)(V:Vl c P x va)(F:Fo E (bH c J (Vl c) Q) P (lift (builtin .len x Z))):c.W A (call (.builtin "len") [va]) Q E P.s:=by
 cases x with
 |bytes l=>
  obtain ⟨y,t,rfl,e⟩:=V
  have e:y.size=l.length:=by rw[<-e,List.length_map,Array.length_toList]
  exact len_bytes (e▸Nat.le_trans (my F) (by decide)) (mx I e F)
 |tup l=>exact VR.d8 (M:=λva=>c.W A (call (.builtin "len") [va]) Q E P.s) V λa xs n g V=>
   call_len_meets (n:=xs.size) ⟨_,g,rfl⟩ PySem.F.slot_tuple_len PySem.F.entry_tuple_len (PySem.F.args_tuple_len_1 _) (AutoSeq1.tuple___len___tuple_0 a xs n) (Int.not_lt.mpr (Int.natCast_nonneg _)) (Int.not_le.mpr (GD (b4.size (c:=c) (P:=P) V▸my F))) (λQ' hq=>⟨g,hq⟩) (mx I (b4.size (c:=c) (P:=P) V) F)
 |ref i=>
  refine F.lb λo q F=>Vl.ref (M:=λva=>c.W A (call (.builtin "len") [va]) Q E P.s) I V q λa ea M=> ?_
  cases o with
  |list l=>exact M.elim λxs M=>M.elim λn M=>call_len_list ⟨_,M.1,rfl,n,rfl⟩ (GD (b4.size (c:=c) (P:=P) M.2▸my F)) (mx I (b4.size (c:=c) (P:=P) M.2) F)
  |dict kk es=>
   refine F.lb λO qi F2=> ?_
   clear F
   cases vV qi
   refine M.elim λaM M=> ?_
   have n1:aM.length=es.length:=by rw[<-List.length_map (f:=λx=>Key.int x.1),<-M.2.1,List.length_map]
   exact call_len_dict (I.so.noSys (List.mem_of_getElem? ea)) M.1 (GD (n1▸my F2)) (mx I n1 F2)
  |attrs r=>exact F.elim
 |_=>exact F.elim
theorem v3(I:Inv c J Z P)(V:Vl c P x va)(F:Fo E (bH c J (Vl c) Q) P (lift (builtin .list x Z))):c.W A (call (.type "list") [va]) Q E P.s:=
 F.lb λl e F=>Vl.tup (M:=λva=>c.W A (call (.type "list") [va]) Q E P.s) e V λa xs n g V=>
  call_list_seq a (.inr rfl) g rfl rfl (λh' c' k hn=>F.lm.2.ok (I.push k (b5 _) ⟨xs,c',hn,ay.later (.lz k _) V⟩ (t:=P.s.toks)) (VR.md (nJ I))) (dF (V.size▸Nat.le_succ_of_le (eA F.lm.1)))
end
noncomputable def oV:Option PV->Option Int
 |some p=>bw p
 |none=>none
noncomputable def nN(c:Cx)(P:Pt)(o:Option PV)(v:Value):Prop:=match o with
 |none=>v=.none
 |some p=>Vl c P p v
theorem tU{n d k:Nat}{o:Option PV}(e:clamp n d o=some k){c:Cx}{P:Pt}{v:Value}(V:nN c P o v):IsPart v (oV o)/\(oV o).elim d (clipAt n)=k:=by
 cases o with
 |none=>exact⟨(show v=.none from V)▸.none,Option.some.inj e⟩
 |some p=>
  refine bm e λi e1 e2=> ?_
  cases fD e1
  exact⟨VR.jq (M:=λv=>IsPart v (some i)) (show Vl c P (.int i) v from V) λt=>.int i t,Option.some.inj e2⟩
section
variable{lo hi:Option Int}{n:Nat}
theorem pL(d:Nat):(match lo with | none=>(d:Int) | some v=>if v<0 then max (v+n) 0 else min v n)=((lo.elim d (clipAt n):Nat):Int):=by
 cases lo with
 |none=>rfl
 |some v=>
  show _=((clipAt n v:Nat):Int)
  rw[clipAt_cast]
  dsimp only
  split
  ·rename_i hv
   rw[Int.min_eq_left (Int.le_trans (Int.add_le_add_right (Int.le_of_lt hv) n) (Int.le_of_eq (Int.zero_add _))),Int.max_comm]
  ·rename_i hv
   exact(Int.max_eq_right (Int.le_min.mpr ⟨Int.not_lt.mp hv,Int.natCast_nonneg n⟩)).symm
theorem v5:Builtin.Slice.sliceAdjust lo hi 1 (n:Int)=(((lo.elim 0 (clipAt n):Nat):Int),((hi.elim n (clipAt n):Nat):Int)):=by
 show ((match lo with | none=>_ | some v=>if v<0 then _ else min v _),(match hi with | none=>_ | some v=>if v<0 then _ else min v _))=_
 exact Prod.ext (pL 0) (pL n)
theorem AB(i j:Nat):Builtin.Slice.slicePlaces (i:Int) (j:Int) 1=j-i:=by
 unfold Builtin.Slice.slicePlaces
 rw[if_pos (by decide),Int.ediv_one]
 split
 ·rw[Int.sub_add_cancel,Int.toNat_sub]
 ·rename_i h
  exact(Nat.sub_eq_zero_of_le (Int.ofNat_le.mp (Int.not_lt.mp h))).symm
variable{prog:Program}{w:World}{A:Around}{E:Value->Shared->Prop}{s:Shared}
theorem rC{v:Value}{Q:Option Int->Shared->Prop}(h:IsPart v lo)(hq:Q lo s):wpAny (model prog w) A (Builtin.Slice.slicePartIndex v) Q E s:=by
 cases h with
 |none=>exact slicePart_none hq
 |int i t=>exact slicePart_int hq
theorem yE{sl:Addr}{vl vu:Value}{Q:Int×Int×Nat->Shared->Prop}(hs:s.heap.IsSliceOf sl vl vu .none)(pl:IsPart vl lo)(pu:IsPart vu hi)
  (h:Q (((lo.elim 0 (clipAt n):Nat):Int),1,hi.elim n (clipAt n)-lo.elim 0 (clipAt n)) s):
  wpAny (model prog w) A (Builtin.Slice.sliceApplied (.ref sl) (pure (n:Int))) Q E s:=by
 obtain ⟨os,v9,UX,J0⟩:=id hs
 unfold Builtin.Slice.sliceApplied Builtin.Slice.sliceFields
 refine wpAny_bind (wpAny_bind (wpAny_field v9 J0 (x:=vl) rfl (wpAny_bind (wpAny_field v9 J0 (x:=vu) rfl (wpAny_bind (wpAny_field v9 J0 (x:=.none) rfl (wpAny_pure ?_)))))))
 refine wpAny_bind (slicePart_none ?_)
 show wpAny _ _ (if ((1:Int) == 0)=true then _ else _) _ _ s
 rw[if_neg (by decide)]
 refine wpAny_bind (rC pl (wpAny_bind (rC pu (wpAny_bind (wpAny_pure ?_)))))
 show wpAny _ _ (match Builtin.Slice.sliceAdjust lo hi 1 (n:Int) with | (lo,hi)=>pure (lo,(1:Int),Builtin.Slice.slicePlaces lo hi 1)) _ _ s
 rw[v5]
 show wpAny _ _ (pure (_,(1:Int),Builtin.Slice.slicePlaces _ _ 1)) _ _ s
 rw[AB]
 exact wpAny_pure h
theorem Ie(xs:Array Value)(i k:Nat):((List.range k).filterMap λ(q:Nat)=>xs[((i:Int)+(q:Int)*1).toNat]?).toArray=((xs.toList.drop i).take k).toArray:=by
 rw[<-pick_run xs i k,List.filterMap_map]
 refine congrArg (λf=>(List.filterMap f (List.range k)).toArray) (funext λq=> ?_)
 rw[Int.mul_one,<-Int.natCast_add,Int.toNat_natCast]
 rfl
theorem Cn{t sl:Addr}{items:Array Value}{vl vu:Value}{i j:Nat}{Q:Value->Shared->Prop}(ht:IsTup s.heap t items)(hs:s.heap.IsSliceOf sl vl vu .none)(pl:IsPart vl lo)(pu:IsPart vu hi)
  (h1:lo.elim 0 (clipAt items.size)=i) (h2:hi.elim items.size (clipAt items.size)=j)
  (h0:i=0->j-i=items.size->Q (.ref t) s)
  (h:Q (.ref s.heap.objs.size) {s with heap:=s.heap.push {cls:=.type "tuple",data:=.seq ((items.toList.drop i).take (j-i)).toArray}})
  (eK:items.size<=sizeLine):wpAny (model prog w) A (getItem (.ref t) (.ref sl)) Q E s:=by
 have AD:sizeOk (.seq ((items.toList.drop i).take (j-i)).toArray):=by
  show ((items.toList.drop i).take (j-i)).toArray.size<=sizeLine
  rw[List.size_toArray,List.length_take,List.length_drop,Array.length_toList]
  exact Nat.le_trans (Nat.le_trans (Nat.min_le_right _ _) (Nat.sub_le _ _)) eK
 have RG:s.TypeIs (.ref sl) "slice":=hs.imp λO x=>⟨x.1,x.2.1⟩
 unfold getItem
 try with_reducible refine wpAny_holding ?_
 refine wpAny_bind (wpAny_sequenceKey ht.typeIs (by decide) ?_)
 refine wpAny_bind (wpAny_callSpecial?_slot (name:=Str.ofString "__getitem__") ht.typeIs slot_tuple_getitem
  (wpAny_call_entry slot_tuple_getitem ht.typeIs entry_tuple_getitem ?_ (args_tuple_getitem _ _)))
 show wpAny _ _ (Builtin.Tuple.tupleItemsOf (.ref t) >>= _) _ _ s
 refine wpAny_bind (tupleItemsOf_ ht ?_)
 refine wpAny_bind (wpAny_typeOf RG ?_)
 rw[if_pos (by decide)]
 refine wpAny_bind (yE hs pl pu ?_)
 rw[h1,h2]
 show wpAny _ _ (if ((i:Int) == 0&&(1:Int) == 1&&(j-i) == items.size)=true then _ else _) _ _ s
 split
 ·rename_i hc
  have hc:=aw hc
  have h0:=h0 (Int.ofNat.inj (eq_of_beq (aw hc.1).1)) (eq_of_beq hc.2)
  first
   |exact wpAny_bind (m:=Builtin.Tuple.tupleIsExact _) (wpAny_bind (wpAny_typeOf ht.typeIs (wpAny_pure (wpAny_bind (wpAny_rule (wpAny_bind (wpAny_pure (wpAny_pure ⟨_,rfl,wpAny_pure h0⟩))))))))
   |exact wpAny_bind (wpAny_bind (m:=Builtin.Tuple.tupleIsExact _) (wpAny_bind (wpAny_typeOf ht.typeIs (wpAny_pure (wpAny_rule (wpAny_bind (wpAny_pure (wpAny_pure ⟨_,rfl,wpAny_pure h0⟩))))))))
 ·rw[Ie]
  first
   |exact wpAny_bind (m:=Builtin.Tuple.tupleExact _) (wpAny_newObj_type (wpAny_pure ⟨_,rfl,wpAny_pure h⟩) AD)
   |exact wpAny_bind (m:=Builtin.Tuple.tupleExact _) (wpAny_newObj_type (wpAny_bind (wpAny_pure (wpAny_pure ⟨_,rfl,wpAny_pure h⟩))) AD)
   |exact wpAny_bind (wpAny_bind (m:=Builtin.Tuple.tupleExact _) (wpAny_newObj_type (wpAny_pure (wpAny_pure ⟨_,rfl,wpAny_pure h⟩)) AD))
end
section
variable{c:Cx}{A:Around}{E:Value->Shared->Prop}{J:Loc}{Z:ae}{P:Pt}{va vl vu:Value}{x:PV}{Q:Value->Shared->Prop}{l:List PV}{sl:Addr}{lo hi:Option PV}{i j:Nat}
theorem wa{a:Addr}{xs:Array Value}(I:Inv c J Z P)(g:P.s.heap.IsList a xs)(V:b4 c P l xs.toList)(hf:fits l=true)(hs:P.s.heap.IsSliceOf sl vl vu .none)(pl:IsPart vl (oV lo)/\(oV lo).elim 0 (clipAt l.length)=i)(pu:IsPart vu (oV hi)/\(oV hi).elim l.length (clipAt l.length)=j)
  (F:Fo E (bH c J (Vl c) Q) P (some (.ok (.ref Z.length),Z++[.list ((l.drop i).take (j-i))]))):c.W A (getItem (.ref a) (.ref sl)) Q E P.s:=by
 refine wpAny_getItem_list_slice g hs pl.1 pu.1 .none nofun ?_ (dF (V.size▸Nat.le_succ_of_le (eA hf)))
 rw[slicePick_plain,V.size,pl.2,pu.2]
 exact qg I (ay.take (j-i) (ay.drop i V)) F (t:=P.s.toks)
theorem Co(I:Inv c J Z P)(V:Vl c P x va)(hs:P.s.heap.IsSliceOf sl vl vu .none)(pl:nN c P lo vl)(pu:nN c P hi vu)(F:Fo E (bH c J (Vl c) Q) P (lift (cut x lo hi Z))):c.W A (getItem va (.ref sl)) Q E P.s:=by
 refine F.lb λl q F1=>F1.lm.2.lb λi ly F2=>F2.lb λj hj F3=> ?_
 have hf:=F1.lm.1
 have pl:=tU ly pl
 have pu:=tU hj pu
 clear F F1 F2
 cases x with
 |tup k=>
  cases q
  refine VR.d8 (M:=λva=>c.W A (getItem va (.ref sl)) Q E P.s) V λt xs n g V=> ?_
  have n1:=b4.size (c:=c) (P:=P) V
  refine Cn ⟨_,g,rfl,n,rfl⟩ hs pl.1 pu.1 (n1▸pl.2) (n1▸pu.2) (λe0 e1=>F3.same I ?_) (sT I (ay.take (j-i) (ay.drop i V)) F3 (t:=P.s.toks)) (dF (n1▸Nat.le_succ_of_le (eA hf)))
  rw[e1,n1,e0,List.drop_zero,List.take_length]
  exact VR.pY g V
 |cQ k=>
  cases q
  obtain ⟨t,o,xs,rfl,g,g1,g2,V⟩:=V
  exact wa I ⟨o,I.kc _ _ g,g1,g2⟩ V hf hs pl pu F3
 |ref r=>
  refine bm q λo e ql=> ?_
  cases fZ ql
  exact Vl.ref (M:=λva=>c.W A (getItem va (.ref sl)) Q E P.s) I V e λa ea M=>M.elim λxs M=>M.elim λn M=>wa I ⟨_,M.1,rfl,n,rfl⟩ M.2 hf hs pl pu F3
 |_=>exact(aH rfl q).elim
end
section
variable{c:Cx}{β:Type}{E:Value->Shared->Prop}{J:Loc}{Z:ae}{P:Pt}{K:eU c β}{Q:Bool->Shared->Prop}
theorem Fo.pick{t:Option Bool}{x y:Out β}(F:Fo E K P (pick t x y))(h:∀b P',To c P P'->Inv c J Z P'->Fo E K P' (cond b x y)->Q b P'.s):Fo E (bH c J (λO=>Eq) Q) P (read Z t):=by
 cases t with
 |none=>exact F
 |some b=>
  intro P' a A I e
  cases e
  cases b with
  |true=>exact h true P' A I (F.up A)
  |false=>exact h false P' A I (F.up A)
theorem Fo.u5{X:Out PV}{x y:ae->Out β}(F:Fo E K P (FR.au X λv Z=>FR.pick (truth Z v) (x Z) (y Z)))(h:∀b af P',To c P P'->Inv c J af P'->Fo E K P' (cond b (x af) (y af))->Q b P'.s):Fo E (bH c J (λO=>Eq) Q) P (jB X):=by
 cases X with
 |none=>exact F
 |some r=>
  obtain ⟨r,af⟩:=r
  cases r with
  |error e=>exact F
  |ok v=>exact Fo.pick (F:Fo E K P (FR.pick (truth af v) (x af) (y af))) λb P'=>h b af P'
variable{K:eU c Bool}
theorem Fo.PU{X:Out PV}{x:ae->Out PV}(F:Fo E K P (jB (FR.au X λv Z=>FR.pick (truth Z v) (x Z) (give v Z))))(h:∀b af P',To c P P'->Inv c J af P'->Fo E K P' (cond b (jB (x af)) (give false af))->Q b P'.s):Fo E (bH c J (λO=>Eq) Q) P (jB X):=by
 refine Fo.u5 (x:=λZ=>jB (x Z)) (y:=λZ=>give false Z) ?_ h
 cases X with
 |none=>exact F
 |some r=>
  obtain ⟨r,af⟩:=r
  cases r with
  |error e=>exact F
  |ok v=>
   revert F
   show Fo E K P (jB (FR.pick (truth af v) (x af) (give v af)))->Fo E K P (FR.pick (truth af v) (jB (x af)) (give false af))
   cases q:truth af v with
   |none=>exact id
   |some b=>cases b with
    |true=>exact id
    |false=>exact λF=>(congrArg (λt=>Fo E K P (read af t)) q)▸F
theorem Fo.RH{X:Out PV}{x:ae->Out PV}(F:Fo E K P (jB (FR.au X λv Z=>FR.pick (truth Z v) (give v Z) (x Z))))(h:∀b af P',To c P P'->Inv c J af P'->Fo E K P' (cond b (give true af) (jB (x af)))->Q b P'.s):Fo E (bH c J (λO=>Eq) Q) P (jB X):=by
 refine Fo.u5 (x:=λZ=>give true Z) (y:=λZ=>jB (x Z)) ?_ h
 cases X with
 |none=>exact F
 |some r=>
  obtain ⟨r,af⟩:=r
  cases r with
  |error e=>exact F
  |ok v=>
   revert F
   show Fo E K P (jB (FR.pick (truth af v) (give v af) (x af)))->Fo E K P (FR.pick (truth af v) (give true af) (jB (x af)))
   cases q:truth af v with
   |none=>exact id
   |some b=>cases b with
    |true=>exact λF=>(congrArg (λt=>Fo E K P (read af t)) q)▸F
    |false=>exact id
theorem Fo.assoc{β η θ:Type}{K:eU c β}{X:Out η}{k:η->ae->Out θ}{g:θ->ae->Out β}(F:Fo E K P (FR.au (FR.au X k) g)):Fo E K P (FR.au X λv Z=>FR.au (k v Z) g):=by
 cases X with
 |none=>exact F
 |some r=>
  obtain ⟨r,af⟩:=r
  cases r with
  |error e=>exact F
  |ok v=>exact F
theorem Fo.PW{M:Prop}{o:Option Bool}(F:Fo E K P (FR.au (read Z (o.bind λb=>some (PV.bool b))) λv Z=>read Z (truth Z v)))(h:∀b,o=some b->Fo E K P (some (.ok b,Z))->M):M:=by
 cases o with
 |none=>exact F.elim
 |some b=>exact h b rfl F
theorem Fo.PX{X:Out PV}(F:Fo E (bH c J (λO=>Eq) Q) P (jB (FR.au X λv Z=>read Z ((truth Z v).bind λb=>some (PV.bool !b))))):Fo E (bH c J (λO=>Eq) λc s=>Q (!c) s) P (jB X):=by
 cases X with
 |none=>exact F
 |some r=>
  obtain ⟨r,af⟩:=r
  cases r with
  |error e=>exact F
  |ok v=>
   revert F
   show Fo E (bH c J (λO=>Eq) Q) P (FR.au (read af ((truth af v).bind λb=>some (PV.bool !b))) _)->Fo E (bH c J (λO=>Eq) λc s=>Q (!c) s) P (read af (truth af v))
   cases truth af v with
   |none=>exact id
   |some b=>exact λF P' a A I e=>F P' (!a) A I (e▸rfl)
theorem Fo.map{α β:Type}{R:Pt->β->α->Prop}{Q Q':α->Shared->Prop}{o:Out β}(F:Fo E (bH c J R Q) P o)(h:∀a s,Q a s->Q' a s):Fo E (bH c J R Q') P o:=by
 cases o with
 |none=>exact F
 |some r=>
  obtain ⟨r,af⟩:=r
  cases r with
  |error e=>exact F
  |ok v=>exact λP' a A I r=>h _ _ (F P' a A I r)
end
section
variable{G:Gx}{J:Loc}{Z:ae}{P:Pt}
theorem Cp{i:Int}{k pos}:aJ G (.Constant (.int i) k pos) (.k (.int i)):=λO O O O O I F=>wpAny_Constant_int (F.here I (VR.l9 _ _))
theorem Cq{x:Str}{k pos}:aJ G (.Constant (.str x) k pos) (.k (.str x.cps.toList)):=λO O O O O I F=>wpAny_Constant_str (F.here I (VR.PT x.cps.toList _))
theorem AE{b:Bool}{k pos}:aJ G (.Constant (.bool b) k pos) (.k (.bool b)):=λO O O O O I F=>wpAny_Constant_bool (F.same I (VR.u1 _))
theorem AF{k pos}:aJ G (.Constant .none k pos) (.k .none):=λO O O O O I F=>wpAny_Constant_none (F.same I VR.u2)
theorem yF{x:List UInt8}{k pos}:aJ G (.Constant (.bytes x) k pos) (.k (.bytes (x.map (·.toNat)))):=λO O O O O I F=>Constant_bytes (F.here I ⟨_,_,rfl,by rw[List.toList_toArray]⟩)
theorem Ig{x:Str}{i:Nat}{pos:Pos}(hx:G.c.locs[i]? =some x)(hd:(x == ("__debug__":Str))=false):aJ G (.Name x pos) (.loc i):=λO O P Q O I F=>
 F.rd λp q F=>I.loc.elim λm N=>(N.2 i x p hx q).elim λv e=>wpAny_Name (wpAny_loadName_local (Q:=Q) G.hY.kf (G.hY.kl i x hx) (G.hY.lo.symm▸N.1) e.1 (F.same I e.2)) hd
theorem Ih{l r:PySem.Expr}{a b:ME}{o:pF}{pos:Pos}(ha:aJ G l a)(hb:aJ G r b):aJ G (.BinOp l (zj o) r pos) (.bin o a b):=λO O O O O I F=>
 wpAny_BinOp (ha.go I F λO O O O O aD V aL=>hb.go aD aL λO O O O t bI W bN=>B9 bI (V.to aD t) W bN)
theorem Ii{l r:PySem.Expr}{a b:ME}{o:Cm}{pos:Pos}(ha:aJ G l a)(hb:aJ G r b)(hm:behindInMarks (vU o) r=false):aJ G (.Compare l [vU o] [r] pos) (.cmp o a b):=λO O O O O I F=>
 wpAny_Compare1 (ha.go I F λO O O O O aD V aL=>hb.go aD aL λO O O O t bI W bN=>bN.rb λO e c8=>tT G.hu bI (V.to aD t) W e λt'=>RF c8 bI t') hm
theorem Ij{e:PySem.Expr}{a:ME}{pos:Pos}(ha:aJ G e a):aJ G (.UnaryOp .Not e pos) (.not a):=λO O O O O I F=>
 wpAny_UnaryOp (ha.go I F λp cF aQ v O aD V aL=>PyProof.Rows.not_of (iT aD V (by
  cases q:truth cF p with
  |none=>rw[q] at aL;exact aL.elim
  |some b=>rw[q] at aL;exact λP' a A I e=>e▸aL P' (.bool !b) A I (VR.u1 _))))
theorem Ik{e:PySem.Expr}{a:ME}{pos:Pos}(ha:aJ G e a):aJ G (.UnaryOp .USub e pos) (.neg a):=λO O O Q E I F=>
 wpAny_UnaryOp (ha.go I F λp cF aQ v O aD V aL=>aL.rb λi e bN=>Vl.int (M:=λv=>G.c.W G.A (unaryOp .USub v) Q E aQ.s) e V λt=>neg_int (bN.here aD (VR.l9 _ _)))
noncomputable def iN(G:Gx)(es:List PySem.Expr)(ms:bO):Prop:=∀pos,oR G (backTo pos (starEach es G.env)) ms
theorem EL:iN G [] .nil:=λO=>B8
noncomputable def aS:PySem.Expr->Bool
 |.Starred ..=>false
 |_=>true
theorem e9{e:PySem.Expr}{es:List PySem.Expr}{env:Env}(h:aS e=true):starEach (e::es) env=(false,eval e env)::starEach es env:=by
 cases e<;>first | rfl | cases h
theorem Cr{e:PySem.Expr}{es:List PySem.Expr}{m:ME}{ms:bO}(h:aS e=true)(a:aJ G e m)(b:iN G es ms):iN G (e::es) (.cons m ms):=λpos=>by
 rw[e9 h]
 exact As a (b pos)
theorem iN.go{es:List PySem.Expr}{ms:bO}(L:iN G es ms){pos:Pos}{β:Type}{K:eU G.c β}{Q:List Value->Shared->Prop}{E:Value->Shared->Prop}{k:List PV->ae->Out β}(I:Inv G.c J Z P)(F:Fo E K P (au (bg G.cf G.gl ms J Z) k))
  (h:∀p af P' v,To G.c P P'->Inv G.c J af P'->b4 G.c P' p v->Fo E K P' (k p af)->Q v P'.s):G.c.W G.A (spliced (backTo pos (starEach es G.env))) Q E P.s:=(L pos).go I F h
theorem b4.line{P:Pt}{c:Cx}{ps:List PV}{vs:List Value}(V:b4 c P ps vs)(h:fits ps=true):vs.length<=sizeLine:=dF (ay.length V▸Nat.le_succ_of_le (eA h))
theorem Il{es:List PySem.Expr}{ms:bO}{k:Nat}{pos:Pos}(h:iN G es ms):aJ G (.Tuple es k pos) (.tup ms):=λO O O O O I F=>
 wpAny_Tuple (h.go I F λO O aQ O O aD V aL=>⟨V.line aL.om.1,sT aD V aL.om.2 (t:=aQ.s.toks)⟩)
theorem EM{es:List PySem.Expr}{ms:bO}{pos:Pos}(h:iN G es ms):aJ G (.List es pos) (.list ms):=λO O O O O I F=>
 wpAny_List (h.go I F λO O aQ O O aD V aL=>⟨V.line aL.om.1,qg aD V aL.om.2 (t:=aQ.s.toks)⟩)
noncomputable def qm:PySem.Expr->Bool
 |.Slice ..=>false
 |_=>true
theorem Cs{slice:PySem.Expr}(h:qm slice=true)(o i:Value):subscripted slice false o i=operate [o,i] (getItem o i):=by
 cases slice<;>first | rfl | cases h
theorem AG{c:Cx}{x y:PV}{o:Value}{E:Value->Shared->Prop}{K:eU c PV}(I:Inv c J Z P)(V:Vl c P x o)(F:Fo E K P (read Z (index x y Z))):P.s.TypeIs o "tuple"\/P.s.TypeIs o "list"\/P.s.TypeIs o "dict":=by
 cases x with
 |tup l=>exact VR.d8 (M:=λo=>P.s.TypeIs o "tuple"\/P.s.TypeIs o "list"\/P.s.TypeIs o "dict") V λa xs n g O=>.inl ⟨_,g,rfl⟩
 |eM ks vs=>obtain ⟨a,aM,rfl,D,_⟩:=V;exact .inr (.inr (D.at (I.kc _)).typeIs)
 |ref r=>exact VR.Ez (M:=λo=>P.s.TypeIs o "tuple"\/P.s.TypeIs o "list"\/P.s.TypeIs o "dict") V λa ea=>(I.so.obj (List.mem_of_getElem? ea)).elim λo x=>.inr (x.2.c.imp (λq=>⟨o,x.1,q⟩) λq=>⟨o,x.1,q⟩)
 |_=>exact F.elim
theorem Im{value slice:PySem.Expr}{a b:ME}{pos:Pos}(RI:qm slice=true)(ha:aJ G value a)(hb:aJ G slice b):aJ G (.Subscript value slice pos) (.idx a b):=λO O O O O I F=>
 Subscript_ (ha.go I F λO O O o O aD V aL=>hb.go aD aL λO O O i t bI W bN=>
  have g:=yC G.hu bI (V.to aD t) W bN
  have s:=Cs RI o i
  (AG bI (V.to aD t) bN).elim (λT=>tail_any T PySem.F.slot_tuple_getitem.lookup g s) λT=>T.elim (λT=>tail_any T PySem.F.slot_list_getitem.lookup g s) λT=>tail_any T PySem.F.slot_dict_getitem.lookup g s)
noncomputable def qn(G:Gx)(e:Option PySem.Expr)(m:fm):Prop:=∀(J:Loc)(Z:ae)(P:Pt)(Q:Value->Shared->Prop)(E:Value->Shared->Prop),
 Inv G.c J Z P->Fo E (bH G.c J (nN G.c) Q) P (cV G.cf G.gl m J Z)->G.c.W G.A (evalPart e G.env) Q E P.s
theorem Io:qn G none .no:=λO O O O O I F=>wpAny_pure (F.same I rfl)
theorem EN{e:PySem.Expr}{m:ME}(S:aJ G e m):qn G (some e) (.yes m):=λO O O O O I F=>S.go I F λO O O O O aD V aL=>aL.same aD V
theorem qn.go{e:Option PySem.Expr}{m:fm}(S:qn G e m){β:Type}{K:eU G.c β}{Q:Value->Shared->Prop}{E:Value->Shared->Prop}{k:Option PV->ae->Out β}(I:Inv G.c J Z P)(F:Fo E K P (au (cV G.cf G.gl m J Z) k))
  (h:∀p af P' v,To G.c P P'->Inv G.c J af P'->nN G.c P' p v->Fo E K P' (k p af)->Q v P'.s):G.c.W G.A (evalPart e G.env) Q E P.s:=S J Z P Q E I (F.au h)
theorem nN.to{c:Cx}{P P':Pt}{o:Option PV}{v:Value}(V:nN c P o v)(I:Inv c J Z P)(A:To c P P'):nN c P' o v:=by
 cases o with
 |none=>exact V
 |some p=>exact Vl.to (p:=p) V I A
theorem EO{c:Cx}{x:PV}{lo hi:Option PV}{o:Value}{E:Value->Shared->Prop}{K:eU c PV}(I:Inv c J Z P)(V:Vl c P x o)(F:Fo E K P (lift (cut x lo hi Z))):P.s.TypeIs o "tuple"\/P.s.TypeIs o "list":=by
 cases x with
 |tup l=>exact VR.d8 (M:=λo=>P.s.TypeIs o "tuple"\/P.s.TypeIs o "list") V λa xs n g O=>.inl ⟨_,g,rfl⟩
 |cQ l=>obtain ⟨a,o,xs,rfl,g,g1,_⟩:=V;exact .inr ⟨o,I.kc _ _ g,g1⟩
 |ref r=>exact F.lb λl q O=>Vl.list (M:=λo=>P.s.TypeIs o "tuple"\/P.s.TypeIs o "list") (show listOf Z (.ref r)=some l from q) I V λa xs n g O=>.inr ⟨_,g,rfl⟩
 |_=>exact F.elim
theorem Ct{value:PySem.Expr}{lo hi:Option PySem.Expr}{a:ME}{l u:fm}{p pos:Pos}(ha:aJ G value a)(hl:qn G lo l)(hu:qn G hi u):
  aJ G (.Subscript value (.Slice lo hi none p) pos) (.slice a l u):=λO O O Q E I F=>
 Subscript_ (ha.go I F λO O O v O aD V aL=>wpAny_Slice (hl.go aD aL λO O O vl nO bI L bN=>hu.go bI bN λO O cR vu J1 d9 U c8=>wpAny_pure (
  have x:=d9.sub (h':=cR.s.heap.push {cls:=.type "slice",data:=.fields #[vl,vu,.none]}) (t:=cR.s.toks) λO O e=>Heap.get?_push_of_some _ e
  have V:=((V.to aD nO).to bI J1).to d9 x.2
  have g:=Co x.1 V (Heap.IsSliceOf.new cR.s.heap vl vu .none) ((L.to bI J1).to d9 x.2) (U.to d9 x.2) (c8.up x.2)
  (EO x.1 V (c8.up x.2)).elim (λT=>tail_any T PySem.F.slot_tuple_getitem.lookup g rfl) λT=>tail_any T PySem.F.slot_list_getitem.lookup g rfl)))
theorem Cu{kk:KK}{pos:Pos}:aJ G (.Dict [] [] pos) (.dC kk):=λJ Z P Q E I F=>
 have k:Sub P.s.heap (P.s.heap.push {cls:=.type "dict",data:=.dict #[]}):=λO O e=>Heap.get?_push_of_some _ e
 wpAny_Dict_empty (F.ok (I.push k (b5 _) (m:=.dict kk []) (by
  cases kk with
  |int=>exact⟨[],Heap.DictOf.new P.s.heap,rfl,.nil⟩
  |tup ts=>exact⟨[],Heap.DictOfH.new P.s.heap,rfl,.nil⟩) (t:=P.s.toks)) (VR.md (nJ I)))
noncomputable def kI:PySem.Expr->Bool
 |.BoolOp ..=>false
 |.UnaryOp ..=>false
 |.IfExp ..=>false
 |.Compare ..=>false
 |.NamedExpr ..=>false
 |_=>true
theorem wb{e:PySem.Expr}(h:kI e=true){env:Env}(whole:Sem Value):isTrue e env whole=(do let v <-whole;standAt e.pos;holding [v] (truthy v)):=by
 cases e<;>first | rfl | cases h
theorem Ip{e:PySem.Expr}{m:ME}(h:kI e=true)(S:aJ G e m):dw G e m:=λO O O O O I F=>
 isTrue_plain (S.go I F λO O O O O aD V aL=>iT aD V aL) (wb h _)
theorem EP{l r:PySem.Expr}{a b:ME}{o:Cm}{pos:Pos}(ha:aJ G l a)(hb:aJ G r b)(hm:behindInMarks (vU o) r=false):dw G (.Compare l [vU o] [r] pos) (.cmp o a b):=λO O O O O I F=>
 wpAny_isTrue_Compare1 (ha.go I F.assoc λO O O O O aD V aL=>hb.go aD aL.assoc λO O O O t bI W bN=>bN.PW λO e c8=>tT G.hu bI (V.to aD t) W e λt'=>wpAny_truthy_bool (c8.here bI rfl)) hm
theorem ER{e:PySem.Expr}{a:ME}{pos:Pos}(ha:dw G e a):dw G (.UnaryOp .Not e pos) (.not a):=λJ Z P Q E I F=>
 isTrue_not (ha J Z P (λc s'=>Q (!c) s') E I F.PX)
theorem Iq{t a b:PySem.Expr}{mt ma mb:ME}{pos:Pos}(ht:dw G t mt)(ha:aJ G a ma)(hb:aJ G b mb):aJ G (.IfExp t a b pos) (.ite mt ma mb):=λJ Z P Q E I F=>
 IfExp_ (ht J Z P _ E I (Fo.u5 (x:=ag G.cf G.gl ma J) (y:=ag G.cf G.gl mb J) F λb af P' A I' F'=>by
  cases b with
  |true=>exact ha J af P' Q E I' F'
  |false=>exact hb J af P' Q E I' F'))
theorem yG{e:PySem.Expr}{m:ME}{pos:Pos}(a:aJ G e m):aJ G (.BoolOp .And [e] pos) (.and (.cons m .nil)):=λJ Z P Q E I F=>BoolOp_one (a J Z P Q E I F)
theorem AH{e:PySem.Expr}{m:ME}{pos:Pos}(a:aJ G e m):aJ G (.BoolOp .Or [e] pos) (.or (.cons m .nil)):=λJ Z P Q E I F=>BoolOp_one (a J Z P Q E I F)
theorem Ir{e e':PySem.Expr}{es:List PySem.Expr}{m m':ME}{ms:bO}{pos:Pos}(a:aJ G e m)(b:aJ G (.BoolOp .And (e'::es) pos) (.and (.cons m' ms))):
  aJ G (.BoolOp .And (e::e'::es) pos) (.and (.cons m (.cons m' ms))):=λJ O O Q E I F=>
 BoolOp_and (a.go I F λp cF aQ v t aD V aL=>iT aD V (Fo.pick aL λc P' A I' F'=>by
  cases c with
  |true=>exact b J cF P' Q E I' F'
  |false=>exact F'.same I' (V.to aD A)))
theorem J2{e e':PySem.Expr}{es:List PySem.Expr}{m m':ME}{ms:bO}{pos:Pos}(a:aJ G e m)(b:aJ G (.BoolOp .Or (e'::es) pos) (.or (.cons m' ms))):
  aJ G (.BoolOp .Or (e::e'::es) pos) (.or (.cons m (.cons m' ms))):=λJ O O Q E I F=>
 BoolOp_or (a.go I F λp cF aQ v t aD V aL=>iT aD V (Fo.pick aL λc P' A I' F'=>by
  cases c with
  |true=>exact F'.same I' (V.to aD A)
  |false=>exact b J cF P' Q E I' F'))
theorem wc{e:PySem.Expr}{m:ME}{pos:Pos}(a:dw G e m):dw G (.BoolOp .And [e] pos) (.and (.cons m .nil)):=λJ Z P Q E I F=>
 isTrue_and (a J Z P _ E I (F.map λb s x=>by
  cases b with
  |true=>exact isTrue_and_nil x
  |false=>exact x))
theorem yH{e:PySem.Expr}{m:ME}{pos:Pos}(a:dw G e m):dw G (.BoolOp .Or [e] pos) (.or (.cons m .nil)):=λJ Z P Q E I F=>
 isTrue_or (a J Z P _ E I (F.map λb s x=>by
  cases b with
  |true=>exact x
  |false=>exact isTrue_or_nil x))
theorem ES{e e':PySem.Expr}{es:List PySem.Expr}{m m':ME}{ms:bO}{pos:Pos}(a:dw G e m)(b:dw G (.BoolOp .And (e'::es) pos) (.and (.cons m' ms))):
  dw G (.BoolOp .And (e::e'::es) pos) (.and (.cons m (.cons m' ms))):=λJ Z P Q E I F=>
 isTrue_and (a J Z P _ E I (Fo.PU (x:=λZ=>ag G.cf G.gl (.and (.cons m' ms)) J Z) F λc af P' A I' F'=>by
  cases c with
  |true=>exact b J af P' Q E I' F'
  |false=>exact F'.same I' rfl))
theorem It{e e':PySem.Expr}{es:List PySem.Expr}{m m':ME}{ms:bO}{pos:Pos}(a:dw G e m)(b:dw G (.BoolOp .Or (e'::es) pos) (.or (.cons m' ms))):
  dw G (.BoolOp .Or (e::e'::es) pos) (.or (.cons m (.cons m' ms))):=λJ Z P Q E I F=>
 isTrue_or (a J Z P _ E I (Fo.RH (x:=λZ=>ag G.cf G.gl (.or (.cons m' ms)) J Z) F λc af P' A I' F'=>by
  cases c with
  |true=>exact F'.same I' rfl
  |false=>exact b J af P' Q E I' F'))
end
noncomputable def fE(c:Cx)(Q:Flow->Shared->Prop):eU c (Fl×Loc) where
 k fl Z P:=match fl.1 with
  |.next=>∀P',To c P P'->Inv c fl.2 Z P'->Q .next P'.s
  |.cont=>∀P',To c P P'->Inv c fl.2 Z P'->Q .cont P'.s
  |.ret p=>∀P' v,To c P P'->cx c.toBs Z P'.Y P'.s.heap->Vl c P' p v->Q (.ret v) P'.s
 up fl _ _ _ A h:=by
  obtain ⟨fl,J⟩:=fl
  cases fl with
  |next=>exact λP' B=>h P' (A.trans B)
  |cont=>exact λP' B=>h P' (A.trans B)
  |ret p=>exact λP' v B=>h P' v (A.trans B)
noncomputable def dS(G:Gx)(t:PySem.Stmt)(m:MS):Prop:=∀(J:Loc)(Z:ae)(P:Pt)(Q:Flow->Shared->Prop)(E:Value->Shared->Prop),
 Inv G.c J Z P->Fo E (fE G.c Q) P (aZ G.cf G.gl m J Z)->G.c.W G.A (exec t G.env) Q E P.s
noncomputable def ig(G:Gx)(t:List PySem.Stmt)(m:bq):Prop:=∀(J:Loc)(Z:ae)(P:Pt)(Q:Flow->Shared->Prop)(E:Value->Shared->Prop),
 Inv G.c J Z P->Fo E (fE G.c Q) P (ak G.cf G.gl m J Z)->G.c.W G.A (execs t G.env) Q E P.s
set_option backward.match.sparseCases true in
noncomputable abbrev Rt(Q E:Value->Shared->Prop):Result->Shared->Prop:=λr s=>match r with
 |.ok (.ret v)=>Q v s
 |.ok _=>False
 |.error e=>E e s
noncomputable def wd(c:Cx)(E Q:Value->Shared->Prop)(P:Pt):Out PV->Prop
 |none=>False
 |some r=>match r.1 with
  |.ok p=>∀P' v,iE c.F [] P P'->cx c.toBs r.2 P'.Y P'.s.heap->Vl c P' p v->Q v P'.s
  |.error e=>zi c E P r.2 e
theorem Fo.f{c:Cx}{J:Loc}{Z:ae}{P:Pt}{E Q:Value->Shared->Prop}{o:Out PV}(F:Fo E (bH c J (Vl c) Q) P o)(I:Inv c J Z P):wd c E Q P o:=by
 cases o with
 |none=>exact F
 |some r=>
  obtain ⟨r,af⟩:=r
  cases r with
  |error e=>exact F
  |ok p=>exact λP' v A S V=>let y:=I.under A S;F P' v y.2 y.1 V
theorem wd.om{c:Cx}{P:Pt}{E Q:Value->Shared->Prop}{q:Bool}{o:Out PV}(F:wd c E Q P (az q o)):q=true/\wd c E Q P o:=by
 cases q with
 |true=>exact⟨rfl,F⟩
 |false=>exact F.elim
noncomputable def k4(cf:Nat->List PV->ae->Out PV)(b:Bs)(f:Value)(i:Nat)(n:Nat):Prop:=∀(c:Cx)(A:Around),c.toBs=b->∀(J:Loc)(Z:ae)(P:Pt)(Q E:Value->Shared->Prop)(ps:List PV)(vs:List Value),
 A.frames=some c.fr->A.handled=none->A.depth+8*n<=704->A.units+16*n<=3008->Inv c J Z P->b4 c P ps vs->wd c E Q P (cf i ps Z)->codeAny (model c.prog c.w) A (.call f ⟨vs,[]⟩) (Rt Q E) P.s
structure we(b:Bs)(a:Addr)(fd:FuncData)(locs:List Str)(np:Nat)(body:List PySem.Stmt):Prop where
 at_:∃o,b.hc.get? a=some o/\o.data=.func fd
 hb:fd.body=.stmts body
 gl:fd.globals=3
 bi:fd.builtins=0
 cd:b.hc.CodeRec fd.code fd.qualname
 lim:b.hc.NoLimit
 bind:∀vs:List Value,vs.length=np->bindArgs fd ⟨vs,[]⟩=pure ((locs.take np).zip vs)
 loc:∀x∈locs,fd.scope.names.lookup x=some .local
 Cv:∀x∈fd.scope.names,x.2≠ .cell
 nd:locs.Nodup
 np:np<=locs.length
 co:fd.scope.isCoroutine=false
 ge:fd.scope.isGenerator=false
 kf:fd.scope.kind=.function
theorem ET{ps:List PV}{k i:Nat}{p:PV}(h:bo (ps.map some++List.replicate k none) i=some p):fq ps i=some p:=by
 induction ps generalizing i with
 |nil=>
  have no:∀(k i:Nat),bo (List.replicate k none) i=none:=λk=>by
   induction k with
   |zero=>exact λO=>rfl
   |succ k ih=>exact λi=>by cases i with
    |zero=>rfl
    |succ i=>exact ih i
  exact(aH (no k i) h).elim
 |cons q ps ih=>cases i with
  |zero=>exact h
  |succ i=>exact ih h
theorem nP{V:Type}{l:List (Str×V)}{x:Str}{v:V}(nd:(l.map (·.1)).Nodup)(h:(x,v)∈l):l.lookup x=some v:=by
 induction l with
 |nil=>exact absurd h List.not_mem_nil
 |cons p l ih=>
  have nd:=List.nodup_cons.mp nd
  rw[List.lookup_cons]
  cases List.mem_cons.mp h with
  |inl e=>cases e;rw[beq_self_eq_true]
  |inr h=>
   have:(x == p.1)=false:=beq_eq_false_iff_ne.mpr λe=>nd.1 (List.mem_map.mpr ⟨_,h,e⟩)
   rw[this]
   exact ih nd.2 h
theorem AI{V:Type}{xs:List Str}{vs:List V}{i:Nat}{x:Str}{v:V}(nd:xs.Nodup)(hl:xs.length<=vs.length)(hx:xs[i]? =some x)(hv:vs[i]? =some v):(xs.zip vs).reverse.lookup x=some v:=by
 refine nP ?_ (List.mem_reverse.mpr (List.mem_of_getElem? (List.getElem?_zip_eq_some.mpr ⟨hx,hv⟩)))
 rw[List.map_reverse,List.map_fst_zip hl]
 exact(List.reverse_perm _).nodup_iff.mpr nd
section
variable{b:Bs}{gl:Nat->PV}{defs:Nat->Option aW}{P P':Pt}{F X:List Addr}{L:Addr}{h₀:Heap}{t:Nat}
theorem iE.call(hL:P.s.heap.get? L=none)(k:Sub P.s.heap h₀)(A:iE (L::F) [L] (P.at P.Y h₀ t) P'):iE F [] P P':=by
 have ne:∀{a o},P.s.heap.get? a=some o->a∉[L]:=λe m=>aH hL (List.mem_singleton.mp m▸e)
 refine⟨A.pre,λa o e x y O=>A.keep a o (k a o e) x (λm=>(List.mem_cons.mp m).elim (λq=>ne e (q▸List.mem_singleton_self _)) y) (ne e),λa x O m n=> ?_,λa x n=>A.off a (.inl (List.mem_cons_of_mem _ (x.resolve_right nofun))) n,A.same⟩
 exact(Ns.tab n).elim λO q=>q.elim λO q=>q.elim λO q=>A.ns a (List.mem_cons_of_mem _ x) (ne q.1) m (n.keeps k)
theorem yI{c:Cx}{env:Env}{outer:List Env}{af:ae}{A:Around}{E:Value->Shared->Prop}{v:Value}{s':Shared}(hc:c.fr=env::outer)(hA:A.frames=some c.fr)(hf:env.frame=some c.L)(x:oQ c af P v s')
  (h:∀e (P':Pt) ct a0,To c P P'->Inv c [] af P'->(∀o,P.s.heap.get? e=some o->e∈P.Y\/e∈c.F\/e∈[c.L])->Heap.FlyingW (hideAll P'.s.heap (e::c.F)) outer e (.ref (bT 2)) a0 ct->cx c.toBs af P'.Y (hideAll P'.s.heap (e::c.F))->P'.s.heap.UpToSlots ct->E (.ref e) {P'.s with heap:=ct}):
  wpAny (model c.prog c.w) A («leaving» env v) (λO rD=>E v rD) (λe' rD=>E e' rD) s':=by
 obtain ⟨e,oe,vs,a0,P',g1,g2,g3,g4,g5,A',I,g6⟩:=x
 have OP:=hideAll_none (h:=P'.s.heap) (e::c.F) List.mem_cons_self
 have frames:∀l:List Env,(∀env∈l,env∈c.fr)->P'.s.heap.FunFrames (hideAll P'.s.heap (e::c.F)) l:=λl=>by
  induction l with
  |nil=>exact λO=>trivial
  |cons env l ih=>
   refine λhl=>(c.kf env (hl env List.mem_cons_self)).2.elim λL q=> ?_
   have m:L∈c.F:=List.mem_filterMap.mpr ⟨env,hl env List.mem_cons_self,q.1⟩
   exact(I.ns L m).elim λO n=>(Ns.tab n).elim λo n=>n.elim λes n=>n.elim λk n=>⟨(c.kf env (hl env List.mem_cons_self)).1,⟨L,o,q.1,hideAll_none _ (List.mem_cons_of_mem _ m),n.1,λvs d=>nomatch n.2.symm.trans d⟩,ih λx hx=>hl x (List.mem_cons_of_mem _ hx)⟩
 have kept:∀a o,P'.s.heap.get? a=some o->(∀es k,o.data≠ .dict es k)->(∀vs,o.data≠ .fields vs)->(hideAll P'.s.heap (e::c.F)).get? a=some o:=λa o ea d f=>hideAll_get _ ea λm=>(List.mem_cons.mp m).elim (λq=>f vs (bp g1 (q▸ea)▸g3)) (I.zd ea d).1
 refine wpAny_leaving_firstW (hc▸hA) (hc▸frames c.fr λO h=>h) hf g1 (λO O q=>of_hideAll _ q) OP g3 g4 g5 λct lw=> ?_
 refine h e P' ct a0 A' I g6 ⟨lw.1,OP,lw.2.1.2.2,g2▸lw.2.2.1⟩ (I.so.move (λa o ea s=>kept a o ea s.t s.f) λa m o ea=>hideAll_get _ ea λq=> ?_) lw.2.2.2
 exact(List.mem_cons.mp q).elim (λq=>(I.so.obj m).elim λo' x=>x.2.f vs (bp g1 (q▸x.1)▸g3)) (I.sep a m).1
noncomputable def Cx.call(c:Cx)(fd:FuncData)(a L:Addr)(locs:List Str)(hk:fd.scope.kind=.function)(hn:c.hc.get? L=none):Cx where
 toBs:=c.toBs
 fr:=callEnv fd L a::c.fr
 L:=L
 locs:=locs
 kf env m:=(List.mem_cons.mp m).elim (λe=>e▸⟨(show (callEnv fd L a).scope.kind=.function from hk)▸nofun,L,rfl,hn⟩) (c.kf env)
 lf:=hn
theorem Cx.RJ{c:Cx}{fd:FuncData}{a L:Addr}{locs:List Str}{hk:fd.scope.kind=.function}{hn:c.hc.get? L=none}:(c.call fd a L locs hk hn).F=L::c.F:=rfl
theorem EU{c:Cx}{fd:FuncData}{a:Addr}{locs:List Str}{hk:fd.scope.kind=.function}{J:Loc}{Z:ae}{ps:List PV}{vs:List Value}{np k:Nat}(I:Inv c J Z P)(hL:P.s.heap.get? L=none)(k₀:Sub P.s.heap h₀)(mZ:h₀.Ns L λx=>(((locs.take np).zip vs).reverse).lookup x)
  (V:b4 c P ps vs) (hv:vs.length=np) (nd:locs.Nodup):Inv (c.call fd a L locs hk (I.new hL).1) (ps.map some++List.replicate k none) Z (P.at P.Y h₀ t):=by
 refine⟨I.so.keeps k₀,λa o e=>k₀ a o (I.kc a o e),λx hx=> ?_,λx hx=> ?_,_,mZ,λj x p hx hp=> ?_⟩
 ·have ne:x≠L:=λq=>(I.new hL).2.1 (q▸hx)
  exact⟨λm=>(List.mem_cons.mp m).elim ne (I.sep x hx).1,ne⟩
 ·exact(List.mem_cons.mp hx).elim (λe=>e▸⟨_,mZ⟩) λhx=>(I.ns x hx).imp λO n=>n.keeps k₀
 ·obtain ⟨v,e,W⟩:=ay.get V (ET hp)
  have hj:j<np:=hv▸(List.getElem?_eq_some_iff.mp e).1
  refine⟨v,AI (i:=j) (nd.sublist (List.take_sublist _ _)) ?_ ?_ e,VR.later (.sub k₀) W⟩
  ·rw[List.length_take,hv];exact Nat.min_le_left _ _
  ·rw[List.getElem?_take_of_lt hj];exact hx
theorem AJ{a:Addr}{fd:FuncData}{locs:List Str}{body:List PySem.Stmt}{i n:Nat}{d:aW}(F:we b a fd locs d.params body)(T:Tops b)(hd:defs i=some d)
  (hs:∀(G:Gx),G.c.toBs=b->HEq G.T T->G.cf=ar defs gl n->G.gl=gl->G.n=n->G.k=4->G.env.scope=fd.scope->G.c.locs=locs->(∃outer,G.c.fr=G.env::outer)->G.env.frame=some G.c.L->ig G body d.body):
  k4 (ar defs gl (n+1)) b (.ref a) i (n+1):=by
 intro c A Cw J Z P Q E ps vs ja hh J3 UY I V G
 subst Cw
 have G:wd c E Q P ((defs i).bind λd=>u0 (ar defs gl n) gl d ps Z):=G
 rw[hd] at G
 have hv:vs.length=d.params:=(ay.length V).trans (of_decide_eq_true G.om.1)
 have G:=G.om.2
 obtain ⟨o,ho,AK⟩:=F.at_
 refine codeAny_call_def (binds:=(locs.take d.params).zip vs) (Nat.lt_of_le_of_lt (Nat.le_trans (Nat.le_add_right _ _) J3) (by decide)) (I.kc _ _ ho) AK (F.lim.keeps I.kc) (F.cd.keeps I.kc) F.hb (BindsTo.of_eq (F.bind vs hv)) F.Cv (λx hx=>F.loc _ (List.mem_of_mem_take (List.of_mem_zip (a:=x.1) (b:=x.2) hx).1)) (λh₀ mZ hk=> ?_) F.co F.ge F.kf
 have hL:=b5 P.s.heap
 have hn:=I.new hL
 have fe:=EU (fd:=fd) (a:=a) (hk:=F.kf) (k:=d.locals-d.params) (t:=P.s.toks+((locs.take d.params).zip vs).length) I hL hk mZ V hv F.nd
 have hY:ry (c.call fd a P.s.heap.objs.size locs F.kf hn.1) (A.deeper (callEnv fd P.s.heap.objs.size a)) (callEnv fd P.s.heap.objs.size a) n 4:=
  ⟨F.kf,F.gl,F.bi,rfl,λj x hx=>F.loc x (List.mem_of_getElem? hx),F.nd,by show A.frames.map _=_;rw[ja];rfl,hh,by show A.depth+1+8*n+4<=704;omega,by show A.units+3+16*n+4<=3008;omega⟩
 refine hs ⟨c.call fd a P.s.heap.objs.size locs F.kf hn.1,_,_,ar defs gl n,gl,n,4,T,hY⟩ rfl HEq.rfl rfl rfl rfl rfl rfl rfl ⟨_,rfl⟩ rfl _ _ (P.at P.Y h₀ _) _ _ fe ?_
 show Fo _ _ _ (ak (ar defs gl n) gl d.body (ps.map some++List.replicate (d.locals-d.params) none) Z)
 revert G
 generalize ak (ar defs gl n) gl d.body (ps.map some++List.replicate (d.locals-d.params) none) Z=r
 intro G
 cases r with
 |none=>exact G
 |some r=>
  obtain ⟨r,af⟩:=r
  cases r with
  |error e=>
   cases e with
   |hZ=>exact G.elim
   |fresh=>
    intro v s' x
    refine yI (c:=c.call fd a P.s.heap.objs.size locs F.kf hn.1) rfl hY.fr rfl x λe P' ct a0 A' I' g6 fl so sm=> ?_
    have B:=iE.call hL hk A'
    have eq:({P'.s with heap:=ct}:Shared)={P.s with heap:=ct,toks:=P'.s.toks}:=by rw[B.same]
    rw[eq]
    have nx:∀b o,P.s.heap.get? b=some o->b∉P.s.heap.objs.size::c.F->b∉P.Y->b∉e::P.s.heap.objs.size::c.F:=λb o e x y m=>
     (List.mem_cons.mp m).elim (λq=>(g6 o (hk _ _ (q▸e))).elim (λz=>y (q▸z)) λz=>z.elim (λz=>x (q▸z)) λz=>x (q▸List.mem_cons.mpr (.inl (List.mem_singleton.mp z)))) x
    have nL:∀b o,P.s.heap.get? b=some o->b∉c.F->b∉P.s.heap.objs.size::c.F:=λb o e y m=>(List.mem_cons.mp m).elim (λq=>aH hL (q▸e)) y
    exact G _ _ ⟨e,P'.Y,_,ct,P'.s.toks,a0,fl,so,B.pre,λb o e x y O=>⟨(B.keep b o e x y nofun).1,hideAll_get _ (B.keep b o e x y nofun).2 (nx b o e (nL b o e y) x)⟩,λb x O m N=>Heap.UpToSlots.ns sm (B.ns b x nofun m N),λb x y=>x.elim (λx=>B.off b (.inl x) y) λx=>((I.under B I'.so).1.sep b · |>.2 (List.mem_singleton.mp x))⟩
  |ok fl=>
   obtain ⟨fl,aN⟩:=fl
   cases fl with
   |cont=>exact G.elim
   |next=>exact λP' A' I'=>G P' .none (iE.call hL hk A') I'.so rfl
   |ret p=>exact λP' v A' S V=>G P' v (iE.call hL hk A') S V
variable{G:Gx}{J:Loc}{Z:ae}{Q:Value->Shared->Prop}{E:Value->Shared->Prop}
theorem iU{x:Str}{v:Value}{pos:Pos}(I:Inv G.c J Z P)(hk:G.env.kindOf x=some .globalImplicit)(hx:G.T.mg x=some v)(hd:(x == ("__debug__":Str))=false)(h:Q v P.s):G.c.W G.A (eval (.Name x pos) G.env) Q E P.s:=
 Name_function_global G.hY.kf hk (loadGlobal_global (G.hY.gl.symm▸G.T.ng.keeps I.kc) hx h) hd
theorem dJ{x:Str}{v:Value}{pos:Pos}(I:Inv G.c J Z P)(hk:G.env.kindOf x=some .globalImplicit)(hx:G.T.mg x=none)(hb:G.T.mb x=some v)(hd:(x == ("__debug__":Str))=false)(h:Q v P.s):G.c.W G.A (eval (.Name x pos) G.env) Q E P.s:=
 Name_function_global G.hY.kf hk (loadGlobal_builtin (G.hY.gl.symm▸G.T.ng.keeps I.kc) hx (G.hY.bi.symm▸G.T.nb.keeps I.kc) hb h) hd
theorem J4{x:Str}{v:Value}{i:Nat}{pos:Pos}(hk:G.env.kindOf x=some .globalImplicit)(hx:G.T.mg x=some v)(hd:(x == ("__debug__":Str))=false)(hv:VR G.c.toBs G.c.hc [] (G.gl i) v):aJ G (.Name x pos) (.gl i):=λO O P O O I F=>
 iU I hk hx hd (F.same I (VR.later ⟨λa o e O=>I.kc a o e,P.Y,rfl⟩ hv))
theorem b6{f:Value}{l:List (Bool×Sem Value)}{Q:Args->Shared->Prop}{M:Model}{A:Around}{s:Shared}(hl:l.any (·.1)=false)
  (h:wpAny M A (spliced l) (λvs s'=>Q ⟨vs,[]⟩ s') E s):wpAny M A (evalArgs f true l []) Q E s:=by
 cases l with
 |nil=>
  unfold evalArgs
  show wpAny M A (spliced [] >>= _) Q E s
  exact wpAny_bind (wpAny_mono h (λvs s' h'=>wpAny_holding (wpAny_bind (wpAny_pure (wpAny_bind (wpAny_pure (wpAny_pure h')))))) λO O x=>x)
 |cons p rest=>
  obtain ⟨q,x⟩:=p
  cases q with
  |false=>exact evalArgs_plain h
  |true=>exact nomatch hl
theorem bj{es:List PySem.Expr}{pos:Pos}{env:Env}(h:es.all aS=true):(backTo pos (starEach es env)).any (·.1)=false:=by
 induction es with
 |nil=>rfl
 |cons e es ih=>
  have h:=aw h
  rw[e9 h.1]
  exact ih h.2
theorem jM{e:PySem.Expr}{m:ME}{pos:Pos}(hu:aS e=true)(S:aJ G e m){Q:List Value->Shared->Prop}{β:Type}{K:eU G.c β}{k:PV->ae->Out β}(I:Inv G.c J Z P)(F:Fo E K P (au (ag G.cf G.gl m J Z) k))
  (h:∀p af P' v,To G.c P P'->Inv G.c J af P'->Vl G.c P' p v->Fo E K P' (k p af)->Q [v] P'.s):G.c.W G.A (spliced (backTo pos (starEach [e] G.env))) Q E P.s:=by
 rw[e9 hu]
 exact spliced_cons (S.go I F λp af P' v A I' V F'=>spliced_nil (h p af P' v A I' V F'))
theorem Cy{f:Value}{i:Nat}(F:k4 G.cf G.c.toBs f i G.n){ps:List PV}{vs:List Value}(I:Inv G.c J Z P)(V:b4 G.c P ps vs)(RK:Fo E (bH G.c J (Vl G.c) Q) P (G.cf i ps Z)):G.c.W G.A (call f vs) Q E P.s:=
 wpAny_call (F G.c G.A rfl J Z P Q E ps vs G.hY.fr G.hY.hn (Nat.le_trans (Nat.le_add_right _ _) G.hY.dp) (Nat.le_trans (Nat.le_add_right _ _) G.hY.hu) I V (RK.f I))
theorem Cz{x:Str}{a:Addr}{i:Nat}{p pos:Pos}{es:List PySem.Expr}{ms:bO}(hk:G.env.kindOf x=some .globalImplicit)(hx:G.T.mg x=some (.ref a))(hd:(x == ("__debug__":Str))=false)
  (hu:es.all aS=true) (L:iN G es ms) (F:k4 G.cf G.c.toBs (.ref a) i G.n) (hf:∃o fd,G.c.hc.get? a=some o/\o.data=.func fd):aJ G (.Call (.Name x p) es [] pos) (.ax i ms):=λO O O O O I F'=>
 hf.elim λo hf=>hf.elim λfd hf=>Call_ (iU I hk hx hd (callWith_function (o:=o) (fd:=fd) (b6 (bj hu) (L.go I F' λO O O O O aD V aL=>⟨⟨aD.kc _ _ hf.1,hf.2⟩,Cy F aD V aL⟩))))
theorem dG{e:PySem.Expr}(hu:aS e=true):[e].all aS=true:=by rw[List.all_cons,hu];rfl
theorem Iu{x:Str}{p pos:Pos}{e:PySem.Expr}{m:ME}(hk:G.env.kindOf x=some .globalImplicit)(hx:G.T.mg x=none)(hb:G.T.mb x=some (.builtin "len"))(hd:(x == ("__debug__":Str))=false)
  (hu:aS e=true) (S:aJ G e m):aJ G (.Call (.Name x p) [e] [] pos) (.aF .len m):=λO O O O O I F=>
 Call_ (dJ I hk hx hb hd (callWith_builtin (bj (dG hu)) (b6 (bj (dG hu)) (jM hu S I F λO O O O O aD V aL=>Ck aD V aL))))
theorem AL{x:Str}{p pos:Pos}{e:PySem.Expr}{m:ME}(hk:G.env.kindOf x=some .globalImplicit)(hx:G.T.mg x=none)(hb:G.T.mb x=some (.type "list"))(hd:(x == ("__debug__":Str))=false)
  (hu:aS e=true) (S:aJ G e m):aJ G (.Call (.Name x p) [e] [] pos) (.aF .list m):=λO O O O O I F=>
 Call_ (dJ I hk hx hb hd (PyProof.Rows.callWith_type (bj (dG hu)) (b6 (bj (dG hu)) (jM hu S I F λO O O O O aD V aL=>v3 aD V aL))))
end
noncomputable def idOf:Nat->String
 |0=>"dict.get"
 |1=>"dict.setdefault"
 |_=>"list.append"
noncomputable def qp:Nat->Str
 |0=>"get"
 |1=>"setdefault"
 |_=>"append"
section
variable{c:Cx}{A:Around}{E:Value->Shared->Prop}{J:Loc}{Z:ae}{P:Pt}{va:Value}{x:PV}{Q:Value->Shared->Prop}{ps:List PV}{vs:List Value}
theorem J5{c m:Nat}(h:(bif Nat.beq c 0 then Nat.beq m 3 else (Nat.beq c 1&&(Nat.beq m 3||(Nat.beq m 4||Nat.beq m 5))))=true):3<=m/\∃f,dW c m=some f:=by
 match c,h with
 |0,h=>rw[Nat.eq_of_beq_eq_true h];exact⟨Nat.le_refl _,_,rfl⟩
 |1,h=>
  have h:(Nat.beq m 3||(Nat.beq m 4||Nat.beq m 5))=true:=h
  rcases Bool.or_eq_true_iff.mp h with h | h
  ·rw[Nat.eq_of_beq_eq_true h];exact⟨by decide,_,rfl⟩
  ·rcases Bool.or_eq_true_iff.mp h with h | h
   ·rw[Nat.eq_of_beq_eq_true h];exact⟨by decide,_,rfl⟩
   ·rw[Nat.eq_of_beq_eq_true h];exact⟨by decide,_,rfl⟩
theorem b4.two{q:PV×PV}{M:List Value->Prop}(W:b4 c P ps vs)(e:FR.two ps=some q)(k:∀v u,Vl c P q.1 v->Vl c P q.2 u->M [v,u]):M vs:=by
 cases ps with
 |nil=>exact nomatch e
 |cons p ps=>cases ps with
  |nil=>exact nomatch e
  |cons p' ps=>cases ps with
   |cons _ _=>exact nomatch e
   |nil=>cases e;exact ay.cI (M:=M) W λv vs V W=>ay.cI (M:=λvs=>M (v::vs)) W λu vs U W=>ay.elim0 (M:=λvs=>M (v::u::vs)) W (k v u V U)
theorem wg(hu:A.units<=3900){m:Nat}(I:Inv c J Z P)(V:Vl c P x va)(W:b4 c P ps vs)(F:Fo E (bH c J (Vl c) Q) P (lift (method m x ps Z))):c.W A (call (.builtin (idOf m)) (va::vs)) Q E P.s:=
 match m with
 |0=>F.lb λq e F=>W.two (M:=λvs=>c.W A (call (.builtin "dict.get") (va::vs)) Q E P.s) e λO O V1 V2=>Cj hu I V V1 V2 F
 |1=>F.lb λq e F=>W.two (M:=λvs=>c.W A (call (.builtin "dict.setdefault") (va::vs)) Q E P.s) e λO O V1 V2=>qj I V V1 V2 F
 |2=>by
  cases ps with
  |nil=>exact F.elim
  |cons p ps=>cases ps with
   |cons _ _=>exact F.elim
   |nil=>exact ay.cI (M:=λvs=>c.W A (call (.builtin "list.append") (va::vs)) Q E P.s) W λv vs V1 W=>ay.elim0 (M:=λvs=>c.W A (call (.builtin "list.append") (va::v::vs)) Q E P.s) W (Cg I V V1 F)
 |_+3=>F.elim
end
section
variable{G:Gx}{J:Loc}{Z:ae}{P:Pt}
theorem CA{es:List PySem.Expr}{pos:Pos}{env:Env}(h:es.all aS=true)(hl:es.length<30):((backTo pos (starEach es env)).all (λx=> !x.1)&&(backToKw pos (keywordEach [] env)).all (λx=>x.1.isSome)
   &&decide (es.length+([]:List Keyword).length+(if ([]:List Keyword).isEmpty then 0 else 1)<30))=true:=by
 have b:(backTo pos (starEach es env)).all (λx=> !x.1)=true:=by rw[List.all_eq_not_any_not];simpa using bj h
 rw[b]
 exact decide_eq_true hl
noncomputable def MT(m:Nat)(P:Pt)(v:Value):Prop:=∃T,(PlainAttrs T/\Slot T (qp m) (idOf m)/\typeOf (.builtin (idOf m))=pure (.type "method_descriptor"))/\∃a ob,v=.ref a/\P.s.heap.get? a=some ob/\ob.cls=.type T/\ob.dict=none
theorem CB{P:Pt}{v:Value}(h:∃a ob,v=.ref a/\P.s.heap.get? a=some ob/\ob.cls=.type "dict"/\ob.dict=none):MT 0 P v:=⟨_,⟨PySem.F.plainAttrs_dict,PySem.F.slot_dict_get,PySem.F.type_dict_get⟩,h⟩
theorem J6{P:Pt}{v:Value}(h:∃a ob,v=.ref a/\P.s.heap.get? a=some ob/\ob.cls=.type "dict"/\ob.dict=none):MT 1 P v:=⟨_,⟨PySem.F.plainAttrs_dict,PySem.F.slot_dict_setdefault,PySem.F.type_dict_setdefault⟩,h⟩
theorem J7{P:Pt}{v:Value}(h:∃a ob,v=.ref a/\P.s.heap.get? a=some ob/\ob.cls=.type "list"/\ob.dict=none):MT 2 P v:=⟨_,⟨PySem.F.plainAttrs_list,PySem.F.slot_list_append,PySem.F.type_list_append⟩,h⟩
theorem Iv{b:Bs}{h:Heap}{Y:List Addr}{a:Addr}{kk:KK}{es:List (Key×PV)}(M:MR b h Y a (.dict kk es)):∃ob,h.get? a=some ob/\ob.cls=.type "dict"/\ob.dict=none:=by
 cases kk with
 |int=>exact M.elim λO M=>(DictOf.obj M.1).imp λO x=>⟨x.1,x.2.1.1,x.2.1.2.1⟩
 |tup ts=>exact M.elim λO M=>(DictOfH.obj M.1).imp λO x=>⟨x.1,x.2.1.1,x.2.1.2.1⟩
noncomputable def lF(m:Nat):MO->Bool
 |.dict _ _=>Nat.ble m 1
 |.list _=>Nat.beq m 2
 |.attrs _=>false
theorem CC{c:Cx}{m:Nat}{x:PV}{v:Value}(kn:cU m x Z=true)(hm:m<=2)(I:Inv c J Z P)(V:Vl c P x v):MT m P v:=by
 cases x with
 |eM ks vs=>
  obtain ⟨a,aM,e,D,_⟩:=V
  exact Nat.eq_of_beq_eq_true kn▸CB ((DictOf.obj (D.at (I.kc _))).elim λob x=>⟨a,ob,e,x.1,x.2.1.1,x.2.1.2.1⟩)
 |ref i=>
  obtain ⟨a,e,ea⟩:=V
  cases q:aj Z i with
  |none=>
   rw[show cU m (.ref i) Z=_ from congrArg (λo:Option MO=>match o with | some o=>lF m o | .none=>false) q] at kn
   cases kn
  |some o=>
   rw[show cU m (.ref i) Z=lF m o from congrArg (λo:Option MO=>match o with | some o=>lF m o | .none=>false) q] at kn
   have M:=I.so.at q ea
   cases o with
   |list l=>exact Nat.eq_of_beq_eq_true kn▸J7 (M.elim λxs M=>M.elim λn M=>⟨a,_,e,M.1,rfl,rfl⟩)
   |dict kk es=>
    have D:=(Iv M).imp λob x=>And.intro e x
    cases Nat.eq_or_lt_of_le (Nat.le_of_ble_eq_true kn) with
    |inl h=>exact h▸J6 ⟨a,D⟩
    |inr h=>exact Nat.lt_one_iff.mp h▸CB ⟨a,D⟩
   |attrs r=>exact nomatch kn
 |inst cl j=>
  have kn:(match aj Z j with | some o=>(match o with | .attrs _=>bif Nat.beq cl 0 then Nat.beq m 3 else (Nat.beq cl 1&&(Nat.beq m 3||(Nat.beq m 4||Nat.beq m 5))) | _=>false) | .none=>false)=true:=kn
  cases q:aj Z j with
  |none=>rw[q] at kn;cases kn
  |some o=>
   rw[q] at kn
   cases o with
   |attrs r=>exact absurd (Nat.le_trans (J5 kn).1 hm) (by decide)
   |_=>cases kn
 |_=>exact nomatch kn
theorem EV{cf:Nat->List PV->ae->Out PV}{m:Nat}{x:PV}{ps:List PV}{af:ae}(h:∀c j,x≠ .inst c j):fW cf x m ps af=lift (method m x ps af):=by
 cases x with
 |inst c j=>exact absurd rfl (h c j)
 |_=>rfl
theorem yJ{o:PySem.Expr}{apos pos:Pos}{es:List PySem.Expr}{mo:ME}{ms:bO}{m:Nat}(hm:m<=2)(mz:attributeBase o (qp m) G.env (eval o G.env)=eval o G.env)(hl:es.length<30)(AM:(apos.endLine == pos.line)=true)
  (hu:es.all aS=true) (S:aJ G o mo) (L:iN G es ms):aJ G (.Call (.Attribute o (qp m) apos) es [] pos) (.aK mo m ms):=by
 intro J Z P Q E I F
 refine wpAny_Call_method_lateS mz (CA hu hl) AM (S.go I F λx cF aQ v fG aD V aL=> ?_)
 obtain ⟨T,t,a,ob,rfl,ho,hc,hd⟩:=CC aL.om.1 hm aD V
 refine⟨T,idOf m,t.1,t.2.1,t.2.2,⟨ob,ho,hc⟩,λb e=>⟨ob,(Value.ref.inj e)▸ho,hd⟩,callWith_builtin (bj hu) (b6 (bj hu) (L.go aD aL.om.2 λps dk bX vs cH bI W c8=> ?_))⟩
 rw[EV λc j e=> ?_] at c8
 ·exact wg G.hu bI (V.to aD cH) W c8
 ·subst e
  obtain ⟨b,dx,e,g,_⟩:=V
  cases e
  exact nomatch (congrArg Obj.dict (bp g ho)).trans hd
noncomputable def ownName:Nat->Str
 |3=>"get"
 |4=>"count"
 |_=>"add"
noncomputable def ej:Nat->Addr
 |101=>461
 |102=>475
 |103=>496
 |104=>503
 |105=>510
 |_=>517
structure ik(K:Frag)(cl:Nat):Prop where
 ga:findIn K (.ref (bT cl)) "__getattribute__"=some (some (.builtin "object.__getattribute__"))
 gn:findIn K (.ref (bT cl)) "__getattr__"=some none
 me:∀m f,dW cl m=some f->findIn K (.ref (bT cl)) (ownName m)=some (some (.ref (ej f)))/\typeIn K (.ref (ej f))=some (.type "function")
 ro:∀hs t v n,handedIn v=true->findObj K (bT cl) (some (fu #[⟨hs,.str (Str.ofString "rows") t,v⟩] n)) "rows"=some (.value v)
 RL:makesIn K (bT cl)=true
 se:findIn K (.ref (bT cl)) "__setattr__"=some (some (.builtin "object.__setattr__"))
 po:plainOver K (bT cl)=true
 ta:takerIn K (bT cl) "rows"=some none
 hd:hasDictIn K (bT cl)=true
 tV:∀f,lr cl=some f->findIn K (.ref (bT cl)) "__init__"=some (some (.ref (ej f)))/\typeIn K (.ref (ej f))=some (.type "function")
theorem AN{name:Str}{r:Option PV}{b:Bs}{h:Heap}{Y:List Addr}{dx:Addr}(hn:(Value.str (Str.ofString "rows") 0).isStr name=false)(M:MR b h Y dx (.attrs r)):∃ds n,h.get? dx=some (fu ds n)/\lookIn name (fu ds n)=some none:=by
 refine M.imp λds=>Exists.imp λn=>And.imp_right ?_
 cases r with
 |none=>exact λx=>by subst x;rfl
 |some p=>
  rintro ⟨hs,t,v,rfl,_⟩
  have:(Value.str (Str.ofString "rows") t).isStr name=false:=hn
  delta lookIn;simp [this,DictEntry.refKey]
theorem sU{M:Model}{K:Frag}{cl m f:Nat}{x dx:Addr}{ds:Array DictEntry}{nn:Nat}{pl:Sem Bool}{s:Shared}{Q:Value×List Value->Shared->Prop}{E:Value->Shared->Prop}(X:K.In s.heap)(C:ik K cl)(hm:dW cl m=some f)
  (hx:s.heap.get? x=some (gJ cl dx)) (hd:s.heap.get? dx=some (fu ds nn)) (hl:lookIn (ownName m) (fu ds nn)=some none) (h:Q (.ref (ej f),[.ref x]) s):wpAny M A (getMethod (.ref x) (ownName m) pl) Q E s:=by
 have I:InstAt s.heap x (gJ cl dx) (bT cl) (some (fu ds nn)):=⟨hx,rfl,rfl,hd⟩
 obtain ⟨hh,g,d,t,os⟩:=s
 have T:=I.type (M:=M)
 have s1:Looks M hh (specialOf (.ref x) "__getattribute__") (some (.builtin "object.__getattribute__")):=T.andThen (looks_findIn X C.ga)
 have s2:Looks M hh (specialOf (.ref x) "__getattr__") none:=T.andThen (looks_findIn X C.gn)
 have s3:Looks M hh (specialOf (.ref x) (ownName m)) (some (.ref (ej f))):=T.andThen (looks_findIn X (C.me m f hm).1)
 have s4:Looks M hh (typeOf (.ref (ej f))) (.type "function"):=looks_typeIn X (C.me m f hm).2
 unfold getMethod
 refine wpAny_bind (s1.at ?_)
 show wpAny M A (if (Manifest.canonical "object.__getattribute__" != "object.__getattribute__")=true then _ else _) Q E _
 rw[if_neg (by decide+kernel)]
 refine wpAny_bind (s2.at ?_)
 refine wpAny_bind (s3.at ?_)
 refine wpAny_bind (s4.at ?_)
 refine wpAny_bind (wpAny_loadPart hx ?_)
 dsimp only
 refine wpAny_bind ?_
 rw[nsGet_eq]
 refine nd_load hd ?_
 rw[nsLook_of hl]
 exact wpAny_pure (wpAny_bind (wpAny_rule (wpAny_pure h)))
theorem wi(m:Nat):(Value.str (Str.ofString "rows") 0).isStr (ownName m)=false:=by
 unfold ownName
 split<;>decide+kernel
theorem EW{c:Cx}{m:Nat}{x:PV}{v:Value}(kn:cU m x Z=true)(hm:3<=m)(I:Inv c J Z P)(V:Vl c P x v):∃cl j f a dx,x=.inst cl j/\v=.ref a/\dW cl m=some f/\P.s.heap.get? a=some (gJ cl dx)/\∃r,MR c.toBs P.s.heap P.Y dx (.attrs r):=by
 cases x with
 |inst cl j=>
  have kn:(match aj Z j with | some o=>(match o with | .attrs _=>bif Nat.beq cl 0 then Nat.beq m 3 else (Nat.beq cl 1&&(Nat.beq m 3||(Nat.beq m 4||Nat.beq m 5))) | _=>false) | .none=>false)=true:=kn
  cases q:aj Z j with
  |none=>rw[q] at kn;cases kn
  |some o=>
   rw[q] at kn
   cases o with
   |attrs r=>exact(J5 kn).2.elim λf hf=>V.elim λa V=>V.elim λdx V=>⟨cl,j,f,a,dx,rfl,V.1,hf,V.2.1,r,I.so.at q V.2.2⟩
   |_=>cases kn
 |eM ks vs=>exact absurd (Nat.eq_of_beq_eq_true kn▸hm) (by decide)
 |ref i=>
  cases q:aj Z i with
  |none=>
   rw[show cU m (.ref i) Z=_ from congrArg (λo:Option MO=>match o with | some o=>lF m o | .none=>false) q] at kn
   cases kn
  |some o=>
   rw[show cU m (.ref i) Z=lF m o from congrArg (λo:Option MO=>match o with | some o=>lF m o | .none=>false) q] at kn
   cases o with
   |list l=>exact absurd (Nat.eq_of_beq_eq_true kn▸hm) (by decide)
   |dict kk es=>exact absurd (Nat.le_trans hm (Nat.le_of_ble_eq_true kn)) (by decide)
   |attrs r=>exact nomatch kn
 |_=>exact nomatch kn
theorem wj{K:Frag}(X:K.In G.c.hc)(hC:∀cl f m,dW cl m=some f->ik K cl)(hF:∀cl f m,dW cl m=some f->k4 G.cf G.c.toBs (.ref (ej f)) f G.n/\∃o fd,G.c.hc.get? (ej f)=some o/\o.data=.func fd)
  {o:PySem.Expr} {apos pos:Pos} {es:List PySem.Expr} {mo:ME} {ms:bO} {m:Nat} (hm:3<=m) (mz:attributeBase o (ownName m) G.env (eval o G.env)=eval o G.env) (hl:es.length<30) (AM:(apos.endLine == pos.line)=true)
  (hu:es.all aS=true) (S:aJ G o mo) (L:iN G es ms):aJ G (.Call (.Attribute o (ownName m) apos) es [] pos) (.aK mo m ms):=by
 intro J Z P Q E I F
 rw[arm_eval_Call,mz]
 refine wpAny_bind (S.go I F λx cF aQ v fG aD V aL=>wpAny_bind (wpAny_standAt ?_))
 have PY:methodCallPos true o G.env apos pos=pure pos:=by unfold methodCallPos;simp [AM]
 unfold methodCall
 rw[show methodCallForm (es.length+([]:List Keyword).length) (backTo pos (starEach es G.env)) (backToKw pos (keywordEach [] G.env))=true from CA hu hl]
 obtain ⟨cl,j,f,a,dx,rfl,rfl,hf,ga,r,M⟩:=EW aL.om.1 hm aD V
 obtain ⟨ds,nn,gd,lk⟩:=AN (wi m) M
 obtain ⟨F,fo,fd,ho,PZ⟩:=hF cl f m hf
 refine wpAny_bind (wpAny_holding (sU (λa o e=>aD.kc a o (X a o e)) (hC cl f m hf) hf ga gd lk (wpAny_bind (wpAny_of_eq PY ?_))))
 refine callWith_function (o:=fo) (fd:=fd) (b6 (bj hu) (L.go aD aL.om.2 λps dk bX vs cH bI W c8=>⟨⟨bI.kc _ _ ho,PZ⟩,Cy F (ps:=.inst cl j::ps) (vs:=.ref a::vs) bI (ay.cons (V.to aD cH) W) ?_⟩))
 have c8:Fo E (bH G.c J (Vl G.c) Q) bX ((dW cl m).bind λf=>G.cf f (.inst cl j::ps) dk):=c8
 rw[hf] at c8
 exact c8
theorem EX{K:Frag}(X:K.In G.c.hc)(hC:∀cl,cl<=1->ik K cl){value:PySem.Expr}{m:ME}{pos:Pos}(S:aJ G value m)(mz:attributeBase value "rows" G.env (eval value G.env)=eval value G.env):aJ G (.Attribute value "rows" pos) (.attr m):=by
 intro J Z P Q E I F
 refine Attribute_any_ (S.go I F λx cF aQ v fG aD V aL=> ?_) (by rw[arm_eval_Attribute,mz])
 refine aL.rb λq e bN=>bN.rb λo qo c8=>c8.rb λr qr k6=>k6.rb λw qw J8=>J8.rb λi qi J9=> ?_
 clear F aL bN c8 k6 J8
 obtain ⟨cl,j⟩:=q
 cases rA e;cases pJ qr;cases qw;cases kE qi
 obtain ⟨a,dx,rfl,ga,ea⟩:=V
 obtain ⟨ds,nn,gd,hs,t,w,rfl,W⟩:=aD.so.at qo ea
 obtain ⟨b,rfl,eb⟩:=W
 have C:=hC cl (Nat.le_of_ble_eq_true J9.rm.1)
 exact get_value (λa o e=>aD.kc a o (X a o e)) (ox:=gJ cl dx) (C:=bT cl) (od:=some (fu #[⟨hs,.str (Str.ofString "rows") t,.ref b⟩] nn)) ⟨ga,rfl,rfl,gd⟩ C.ga (C.ro hs t (.ref b) nn rfl) rfl (J9.rm.2.here aD (VR.md eb))
theorem tW(A:Around)(C:Addr)(vs:List Value):(A.under (.builtin "type.__call__" ⟨.ref C::vs,[]⟩)).depth=A.depth+1/\(A.under (.builtin "type.__call__" ⟨.ref C::vs,[]⟩)).units=A.units+1:=by
 constructor
 ·show A.depth+Code.weight _=_
  rw[show Code.weight (.builtin "type.__call__" ⟨.ref C::vs,[]⟩)=1 by rfl]
 ·show A.units+Code.cUnits _=_
  rw[show Code.cUnits (.builtin "type.__call__" ⟨.ref C::vs,[]⟩)=1 by rfl]
theorem Iw(UZ:4<=G.k){K:Frag}(X:K.In G.c.hc){cl f:Nat}(C:ik K cl)(hf:lr cl=some f)(F:k4 G.cf G.c.toBs (.ref (ej f)) f G.n)
  {x:Str} {p pos:Pos} {es:List PySem.Expr} {ms:bO} (hk:G.env.kindOf x=some .globalImplicit) (hx:G.T.mg x=some (.ref (bT cl))) (NL:keepIn K (.ref (bT cl))=true) (hd:(x == ("__debug__":Str))=false)
  (hu:es.all aS=true) (L:iN G es ms):aJ G (.Call (.Name x p) es [] pos) (.new cl ms):=by
 intro J Z P Q E I P0
 refine Call_ (iU I hk hx hd (callWith_of (P:=K.In) (by rw[bj hu];rfl) (keeps_K NL) (b6 (bj hu) (L.go I P0 λps cF aQ vs fG aD V sV=> ?_))))
 have jW:K.In aQ.s.heap:=λa o e=>aD.kc a o (X a o e)
 refine⟨jW,wpAny_call (make_core (makes_of jW C.RL) (looks_findIn jW (C.tV f hf).1) (λself=>bind_fn jW self (C.tV f hf).2) (.inl rfl) ?_)⟩
 have sV:Fo E (bH G.c J (Vl G.c) Q) aQ ((lr cl).bind λf=>au (G.cf f (.inst cl cF.length::ps) (cF++[.attrs .none])) λr af=>(lp r).bind λO=>give (.inst cl cF.length) af):=sV
 rw[hf] at sV
 have sV:Fo E (bH G.c J (Vl G.c) Q) aQ (au (G.cf f (.inst cl cF.length::ps) (cF++[.attrs .none])) λr af=>(lp r).bind λO=>give (.inst cl cF.length) af):=sV
 have k₂:Sub aQ.s.heap ((aQ.s.heap.push emptyDict).push (instObj (bT cl) aQ.s.heap.objs.size)):=λO O e=>Heap.get?_push_of_some _ (Heap.get?_push_of_some _ e)
 have gx:((aQ.s.heap.push emptyDict).push (instObj (bT cl) aQ.s.heap.objs.size)).get? (aQ.s.heap.objs.size+1)=some (gJ cl aQ.s.heap.objs.size):=by heap_get
 have x:=aD.push (m:=.attrs none) (t:=aQ.s.toks) k₂ (b5 _) ⟨#[],0,Heap.get?_push_of_some _ (Heap.get?_push_size _ rfl),rfl⟩
 have Vx:Vl G.c (aQ.at _ _ aQ.s.toks) (.inst cl cF.length) (.ref (aQ.s.heap.objs.size+1)):=⟨_,_,rfl,gx,nJ aD⟩
 have u:=tW G.A (bT cl) ([]++vs)
 refine codeAny_mono (F G.c _ rfl J _ (aQ.at _ _ aQ.s.toks) (λv s=>v=.none/\Q (.ref (aQ.s.heap.objs.size+1)) s) E (.inst cl cF.length::ps) (.ref (aQ.s.heap.objs.size+1)::vs) G.hY.fr G.hY.hn ?_ ?_ x.1 (ay.cons Vx (V.to aD x.2)) (Fo.f (Fo.au (R:=Vl G.c) (sV.up x.2) λr af P' v A' I' W Qa=>Qa.ob λO e Qb=> ?_) x.1)) λr s' z=> ?_
 ·rw[u.1];have:=G.hY.dp;omega
 ·rw[u.2];have:=G.hY.hu;omega
 ·cases rz e
  exact⟨W,Qb.same I' (Vx.to x.1 A')⟩
 ·rcases r with e | (v | _ | _ | _)<;>first | exact z | exact z.elim
end
theorem Iy{J:Loc}{i:Nat}{p q:PV}(h:bo (cD J i p) i=some q):q=p:=by
 induction J generalizing i with
 |nil=>exact(aH rfl h).elim
 |cons o J ih=>cases i with
  |zero=>exact(Option.some.inj h).symm
  |succ i=>exact ih h
theorem Iz{J:Loc}{i j:Nat}{p:PV}(n:j≠i):bo (cD J i p) j=bo J j:=by
 induction J generalizing i j with
 |nil=>rfl
 |cons o J ih=>cases i with
  |zero=>cases j with
   |zero=>exact absurd rfl n
   |succ j=>rfl
  |succ i=>cases j with
   |zero=>rfl
   |succ j=>exact ih λe=>n (congrArg (· +1) e)
section
variable{G:Gx}{J aN:Loc}{Z af:ae}{P:Pt}{E:Value->Shared->Prop}{p:PV}{v:Value}{i:Nat}
theorem Inv.CD{c:Cx}(I:Inv c J Z P){h':Heap}(kp:∀a o,P.s.heap.get? a=some o->a∉P.Y->a≠c.L->h'.get? a=some o):∀a o,P.s.heap.get? a=some o->dY o->h'.get? a=some o:=
 λa o e s=>kp a o e (I.so.off e s.no) (I.zd e s.t).2
theorem gD{x:Str}{Q:Unit->Shared->Prop}(I:Inv G.c J Z P)(hx:G.c.locs[i]? =some x)(V:Vl G.c P p v)(h:∀P',To G.c P P'->Inv G.c (cD J i p) Z P'->Q () P'.s):G.c.W G.A (storeName G.env x v) Q E P.s:=by
 obtain ⟨m,N,hl⟩:=I.loc
 refine wpAny_storeName_local (G.hY.kl i x hx) (G.hY.lo.symm▸N) (λh' Nh hs=> ?_) (by rw[G.hY.kf];rfl)
 rw[G.hY.lo] at Nh hs
 have kp:∀a o,P.s.heap.get? a=some o->a∉P.Y->a≠G.c.L->h'.get? a=some o:=λa o e O y=>(hs.2 a y).trans e
 have s:=I.CD kp
 have la:Later P.s.heap P.Y h' P.Y:=⟨s,[],(List.append_nil _).symm⟩
 have y:=I.write (aN:=cD J i p) (t:=P.s.toks+1) (I.so.move s λa m o e=>(hs.2 a (I.sep a m).2).trans e) kp ⟨_,Nh,λj y q hy hq=> ?_⟩
 ·exact h _ y.2 y.1
 ·by_cases Ka:j=i
  ·subst Ka
   cases Iy hq
   exact⟨v,if_pos (bp hy hx),VR.later la V⟩
  ·rw[Iz Ka] at hq
   exact(hl j y q hy hq).imp λv' x'=>⟨(if_neg λ(e:y=x)=>Ka ((List.getElem?_inj (List.getElem?_eq_some_iff.mp hy).1 G.hY.nd).mp (hy.trans (e▸hx.symm)))).trans x'.1,VR.later la x'.2⟩
theorem EY{e:PySem.Expr}{m:ME}{pos:Pos}(hs:swapsWith e none pos.line G.env=pure false)(hi:interactive G.env=false)(S:aJ G e m):dS G (.Expr e pos) (.expr m):=λO O O O O I F=>
 wpAny_Expr_any (S.go I F λO O aQ O O aD O aL=>aL aQ .refl aD) hi hs
theorem EZ{x:Str}{e:PySem.Expr}{m:ME}{p pos:Pos}(hx:G.c.locs[i]? =some x)(hs:swapsWith e (some (.Name x p)) pos.line G.env=pure false)(S:aJ G e m):dS G (.Assign [.Name x p] e pos) (.aA i m):=λO O O O O I F=>
 wpAny_Assign_Name (S.go I F λO O O O O aD V aL=>gD aD hx V aL) hs
theorem IA{e:PySem.Expr}{m:ME}{pos:Pos}(S:aJ G e m):dS G (.Return (some e) pos) (.ret m):=λO O O O O I F=>
 wpAny_Return_some (S.go I F λO O aQ v O aD V aL=>aL aQ v .refl aD.so V)
theorem E0{pos:Pos}:dS G (.Continue pos) .cont:=λO O P O O I F=>wpAny_Continue (F P .refl I)
theorem E1:ig G [] .nil:=λO O P O O I F=>wpAny_execs_nil (F P .refl I)
theorem CE{t:PySem.Stmt}{ts:List PySem.Stmt}{m:MS}{ms:bq}(a:dS G t m)(b:ig G ts ms):ig G (t::ts) (.cons m ms):=λJ Z P Q E I F=>
 wpAny_execs_cons (a J Z P _ E I (Fo.bind (k:=λf Z=>match f.1 with | .next=>ak G.cf G.gl ms f.2 Z | _=>give f Z) F λfl af F'=>by
  obtain ⟨fl,aN⟩:=fl
  cases fl with
  |next=>exact λP' A I'=>b aN af P' Q E I' (F'.up A)
  |cont=>exact F'
  |ret p=>exact F'))
theorem Kb{t:PySem.Expr}{m:ME}{a b:List PySem.Stmt}{ma mb:bq}{pos:Pos}(S:dw G t m)(ha:ig G a ma)(hb:ig G b mb):dS G (.If t a b pos) (.aP m ma mb):=λJ Z P Q E I F=>
 wpAny_If (S J Z P _ E I (Fo.u5 (x:=ak G.cf G.gl ma J) (y:=ak G.cf G.gl mb J) F λb af P' A I' F'=>by
  cases b with
  |true=>exact ha J af P' Q E I' F'
  |false=>exact hb J af P' Q E I' F'))
noncomputable def gQ(locs:List Str):List PySem.Expr->List Nat->Prop
 |[],is=>is=[]
 |e::es,is=>∃x p i GF,e=.Name x p/\is=i::GF/\locs[i]? =some x/\gQ locs es GF
theorem qq{es:List PySem.Expr}{is:List Nat}{locs:List Str}{env:Env}(h:gQ locs es is):(assignEach es env).findIdx? (·.1)=none/\(assignEach es env).length=is.length:=by
 induction es generalizing is with
 |nil=>cases h;exact⟨rfl,rfl⟩
 |cons e es ih=>
  obtain ⟨x,p,i,GF,rfl,rfl,_,h⟩:=h
  refine⟨?_,congrArg (· +1) (ih h).2⟩
  show List.findIdx? (·.1) ((false,assign (.Name x p) env)::assignEach es env)=none
  rw[List.findIdx?_cons,(ih h).1]
  rfl
theorem yK{es:List PySem.Expr}{is:List Nat}{ps:List PV}{vs:List Value}{Q:Unit->Shared->Prop}(hn:gQ G.c.locs es is)(hl:kB J is ps=some aN)(I:Inv G.c J Z P)(V:b4 G.c P ps vs)
  (h:∀P',To G.c P P'->Inv G.c aN Z P'->Q () P'.s):G.c.W G.A (assignInOrder ((assignEach es G.env).map (·.2)) vs) Q E P.s:=by
 induction es generalizing is ps vs J P with
 |nil=>
  cases hn
  cases ps with
  |nil=>cases hl;exact ay.elim0 (M:=λvs=>G.c.W G.A (assignInOrder [] vs) Q E P.s) V (wpAny_assignInOrder_none (h P .refl I))
  |cons _ _=>exact nomatch hl
 |cons e es ih=>
  obtain ⟨x,p,i,GF,rfl,rfl,hx,hn⟩:=hn
  cases ps with
  |nil=>exact nomatch hl
  |cons q ps=>exact ay.cI (M:=λvs=>G.c.W G.A (assignInOrder ((assignEach (.Name x p::es) G.env).map (·.2)) vs) Q E P.s) V λv vs V1 V2=>
    wpAny_assignInOrder_more (wpAny_assign_Name (gD I hx V1 λP' A I'=>ih hn hl I' (b4.to V2 I A) λtK B=>h tK (A.trans B)))
theorem CF{is:List Nat}{ps:List PV}(h:kB J is ps=some aN):is.length=ps.length:=by
 induction is generalizing J ps with
 |nil=>cases ps with
  |nil=>rfl
  |cons _ _=>exact nomatch h
 |cons i is ih=>cases ps with
  |nil=>exact nomatch h
  |cons _ _=>exact congrArg (· +1) (ih h)
theorem rE{es:List PySem.Expr}{is:List Nat}{kk:Nat}{tp:Pos}{l:List PV}{Q:Unit->Shared->Prop}(hn:gQ G.c.locs es is)(hl:kB J is l=some aN)(I:Inv G.c J Z P)(V:Vl G.c P (.tup l) v)
  (h:∀P',To G.c P P'->Inv G.c aN Z P'->Q () P'.s):G.c.W G.A (assign (.Tuple es kk tp) G.env v) Q E P.s:=
 VR.d8 (M:=λv=>G.c.W G.A (assign (.Tuple es kk tp) G.env v) Q E P.s) V λt xs m g V=>
  have a:=qq (env:=G.env) hn
  wpAny_assign_Tuple G.hY.hn ⟨_,g,rfl,m,rfl⟩ (a.2.trans ((CF hl).trans (b4.size (c:=G.c) (P:=P) V).symm)) a.1 λh' he=>
   have y:=I.sub (h':=h') (t:=P.s.toks) λx o e=>he x o (Nat.ne_of_lt (Heap.lt_size e)) e
   yK hn hl y.1 (b4.to V I y.2) λtK B=>h tK (y.2.trans B)
noncomputable def oW:PySem.Expr->Bool
 |.Tuple ..=>true
 |.ListComp ..=>true
 |.SetComp ..=>true
 |.DictComp ..=>true
 |_=>false
theorem CG{es:List PySem.Expr}{is:List Nat}{kk:Nat}{tp pos:Pos}{e:PySem.Expr}{m:ME}(hn:gQ G.c.locs es is)(hv:oW e=false)(S:aJ G e m):dS G (.Assign [.Tuple es kk tp] e pos) (.dD is m):=by
 intro J Z P Q E I F
 have F:Fo E (fE G.c Q) P (au (ag G.cf G.gl m J Z) λv Z=>read Z (((di v).bind (kB J is)).bind λJ=>some (.next,J))):=F
 refine Assign_Tuple (S.go I F λp O O v O aD V aL=>aL.rb λaN e bN=>bm e λl el hl=> ?_) (by cases e<;>first | rfl | cases hv) (by cases e<;>first | rfl | cases hv)
 cases dZ el
 exact rE hn hl aD V bN
theorem Fo.put{c:Cx}{M:Prop}{Q:Flow->Shared->Prop}{o:Option ae}(F:Fo E (fE c Q) P (FR.put J o))(h:∀af,o=some af->(∀P',Inv c J af P'/\To c P P'->Q .next P'.s)->M):M:=by
 cases o with
 |none=>exact F.elim
 |some af=>exact h af rfl λP' x=>F P' x.2 x.1
theorem AO{o i e:PySem.Expr}{mo mi me:ME}{p pos:Pos}(hs:oW e=false)(So:aJ G o mo)(Si:aJ G i mi)(Se:aJ G e me):
  dS G (.Assign [.Subscript o i p] e pos) (.bP mo mi me):=λJ Z P Q E I F=>
 wpAny_Assign_Subscript (Se.go I F λv O O O O aD V aL=>So.go aD aL λa O O O cH bI Va bN=>Si.go bI bN λi' NM cR O c9 d9 Vi c8=>Fo.put c8 λGG q k6=>uQ G.hu d9 (Va.to bI c9) Vi ((V.to aD cH).to bI c9) q k6) (by cases e<;>first | rfl | cases hs)
theorem IB{x:Str}{e:PySem.Expr}{m:ME}{p pos:Pos}(hx:G.c.locs[i]? =some x)(S:aJ G e m):dS G (.AugAssign (.Name x p) .Add e pos) (.aug i .add m):=by
 intro J Z P Q E I F
 obtain ⟨mm,N,hl⟩:=I.loc
 have F:Fo E (fE G.c Q) P (au (read Z (bo J i)) λx Z=>au (ag G.cf G.gl m J Z) λy Z=>au (read Z (bw x)) λm Z=>au (read Z (bw y)) λn Z=>au (lift (binop .add (.int m) (.int n) Z)) λv Z=>give (.next,cD J i v) Z):=F
 cases q:bo J i with
 |none=>rw[q] at F;exact F.elim
 |some a=>
  rw[q] at F
  have F:Fo E (fE G.c Q) P (au (ag G.cf G.gl m J Z) λy Z=>au (read Z (bw a)) λm Z=>au (read Z (bw y)) λn Z=>au (lift (binop .add (.int m) (.int n) Z)) λv Z=>give (.next,cD J i v) Z):=F
  obtain ⟨v0,ev,V0⟩:=hl i x _ hx q
  refine wpAny_AugAssign_Name (wpAny_loadName_local G.hY.kf (G.hY.kl i x hx) (G.hY.lo.symm▸N) ev ?_)
  refine S.go I F λy cF aQ vy fG aD V aL=> ?_
  cases qa:bw a with
  |none=>rw[qa] at aL;exact aL.elim
  |some j=>cases qb:bw y with
   |none=>rw[qa,qb] at aL;exact aL.elim
   |some k=>
    rw[qa,qb] at aL
    refine Vl.int (M:=λv0=>G.c.W G.A (inplaceOp .Add v0 vy) _ E aQ.s) qa (Vl.to V0 I fG) λt=>Vl.int (M:=λvy=>G.c.W G.A (inplaceOp .Add (.int j t) vy) _ E aQ.s) qb V λu=>AutoIntOps.iadd_0 (a:=j) (t:=t) (b:=k) (u:=u) ?_
    have y:=aD.sub (h':=aQ.s.heap) (t:=aQ.s.toks+1) λO O e=>e
    exact gD y.1 hx (VR.l9 _ _) λP' A' I'=>aL P' (y.2.trans A') I'
noncomputable def oX(h:Heap)(L:Addr):List (Addr×Obj):=(List.range h.objs.size).filterMap λa=>if a=L then none else (h.get? a).map (a,·)
theorem pM{h:Heap}{L a:Addr}{o:Obj}(e:h.get? a=some o)(n:a≠L):(a,o)∈oX h L:=
 List.mem_filterMap.mpr ⟨a,List.mem_range.mpr (Heap.lt_size e),by simp [n,e]⟩
theorem yL{h:Heap}{L:Addr}{p:Addr×Obj}(m:p∈oX h L):h.get? p.1=some p.2/\p.1≠L:=by
 obtain ⟨a,_,e⟩:=List.mem_filterMap.mp m
 split at e
 ·cases e
 ·rename_i hn
  obtain ⟨o,ho,rfl⟩:=Option.map_eq_some_iff.mp e
  exact⟨ho,hn⟩
set_option tactic.hygienic true in
theorem uR(h:Heap)(L:Addr):((oX h L).map (·.1)).Nodup:=by
 have go:∀l:List Nat,l.Nodup->((l.filterMap λa=>if a=L then none else (h.get? a).map (a,·)).map (·.1)).Nodup/\∀x∈((l.filterMap λa=>if a=L then none else (h.get? a).map (a,·)).map (·.1)),x∈l:=by
  intro l
  induction l with
  |nil=>intro _;simp
  |cons a l ih=>
   intro nd
   rw[List.nodup_cons] at nd
   obtain ⟨i1,i2⟩:=ih nd.2
   rw[List.filterMap_cons]
   split
   ·exact⟨i1,λx hx=>List.mem_cons_of_mem _ (i2 x hx)⟩
   ·rename_i b q
    have hb:b.1=a:=by
     split at q
     ·cases q
     ·obtain ⟨o,_,rfl⟩:=Option.map_eq_some_iff.mp q;rfl
    simp only [List.map_cons,List.nodup_cons,hb]
    exact⟨⟨λm=>nd.1 (i2 a m),i1⟩,λx hx=>by
     rcases List.mem_cons.mp hx with rfl | hx
     ·exact List.mem_cons_self
     ·exact List.mem_cons_of_mem _ (i2 x hx)⟩
 exact(go _ List.nodup_range).1
theorem E2{l:List (Addr×Obj)}{d:Addr}{o:Obj}(nd:(l.map (·.1)).Nodup)(m:(d,o)∈l):∃pre post,l=pre++(d,o)::post/\(∀p∈pre,p.1≠d)/\∀p∈post,p.1≠d:=by
 obtain ⟨pre,post,rfl⟩:=List.append_of_mem m
 rw[List.map_append,List.map_cons,List.nodup_append,List.nodup_cons] at nd
 refine⟨pre,post,rfl,λp hp e=> ?_,λp hp e=> ?_⟩
 ·exact nd.2.2 p.1 (List.mem_map_of_mem hp) d List.mem_cons_self e
 ·exact nd.2.1.1 (e▸List.mem_map_of_mem (f:=(·.1)) hp)
theorem Kd{h:Heap}{L:Addr}{m:Str->Option Value}(N:h.Ns L m):Fr {} L h m/\News {} L h (oX h L):=
 ⟨⟨N,λb o e=>by simp [Heap.get?] at e,Nat.zero_le _⟩,λp hp=>let ⟨a,b⟩:=yL hp;⟨a,b,by simp [Heap.get?]⟩⟩
theorem rF(t:Tok):(Value.str (Str.ofString "rows") t).isStr "rows"=true:=by
 show (Value.str (Str.ofString "rows") 0).isStr "rows"=true
 decide+kernel
theorem AP{K:Frag}{cl j:Nat}{a dx:Addr}{r:Option PV}{Q:Unit->Shared->Prop}(X:K.In G.c.hc)(C:ik K cl)(I:Inv G.c J Z P)
  (ga:P.s.heap.get? a=some (gJ cl dx)) (ea:P.Y[j]? =some dx) (hj:aj Z j=some (.attrs r)) (V:Vl G.c P p v)
  (h:∀P',Inv G.c J (sset Z j (.attrs (some p))) P'/\To G.c P P'->Q () P'.s):G.c.W G.A (setAttr (.ref a) "rows" v) Q E P.s:=by
 obtain ⟨ds,nn,gd,hr⟩:=I.so.at hj ea
 obtain ⟨m,N,hl⟩:=I.loc
 obtain ⟨F,Nw⟩:=Kd N
 obtain ⟨pre,post,e,n1,n2⟩:=E2 (uR P.s.heap G.c.L) (pM gd (I.sep _ (List.mem_of_getElem? ea)).2)
 have In:InstAt P.s.heap a (gJ cl dx) (bT cl) (some (fu ds nn)):=⟨ga,rfl,rfl,gd⟩
 have X':K.In P.s.heap:=λa o e=>I.kc a o (X a o e)
 obtain ⟨kJ,t',Ke,put,look⟩:∃kJ t' Ke,Obj.putName "rows" (PyData.keyHash G.c.w.params "rows") (.str "rows" (P.s.toks+1)) v (fu ds nn)=fu #[⟨kJ,.str (Str.ofString "rows") t',v⟩] Ke/\(lookIn "rows" (fu ds nn)).isSome=true:=by
  cases r with
  |none=>exact hr▸⟨_,P.s.toks+1,nn+1,putName_dict "rows" _ _ v [] nn,rfl⟩
  |some q=>
   obtain ⟨hs,t,x,rfl,_⟩:=hr
   refine⟨hs,t,nn,(putName_dict "rows" _ _ v [⟨hs,.str (Str.ofString "rows") t,x⟩] nn).trans ?_,?_⟩
   ·delta putN;simp [putL,rF t,dictOf]
   ·delta lookIn;simp [rF t]
 refine set_plain X' In C.se (osa_dict (s:={P.s with toks:=P.s.toks+1}) (pre:=pre) (post:=post) (es:=[⟨kJ,.str (Str.ofString "rows") t',v⟩]) (n:=Ke) F (e▸Nw) X' In rfl C.po C.ta C.hd look n1 n2 put rfl (show 1<=1000 by decide) λh' F' N'=> ?_)
 have kp:∀x o,P.s.heap.get? x=some o->x≠G.c.L->x≠dx->h'.get? x=some o:=λx o ex hL hd=>by
  have m:=pM ex hL
  rw[e] at m
  exact(N' (x,o) ((List.mem_append.mp m).elim (List.mem_append_left _) λm=>(List.mem_cons.mp m).elim (λm=>absurd (congrArg Prod.fst m) hd) λm=>List.mem_append_right _ (List.mem_cons_of_mem _ m))).1
 have CH:∀x o,P.s.heap.get? x=some o->x∉P.Y->x≠G.c.L->h'.get? x=some o:=λx o ex hm hL=>kp x o ex hL λq=>hm (q▸List.mem_of_getElem? ea)
 have s:=I.CD CH
 have la:Later P.s.heap P.Y h' P.Y:=⟨s,[],(List.append_nil _).symm⟩
 exact h _ (I.write (I.so.put hj ea s (λx m n o ex=>kp x o ex (I.sep x m).2 n) ⟨_,_,(N' (dx,_) (List.mem_append_right _ List.mem_cons_self)).1,kJ,t',v,rfl,VR.later la V⟩) CH ⟨m,F'.ns,λi x q hx hq=>(hl i x q hx hq).imp λO=>And.imp_right (VR.later la)⟩)
theorem E3{K:Frag}{x:PV}{va:Value}{Q:Unit->Shared->Prop}(X:K.In G.c.hc)(hC:∀cl,cl<=1->ik K cl)(I:Inv G.c J Z P)(Va:Vl G.c P x va)(V:Vl G.c P p v)(q:sH x p Z=some af)
  (h:∀P',Inv G.c J af P'/\To G.c P P'->Q () P'.s):G.c.W G.A (setAttr va "rows" v) Q E P.s:=by
 refine bm q λij e q2=>bm q2 λo qo q3=>bm q3 λr qr q4=> ?_
 obtain ⟨cl,j⟩:=ij
 cases rA e;cases pJ qr;cases (mm q4).2
 obtain ⟨b,dx,rfl,ga,ea⟩:=Va
 exact AP X (hC cl (Nat.le_of_ble_eq_true (mm q4).1)) I ga ea qo V h
theorem yM{K:Frag}(X:K.In G.c.hc)(hC:∀cl,cl<=1->ik K cl){o e:PySem.Expr}{mo me:ME}{p pos:Pos}(hs:swapsWith e (some (.Attribute o "rows" p)) pos.line G.env=pure false)(So:aJ G o mo)(Se:aJ G e me):
  dS G (.Assign [.Attribute o "rows" p] e pos) (.setAttr mo me):=λJ Z P Q E I F=>
 plainObj_wpAny_Assign_Attribute (Se.go I F λv O O vv O aD V aL=>So.go aD aL λa dk bX va cH bI Va bN=>Fo.put bN λNM q c8=>E3 X hC bI Va (V.to aD cH) q c8) hs
end
end FR
section
set_option maxRecDepth 100000
namespace FR
open PySem PySem.W PySem.Calls PyProof.Rows PySem.SeqAt
open AutoSeq1 (wpAny_loadPart')
section
variable{prog:Program}{w:World}{A:Around}{E:Value->Shared->Prop}{s:Shared}
set_option tactic.hygienic true in
set_option backward.match.sparseCases true in
theorem qt{target:PySem.Expr}{I:Addr}{v:Value}{o:Obj}{T:String}{Q:Unit->Shared->Prop}(ho:s.heap.get? I=some o)(hc:o.cls=.type T)
  (hn:(["enumerate","zip","dict_itemiterator","dict_reverseitemiterator","odict_iterator","itertools.zip_longest","itertools.pairwise"].contains T)=false) (hQ:Q () s):wpAny (model prog w) A (letOwnedTupleGo target (.ref I) v) Q E s:=by
 have go:wpAny (model prog w) A (do
   let (.ref r,.ref a):=(Value.ref I,v) | return
   let o <-load r
   match o.cls,o.data with
   |.type n,.fields vs=>
    if ["enumerate","zip","dict_itemiterator","dict_reverseitemiterator","odict_iterator","itertools.zip_longest","itertools.pairwise"].contains n&&vs[0]? == some (rawInt a) then
     rule "for.unpacks-the-owned-tuple"
     updateField r 0 .none
   |_,_=>pure ()) Q E s:=by
  cases v with
  |ref a=>
   refine wpAny_bind (wpAny_load ho ?_)
   rw[hc]
   split
   ·rename_i n vs e1 e2
    cases e1
    rw[if_neg (by rw[hn];simp)]
    exact wpAny_pure hQ
   ·exact wpAny_pure hQ
  |_=>exact wpAny_pure hQ
 cases target<;>first | exact wpAny_pure hQ | exact go
theorem pE{it t:Addr}{i:Nat}{items}{x:Value}{Q:Value->Shared->Prop}(hit:s.heap.IsTupleIter it t i)(ht:s.heap.IsTuple t items)(hx:items[i]? =some x)
  (hQ:∀h',h'.IsTupleIter it t (i+1)->Heap.SameBut it s.heap h'->Q x {s with heap:=h'}):wpAny (model prog w) A (Builtin.SmallTypes.nextOf (.ref it)) Q E s:=by
 obtain ⟨o,ho,hc,hd⟩:=id hit
 obtain ⟨ol,CI,_,nl,wk⟩:=ht
 unfold Builtin.SmallTypes.nextOf
 refine wpAny_bind (wpAny_callSpecial?_slot (name:=Str.ofString "__next__") hit.typeIs F.slot_tuple_iterator_next
  (wpAny_call_entry F.slot_tuple_iterator_next hit.typeIs F.entry_tuple_iterator_next ?_ (F.args_tuple_iterator_next_1 _)))
 show wpAny _ _ (field (.ref it) 0 >>= _) _ _ s
 refine wpAny_bind (wpAny_field ho hd (x:=.ref t) rfl ?_)
 show wpAny _ _ (if (Value.ref t == Value.none)=true then _ else _) _ _ s
 rw[if_neg (show ¬((Value.ref t == Value.none)=true) from Bool.false_ne_true)]
 show wpAny _ _ (field (.ref it) 1 >>= _) _ _ s
 refine wpAny_bind (wpAny_field ho hd (x:=.int i 0) rfl ?_)
 show wpAny _ _ (seqItems? (.ref t) >>= _) _ _ s
 refine wpAny_bind (wpAny_seqItems CI wk ?_)
 simp only [Int.toNat_natCast,hx]
 refine wpAny_bind (wpAny_setField ho hd (by simp) (wpAny_pure ⟨x,rfl,wpAny_pure (hQ _ ?_ (Heap.SameBut.update ..))⟩))
 exact⟨_,Heap.get?_update_self _ ho (Obj.isFreed_of_fields (Obj.data_mapFields hd _)),(Obj.cls_mapFields ..).trans hc,by rw[Obj.data_mapFields hd];simp [rawInt]⟩
theorem qu{it t:Addr}{i:Nat}{items}{Q:Value->Shared->Prop}(hh:A.handled=none)(hit:s.heap.IsTupleIter it t i)(ht:s.heap.IsTuple t items)(hx:items[i]? =none)
  (hE:∀h' e,Heap.ExtBut it s.heap h'->(∃o,h'.get? e=some o/\o.cls=.type "StopIteration")->E (.ref e) {s with heap:=h'}):wpAny (model prog w) A (Builtin.SmallTypes.nextOf (.ref it)) Q E s:=by
 obtain ⟨o,ho,hc,hd⟩:=id hit
 obtain ⟨ol,CI,_,nl,wk⟩:=ht
 unfold Builtin.SmallTypes.nextOf
 refine wpAny_bind (wpAny_callSpecial?_slot (name:=Str.ofString "__next__") hit.typeIs F.slot_tuple_iterator_next
  (wpAny_call_entry F.slot_tuple_iterator_next hit.typeIs F.entry_tuple_iterator_next ?_ (F.args_tuple_iterator_next_1 _)))
 show wpAny _ _ (field (.ref it) 0 >>= _) _ _ s
 refine wpAny_bind (wpAny_field ho hd (x:=.ref t) rfl ?_)
 show wpAny _ _ (if (Value.ref t == Value.none)=true then _ else _) _ _ s
 rw[if_neg (show ¬((Value.ref t == Value.none)=true) from Bool.false_ne_true)]
 show wpAny _ _ (field (.ref it) 1 >>= _) _ _ s
 refine wpAny_bind (wpAny_field ho hd (x:=.int i 0) rfl ?_)
 show wpAny _ _ (seqItems? (.ref t) >>= _) _ _ s
 refine wpAny_bind (wpAny_seqItems CI wk ?_)
 simp only [Int.toNat_natCast,hx]
 refine wpAny_bind (wpAny_rule (wpAny_bind (wpAny_setField ho hd (by simp) ?_)))
 show wpAny _ _ (newExc (.type "StopIteration") [] >>= _) _ _ _
 refine wpAny_bind ?_
 simp only [newExc,newTuple]
 refine wpAny_bind (wpAny_newObj_type ?_ (by size_fits))
 refine wpAny_bind (m:=firstArgMember _ _) (wpAny_of_eq (a:=Value.none) (by first | rfl | (simp only [firstArgMember];rfl)) ?_)
 refine wpAny_newObj_type ?_ (by size_fits)
 simp only [raiseNew]
 refine wpAny_bind (wpAny_handled ?_)
 first | rw[show A.in1.handled=none from hh] | rw[hh]
 refine wpAny_bind (wpAny_pure (wpAny_throw ?_))
 exact hE _ _ (((Heap.SameBut.update ..).extBut.push _).push _) ⟨_,Heap.get?_push_size _ rfl,rfl⟩
theorem yN(hh:A.handled=none)(it t:Addr)(dh:t≠it)(items:Array Value):
  Draws prog w A it [it,t] items.size (λi v=>items[i]? =some v) (λi h=>h.IsTupleIter it t i/\h.IsTuple t items) where
 live:=λO O st=>let ⟨o,ho,_⟩:=st.1;⟨o,ho⟩
 frame:=λO O O st hk=>⟨let ⟨o,e,r⟩:=st.1;⟨o,hk it (by simp) o e,r⟩,let ⟨o,e,r⟩:=st.2;⟨o,hk t (by simp) o e,r⟩⟩
 item:=λi s Q E hi st hQ=>by
  refine pE st.1 st.2 (x:=items[i]) (by simp [hi]) λh' Qc kJ=> ?_
  exact hQ _ h' s.toks (by simp [hi]) ⟨Qc,let ⟨o,e,r⟩:=st.2;⟨o,(kJ.2 t dh).trans e,r⟩⟩ kJ
 done:=λs Q E st hE=>qu hh st.1 st.2 (by simp) hE
set_option tactic.hygienic true in
theorem qv(l:Addr)(items:Array Value)(n:Nat)(Kf:Option Addr)(sl:Array (Option Value)):
  Meets (Builtin.«enumerate.__new__» ⟨[.type "enumerate",.ref l],[]⟩) (λO R s=>s.heap.get? l=some {cls:=.type "tuple",dict:=Kf,data:=.seq items n,slots:=sl}/\
   R (.ok (.ret (.ref (s.heap.push {cls:=.type "tuple_iterator",data:=.fields #[.ref l,.int 0 0]}).objs.size)))
    {s with heap:=(s.heap.push {cls:=.type "tuple_iterator",data:=.fields #[.ref l,.int 0 0]}).push {cls:=.type "enumerate",data:=.fields #[.none,.bool false,.ref s.heap.objs.size,rawInt 0,.none,.none]}}):=
 .of_wp λprog w A R s h=>by
  obtain ⟨hp,g,d,tk,os⟩:=s;obtain ⟨hl,h⟩:=h
  have Qd:=sub_enumerate
  have hL:Heap.IsTuple (Shared.heap ⟨hp,g,d,tk,os⟩) l items:=⟨_,hl,rfl,n,rfl⟩
  wp_walk using wpAny_loadPart' hl
  refine wpAny_stack_any λst=>wpAny_pure ?_
  split
  ·rename_i c _ _ _ _ _
   cases (c == Value.type "enumerate")
   ·wp_walk using wpAny_loadPart' hl,wpAny_pyIter_tuple hL
    exact⟨_,rfl,h⟩
   ·wp_walk using wpAny_loadPart' hl,wpAny_pyIter_tuple hL
    exact⟨_,rfl,h⟩
  ·wp_walk using wpAny_loadPart' hl,wpAny_pyIter_tuple hL
   exact⟨_,rfl,h⟩
theorem rG{l:Addr}{items:Array Value}{Q:Value->Shared->Prop}(hL:s.heap.IsTuple l items)
  (h:∀h',IsEnum h' (s.heap.objs.size+1) s.heap.objs.size 0 .none->h'.IsTupleIter s.heap.objs.size l 0->h'.objs.size=s.heap.objs.size+2->
   (∀b o,s.heap.get? b=some o->h'.get? b=some o)->Q (.ref (s.heap.objs.size+1)) {s with heap:=h'}):
  wpAny (model prog w) A (call (.type "enumerate") [.ref l]) Q E s:=by
 obtain ⟨⟨c,Kf,dt,sl⟩,hl,hc,n,hd⟩:=hL
 replace hc:c=.type "tuple":=hc
 replace hd:dt=.seq items n:=hd
 subst hc hd
 refine callType_new F.called_enumerate (by decide) (F.typeCall_enumerate_1 _) (F.newCall_enumerate_1 _) (λobj=>F.args_object_init_2 obj _) F.entry_enumerate_new
  (qv l items n Kf sl) ⟨hl,?_⟩
 have hz:(s.heap.push {cls:=.type "tuple_iterator",data:=.fields #[.ref l,.int 0 0]}).objs.size=s.heap.objs.size+1:=Heap.size_push ..
 show _/\_
 rw[hz]
 have he:IsEnum ((s.heap.push {cls:=.type "tuple_iterator",data:=.fields #[.ref l,.int 0 0]}).push
   {cls:=.type "enumerate",data:=.fields #[.none,.bool false,.ref s.heap.objs.size,rawInt 0,.none,.none]}) (s.heap.objs.size+1) s.heap.objs.size 0 .none:=by
  have:=Heap.get?_push_size (s.heap.push {cls:=.type "tuple_iterator",data:=.fields #[.ref l,.int 0 0]})
   (o:={cls:=.type "enumerate",data:=.fields #[.none,.bool false,.ref s.heap.objs.size,rawInt 0,.none,.none]}) rfl
  rw[hz] at this;exact this
 refine⟨⟨_,he,rfl⟩,h _ he ⟨_,Heap.get?_push_of_some _ (Heap.get?_push_size _ rfl),rfl,rfl⟩ (by rw[Heap.size_push,hz]) λb o x=>Heap.get?_push_of_some _ (Heap.get?_push_of_some _ x)⟩
end
end FR
end
namespace FR
open PySem PySem.W PySem.Calls PyProof.Rows PySem.SeqAt
noncomputable def Fields(h:Heap)(fp:List Addr):Prop:=∀a∈fp,∃o vs,h.get? a=some o/\o.data=.fields vs
noncomputable def Kept(fp:List Addr)(h h':Heap):Prop:=∀a o,a∉fp->h.get? a=some o->h'.get? a=some o
section
variable{c:Cx}{J aN:Loc}{Z af:ae}{P av:Pt}{fp:List Addr}{h':Heap}{t:Nat}{a:Addr}
theorem Fields.mu(hf:Fields P.s.heap fp)(S:cx c.toBs Z P.Y P.s.heap)(m:a∈fp):a∉P.Y:=λz=>
 (hf a m).elim λo x=>x.elim λvs x=>(S.obj z).elim λo' y=>y.2.f vs (bp x.1 y.1▸x.2)
theorem Fields.soft(hf:Fields P.s.heap fp)(m:a∈fp){o:Obj}(e:P.s.heap.get? a=some o)(s:dY o):False:=
 (hf a m).elim λo' x=>x.elim λvs x=>s.f vs (bp x.1 e▸x.2)
theorem Fields.later(hf:Fields P.s.heap fp)(k:Kept fp P.s.heap h'):Later P.s.heap P.Y h' P.Y:=⟨λa o e s=>k a o (λm=>hf.soft m e s) e,[],(List.append_nil _).symm⟩
theorem Inv.asked(I:Inv c J Z P)(A:To c av P)(hn:∀a∈fp,iM c av a)(hf:Fields P.s.heap fp)(k:Kept fp P.s.heap h'):Inv c J Z (P.at P.Y h' t)/\To c av (P.at P.Y h' t)/\Later P.s.heap P.Y h' P.Y:=
 I.foreign A hn (λO m=>hf.mu I.so m) (λO m O e=>hf.soft m e) k
theorem Fields.kept{P':Pt}(hf:Fields P.s.heap fp)(I:Inv c J Z P)(A:To c P P'):∀a∈fp,∀o,P.s.heap.get? a=some o->P'.s.heap.get? a=some o:=λa m o e=>
 (hf a m).elim λo' x=>x.elim λvs x=>
  have t:=I.zd e λes k d=>nomatch ((congrArg Obj.data (bp e x.1)).symm.trans d).symm.trans x.2
  (A.keep a o e (hf.mu I.so m) t.1 λz=>t.2 (List.mem_singleton.mp z)).2
end
noncomputable def Nx(c:Cx)(en:Bool)(fp:List Addr)(St:Nat->Heap->Prop)(k:Nat)(P:Pt)(Q:Option Value->Shared->Prop)(x:Option (Option PV)):Prop:=match x with
 |none=>False
 |some x=>match x with
  |none=>∀h' t',Kept fp P.s.heap h'->Q none (P.at P.Y h' t').s
  |some p=>∀v h' t',Kept fp P.s.heap h'->VR c.toBs h' P.Y (wrap en k p) v->St (k+1) h'->Q (some v) (P.at P.Y h' t').s
structure k7(c:Cx)(A:Around)(target:PySem.Expr)(it:Value)(src:Src)(en:Bool)(fp:List Addr)(St:Nat->Heap->Prop)(av:Pt):Prop where
 frame:∀k h h',St k h->(∀a∈fp,∀o,h.get? a=some o->h'.get? a=some o)->(∀a o,av.s.heap.get? a=some o->dY o->h'.get? a=some o)->St k h'
 fields:∀k h,St k h->Fields h fp
 self:∀k(s:Shared)(Q E:Value->Shared->Prop),St k s.heap->Q it s->c.W A (pyIter it) Q E s
 next:∀k Z P(Q:Option Value->Shared->Prop)(E:Value->Shared->Prop),cx c.toBs Z P.Y P.s.heap->Later av.s.heap av.Y P.s.heap P.Y->St k P.s.heap->Nx c en fp St k P Q (b9 Z k src)->
  c.W A (pyNext it) (λr cJ=>match r with | none=>Q none cJ | some v=>c.W A (letOwnedTupleGo target it v) (λO ju=>Q (some v) ju) E cJ) E P.s
section
variable{G:Gx}{J aN:Loc}{Z:ae}{P:Pt}{E:Value->Shared->Prop}
noncomputable def u7(locs:List Str)(e:PySem.Expr):iY->Prop
 |.one i=>∃x p,e=.Name x p/\locs[i]? =some x
 |.many is=>∃es k p,e=.Tuple es k p/\gQ locs es is
theorem rH{target:PySem.Expr}{t:iY}{p:PV}{v:Value}{Q:Unit->Shared->Prop}(ht:u7 G.c.locs target t)(hb:eN t p J=some aN)(I:Inv G.c J Z P)(V:Vl G.c P p v)
  (h:∀P',To G.c P P'->Inv G.c aN Z P'->Q () P'.s):G.c.W G.A (assign target G.env v) Q E P.s:=by
 cases t with
 |one i=>
  obtain ⟨x,pos,rfl,hx⟩:=ht
  cases hb
  exact wpAny_assign_Name (gD I hx V h)
 |many is=>
  obtain ⟨es,k,pos,rfl,hn⟩:=ht
  refine bm hb λl el hl=> ?_
  cases dZ el
  exact rE hn hl I V h
inductive GH(G:Gx)(t:iY)(mb:bq)(src:Src)(en:Bool)(St:Nat->Heap->Prop)(E:Value->Shared->Prop)(Q:Flow->Shared->Prop)(av:Pt)(m:Nat):Shared->Prop
 |mk (j:Nat) (J:Loc) (Z:ae) (P:Pt) (I:Inv G.c J Z P) (A:To G.c av P) (L:Later av.s.heap av.Y P.s.heap P.Y) (m6:St j P.s.heap) (F:Fo E (fE G.c Q) av (forL (ak G.cf G.gl mb) t src en m j J Z)):GH G t mb src en St E Q av m P.s
theorem E4{target:PySem.Expr}{t:iY}{body:List PySem.Stmt}{mb:bq}{it:Value}{src:Src}{en:Bool}{fp:List Addr}{St:Nat->Heap->Prop}{av:Pt}{R:Result->Shared->Prop}{m:Nat}{s:Shared}
  (ht:u7 G.c.locs target t) (B:ig G body mb) (K:k7 G.c G.A target it src en fp St av) (hn:∀a∈fp,iM G.c av a) (X:GH G t mb src en St E (λf s=>R (.ok f) s) av m s):
  codeAny (model G.c.prog G.c.w) G.A (.forLoop target it body [] G.env) R s:=by
 refine codeAny_forLoop_any (GH G t mb src en St E (λf s=>R (.ok f) s) av) ?_ m X
 rintro m _ ⟨j,J,Z,P,I,A,L,m6,F⟩
 clear X
 cases m with
 |zero=>exact F.elim
 |succ m=>
  have hf:=K.fields _ _ m6
  refine K.next j Z P (λr s=>match r with
   |none=>wpAny (model G.c.prog G.c.w) G.A (execs [] G.env) (λf ip=>R (.ok f) ip) (notedBy (model G.c.prog G.c.w) G.A G.env λe s'=>R (.error e) s') s
   |some v=>wpAny (model G.c.prog G.c.w) G.A (assign target G.env v) _ _ s) _ I.so L m6 ?_
  revert F
  show Fo E _ av (match b9 Z j src with | some x=>(match x with | some x=>(eN t (wrap en j x) J).bind λJ=>aX (ak G.cf G.gl mb J Z) λr Z=>(match r.1 with | .ret v=>give (.ret v,r.2) Z | _=>forL (ak G.cf G.gl mb) t src en m (j+1) r.2 Z) | Option.none=>give (.next,J) Z) | Option.none=>none)->Nx G.c en fp St j P _ (b9 Z j src)
  cases b9 Z j src with
  |none=>exact id
  |some x=>cases x with
   |none=>exact λF h' t' k=>let y:=I.asked A hn hf k;wpAny_execs_nil (F _ y.2.1 y.1)
   |some p=>
    intro F v h' t' k V wm
    refine F.ob λaN hb F=> ?_
    have y:=I.asked (t:=t') A hn hf k
    have Qe:=L.trans y.2.2
    have AQ:=K.fields _ _ wm
    refine rH ht hb y.1 V λbX cH bI=>B aN Z bX _ _ bI (F.aX λfl af F=> ?_)
    have go:∀{kK:Loc}{cR:Pt},To G.c bX cR->Inv G.c kK af cR->Fo E (fE G.c λf s=>R (.ok f) s) av (forL (ak G.cf G.gl mb) t src en m (j+1) kK af)->∃m',m'<m+1/\GH G t mb src en St E (λf s=>R (.ok f) s) av m' cR.s:=λ{kK cR} c9 d9 F=>
     have B:=cH.trans c9
     have AR:=Qe.trans (y.1.nt B)
     ⟨m,Nat.lt_succ_self m,j+1,kK,af,cR,d9,y.2.1.trans B,AR,K.frame _ _ _ wm (Fields.kept (P:=P.at P.Y h' t') AQ y.1 B) AR.k,F⟩
    obtain ⟨fl,kK⟩:=fl
    cases fl with
    |next=>exact λcR c9 d9=>go c9 d9 F
    |cont=>exact λcR c9 d9=>go c9 d9 F
    |ret p=>exact λcR v c9 S V=>F cR v (y.2.1.trans (cH.trans c9)) S V
end
section
variable{c:Cx}{A:Around}{env:Env}{target:PySem.Expr}{src:Src}{av:Pt}{a it e:Addr}{xs:Array Value}{l:List PV}
noncomputable def oY(c:Cx)(av:Pt)(src:Src)(a:Addr):Prop:=∀k Z P y,b9 Z k src=some y->cx c.toBs Z P.Y P.s.heap->Later av.s.heap av.Y P.s.heap P.Y->
 ∃xs n l,P.s.heap.get? a=some (gI xs n)/\b4 c P l xs.toList/\y=fq l k
noncomputable def rI(c:Cx)(av:Pt)(src:Src)(a:Addr)(xs:Array Value)(l:List PV):Prop:=(∃n,av.s.heap.get? a=some (l8 xs n))/\b4 c av l xs.toList/\∀k Z,b9 Z k src=some (fq l k)
theorem CJ{P:Pt}(T:rI c av src a xs l)(La:Later av.s.heap av.Y P.s.heap P.Y):P.s.heap.IsTuple a xs/\b4 c P l xs.toList:=
 ⟨T.1.elim λn g=>⟨_,La.k _ _ g (nq xs n),rfl,n,rfl⟩,ay.later La T.2.1⟩
theorem jc{h:Heap}{o:Obj}{vs:Array Value}(e:h.get? it=some o)(d:o.data=.fields vs):Fields h [it]:=λx hx=>List.mem_singleton.mp hx▸⟨o,vs,e,d⟩
theorem jX{h h':Heap}(hs:Heap.SameBut it h h'):Kept [it] h h':=λa o ha e=>(hs.2 a λq=>ha (List.mem_singleton.mpr q)).trans e
theorem qx{h h':Heap}(hs:Heap.ExtBut it h h'):Kept [it] h h':=λa o ha e=>hs a o (λq=>ha (List.mem_singleton.mpr q)) e
theorem IC(hh:A.handled=none)(L:oY c av src a):k7 c A target (.ref it) src false [it] (λk h=>h.IsListIter it a k) av:=by
 refine⟨λk h h' st kp O=>st.imp λo x=>⟨kp it List.mem_cons_self o x.1,x.2⟩,λk h st=>st.elim λo x=>jc x.1 x.2.2,λk s Q E st hq=>wpAny_pyIter_listiter st hq,λk Z P Q E I La st N=> ?_⟩
 cases q:b9 Z k src with
 |none=>rw[q] at N;exact N.elim
 |some y=>
  rw[q] at N
  obtain ⟨xs,n,l,g,V,rfl⟩:=L k Z P y q I La
  have hf:Fields P.s.heap [it]:=st.elim λo x=>jc x.1 x.2.2
  cases e:fq l k with
  |none=>
   rw[e] at N
   exact wpAny_pyNext_list_end hh st ⟨_,g,rfl,n,rfl⟩ (Array.getElem?_toList▸ay.past V e) λh' he=>N h' P.s.toks (qx he)
  |some p=>
   rw[e] at N
   obtain ⟨v,ev,W⟩:=ay.get V e
   refine wpAny_pyNext_list_item st ⟨_,g,rfl,n,rfl⟩ (Array.getElem?_toList▸ev) λh' eV hs=> ?_
   exact eV.elim λo' x=>qt (T:="list_iterator") x.1 x.2.1 (by decide) (N v h' P.s.toks (jX hs) (VR.later (hf.later (jX hs)) W) eV)
theorem Kg(hh:A.handled=none)(T:rI c av src a xs l):k7 c A target (.ref it) src false [it] (λk h=>h.IsTupleIter it a k) av:=by
 refine⟨λk h h' st kp O=>st.imp λo x=>⟨kp it List.mem_cons_self o x.1,x.2⟩,λk h st=>st.elim λo x=>jc x.1 x.2.2,λk s Q E st hq=>wpAny_pyIter_tupleiter st hq,λk Z P Q E I La st N=> ?_⟩
 rw[T.2.2] at N
 have t:=CJ T La
 have hf:Fields P.s.heap [it]:=st.elim λo x=>jc x.1 x.2.2
 cases e:fq l k with
 |none=>
  rw[e] at N
  exact wpAny_pyNext_tuple_end hh st t.1 (Array.getElem?_toList▸ay.past t.2 e) λh' he=>N h' P.s.toks (qx he)
 |some p=>
  rw[e] at N
  obtain ⟨v,ev,W⟩:=ay.get t.2 e
  refine wpAny_pyNext_tuple_item st t.1 (Array.getElem?_toList▸ev) λh' eV hs=> ?_
  exact eV.elim λo' x=>qt (T:="tuple_iterator") x.1 x.2.1 (by decide) (N v h' P.s.toks (jX hs) (VR.later (hf.later (jX hs)) W) eV)
theorem wo(hh:A.handled=none){x:Int}{m:Nat}:k7 c A target (.ref it) (.range x m) false [it] (λk h=>IsRangeIter h it (x+k) ((m:Int)-k) 1) av:=by
 refine⟨λk h h' st kp O=>kp it List.mem_cons_self _ st,λk h st=>jc st rfl,λk s Q E st hq=>wpAny_pyIter_rangeiter st hq,λk Z P Q E I La st N=> ?_⟩
 have N:Nx c false [it] (λk h=>IsRangeIter h it (x+k) ((m:Int)-k) 1) k P Q (some (if k<m then some (.int (x+(k:Int))) else none)):=N
 by_cases hk:k<m
 ·rw[if_pos hk] at N
  refine wpAny_pyNext_range_item st (Int.sub_pos.mpr (Int.ofNat_lt.mpr hk)) λh' eV hs=>qt (T:="range_iterator") eV rfl (by decide) (N _ h' (P.s.toks+1) (jX hs) (VR.l9 _ _) ?_)
  rw[Int.add_assoc,Int.sub_sub] at eV
  exact eV
 ·rw[if_neg hk] at N
  exact wpAny_pyNext_range_end hh st (Int.sub_nonpos_of_le (Int.ofNat_le.mpr (Nat.le_of_not_lt hk))) λh' he=>N h' P.s.toks (qx he)
end
section
variable{c:Cx}{A:Around}{src:Src}{av:Pt}{a it e:Addr}{xs:Array Value}{l:List PV}{es:List PySem.Expr}{kk:Nat}{p:Pos}
theorem rJ{h:Heap}{o:Obj}{vs ws:Array Value}{i:Int}{o1 x:Value}(he:h.get? e=some {cls:=.type "enumerate",dict:=none,data:=.fields #[o1,.bool false,.ref it,rawInt i,.none,x],slots:= #[]})(ho:h.get? it=some o)(d:o.data=.fields vs):Fields h [e,it]:=λy hy=>
 (List.mem_cons.mp hy).elim (λq=>q▸⟨_,_,he,rfl⟩) λq=>List.mem_singleton.mp q▸⟨o,vs,ho,d⟩
theorem CK{h h' hN:Heap}(hs:Heap.SameBut e h' hN)(kp:∀b o,b≠e->b≠it->h.get? b=some o->h'.get? b=some o):Kept [e,it] h hN:=λb o hb eb=>
 have n1:b≠e:=λq=>hb (List.mem_cons.mpr (.inl q))
 (hs.2 b n1).trans (kp b o n1 (λq=>hb (List.mem_cons_of_mem _ (List.mem_singleton.mpr q))) eb)
theorem tX{P:Pt}{k:Nat}{h':Heap}{v:Value}{tk:Tok}{Q:Option Value->Shared->Prop}{E:Value->Shared->Prop}{St:Nat->Heap->Prop}{q:PV}(hf:Fields P.s.heap [e,it])(W:Vl c P q v)(ho:IsEnumOut h' e it ((k:Int)+1) v P.s.heap.objs.size)
  (ht:h'.get? P.s.heap.objs.size=some {cls:=.type "tuple",data:=.seq #[.int k tk,v]}) (kp:∀b o,b≠e->b≠it->P.s.heap.get? b=some o->h'.get? b=some o) (st:∀hN,IsEnum hN e it ((k:Int)+1) v->Heap.SameBut e h' hN->St (k+1) hN)
  (N:Nx c true [e,it] St k P Q (some (some q))):c.W A (letOwnedTupleGo (.Tuple es kk p) (.ref e) (.ref P.s.heap.objs.size)) (λO ju=>Q (some (.ref P.s.heap.objs.size)) ju) E {P.s with heap:=h',toks:=tk+1}:=
 wpAny_letOwnedTupleGo_enum ho λhN wq hs=>
  have CH:=CK hs kp
  have ne:P.s.heap.objs.size≠e:=λq=>(hf e List.mem_cons_self).elim λo x=>x.elim λO x=>Nat.lt_irrefl _ (q▸Heap.lt_size x.1)
  N _ hN (tk+1) CH (VR.pY (xs:= #[.int k tk,v]) (n:=0) ((hs.2 _ ne).trans ht) (ay.cons (VR.l9 _ _) (ay.cons (VR.later (hf.later CH) W) ay.nil))) (st hN wq hs)
theorem wt(hh:A.handled=none)(L:oY c av src a)(dh:e≠it):
  k7 c A (.Tuple es kk p) (.ref e) src true [e,it] (λk h=>(∃old,IsEnum h e it (k:Int) old)/\h.IsListIter it a k) av:=by
 have wu:∀(k:Nat) h,((∃old,IsEnum h e it (k:Int) old)/\h.IsListIter it a k)->Fields h [e,it]:=λk h st=>st.1.elim λold he=>st.2.elim λo x=>rJ (ws:= #[]) he x.1 x.2.2
 refine⟨λk h h' st kp O=>⟨st.1.imp λold he=>kp e List.mem_cons_self _ he,st.2.imp λo x=>⟨kp it (List.mem_cons_of_mem _ List.mem_cons_self) o x.1,x.2⟩⟩,wu,λk s Q E st hq=>st.1.elim λO he=>wpAny_pyIter_enum he hq,λk Z P Q E I La st N=> ?_⟩
 have hf:=wu k _ st
 obtain ⟨⟨old,he⟩,st⟩:=st
 cases q:b9 Z k src with
 |none=>rw[q] at N;exact N.elim
 |some y=>
  rw[q] at N
  obtain ⟨xs,n,l,g,V,rfl⟩:=L k Z P y q I La
  cases en:fq l k with
  |none=>
   rw[en] at N
   exact wpAny_pyNext_enum_end hh he st ⟨_,g,rfl,n,rfl⟩ (Array.getElem?_toList▸ay.past V en) λh' hb=>N h' P.s.toks λa o ha e=>hb a o (λq=>ha (List.mem_cons_of_mem _ (List.mem_singleton.mpr q))) e
  |some p=>
   rw[en] at N
   obtain ⟨v,ev,W⟩:=ay.get V en
   refine wpAny_pyNext_enum_item he st ⟨_,g,rfl,n,rfl⟩ (Array.getElem?_toList▸ev) dh λh' ho eV ht eK kp=>tX hf W ho ht kp (λhN wq hs=>⟨⟨v,wq⟩,eV.imp λo x=>⟨(hs.2 it (Ne.symm dh)).trans x.1,x.2⟩⟩) N
theorem yO(hh:A.handled=none)(T:rI c av src a xs l)(dh:e≠it)(OQ:e≠a)(Gw:a≠it):
  k7 c A (.Tuple es kk p) (.ref e) src true [e,it] (λk h=>(∃old,IsEnum h e it (k:Int) old)/\(h.IsTupleIter it a k/\h.IsTuple a xs)/\k<=xs.size) av:=by
 have D:=yN (prog:=c.prog) (w:=c.w) (A:=A.in1) hh it a Gw xs
 have wu:∀(k:Nat) h,((∃old,IsEnum h e it (k:Int) old)/\(h.IsTupleIter it a k/\h.IsTuple a xs)/\k<=xs.size)->Fields h [e,it]:=λk h st=>st.1.elim λold he=>st.2.1.1.elim λo x=>rJ (ws:= #[]) he x.1 x.2.2
 refine⟨λk h h' st kp sol=>⟨st.1.imp λold he=>kp e List.mem_cons_self _ he,⟨st.2.1.1.imp λo x=>⟨kp it (List.mem_cons_of_mem _ List.mem_cons_self) o x.1,x.2⟩,T.1.elim λn g=>⟨_,sol _ _ g (nq xs n),rfl,n,rfl⟩⟩,st.2.2⟩,wu,λk s Q E st hq=>st.1.elim λO he=>wpAny_pyIter_enum he hq,λk Z P Q E I La st N=> ?_⟩
 have hf:=wu k _ st
 obtain ⟨⟨old,he⟩,st,hk⟩:=st
 rw[T.2.2] at N
 have t:=CJ T La
 cases en:fq l k with
 |none=>
  rw[en] at N
  have RM:xs[k]? =none:=Array.getElem?_toList▸ay.past t.2 en
  cases Nat.le_antisymm hk (Array.getElem?_eq_none_iff.mp RM)
  exact wpAny_pyNext_enum_endD D he st λh' hb=>N h' P.s.toks λa o ha e=>hb a o (λq=>ha (List.mem_cons_of_mem _ (List.mem_singleton.mpr q))) e
 |some p=>
  rw[en] at N
  obtain ⟨v,ev,W⟩:=ay.get t.2 en
  rw[Array.getElem?_toList] at ev
  have Kh:k<xs.size:=(Array.getElem?_eq_some_iff.mp ev).1
  refine wpAny_pyNext_enum_itemD D he st Kh dh (λm=>(List.mem_cons.mp m).elim dh λm=>OQ (List.mem_singleton.mp m)) λy h' tk hy ho eV ht eK kp=> ?_
  cases bp ev hy
  exact tX hf W ho ht kp (λhN wq hs=>⟨⟨v,wq⟩,⟨eV.1.imp λo x=>⟨(hs.2 it (Ne.symm dh)).trans x.1,x.2⟩,eV.2.imp λo x=>⟨(hs.2 a (Ne.symm OQ)).trans x.1,x.2⟩⟩,Kh⟩) N
end
section
variable{G:Gx}{J aN:Loc}{Z:ae}{P:Pt}{E:Value->Shared->Prop}
noncomputable def RN(G:Gx)(target:PySem.Expr)(av:Pt)(Q:Value->Shared->Prop)(q:Src×Bool):Prop:=
 ∀it fp St ct nO,Sub av.s.heap ct->(∀a∈fp,av.s.heap.get? a=none)->k7 G.c G.A target it q.1 q.2 fp St av->St 0 ct->Q it (av.at av.Y ct nO).s
noncomputable def CL(G:Gx)(target:PySem.Expr)(J:Loc)(Q:Value->Shared->Prop):eU G.c (Src×Bool):=⟨λq af P=>∀av,To G.c P av->Inv G.c J af av->RN G target av Q q,λO O O O A h av B=>h av (A.trans B)⟩
noncomputable def iq(G:Gx)(target iter:PySem.Expr)(mi:MI):Prop:=
 ∀(J:Loc)(Z:ae)(P:Pt)(Q E:Value->Shared->Prop),Inv G.c J Z P->Fo E (CL G target J Q) P (ft G.cf G.gl mi J Z)->
  G.c.W G.A (eval iter G.env) (λx cJ=>G.c.W G.A (pyIter x) Q E cJ) E P.s
theorem wx{c:Cx}{av:Pt}{i:Nat}{a:Addr}(ea:av.Y[i]? =some a):oY c av (.live i) a:=λk Z P y hy I La=>
 bm hy λo q h=>bm h λl ql h2=>by
  cases fZ ql;cases h2
  exact(I.at q (La.at ea)).imp λxs=>Exists.imp λn M=>⟨l,M.1,M.2,rfl⟩
theorem wy(h:Heap)(a:Addr):(h.push {cls:=.type "list_iterator",data:=.fields #[.ref a,.int 0 0]}).IsListIter h.objs.size a 0:=⟨_,Heap.get?_push_size _ rfl,rfl,rfl⟩
theorem yP(h:Heap)(a:Addr):(h.push {cls:=.type "tuple_iterator",data:=.fields #[.ref a,.int 0 0]}).IsTupleIter h.objs.size a 0:=⟨_,Heap.get?_push_size _ rfl,rfl,rfl⟩
theorem sW(h:Heap):∀a∈[h.objs.size],h.get? a=none:=λa ha=>List.mem_singleton.mp ha▸b5 h
theorem zm{h:Heap}:∀a∈[h.objs.size+1,h.objs.size],h.get? a=none:=λa ha=>(List.mem_cons.mp ha).elim (λq=>q▸Heap.get?_none_of_le (Nat.le_succ _)) (sW h a)
theorem fH{h:Heap}{o:Obj}:Sub h (h.push o):=λO O e=>Heap.get?_push_of_some _ e
theorem wz{c:Cx}{p:PV}{v:Value}{s:Src}(I:Inv c J Z P)(V:Vl c P p v)(e:srcOf Z p=some s){M:Value->Prop}(t:∀a xs n l,P.s.heap.get? a=some (l8 xs n)->rI c P s a xs l->M (.ref a))(k:∀a xs n,P.s.heap.get? a=some (gI xs n)->oY c P s a->M (.ref a)):M v:=by
 cases p with
 |tup l=>cases e;exact VR.d8 (M:=M) V λa xs n g V=>t a xs n l g ⟨⟨n,g⟩,V,λO O=>rfl⟩
 |ref i=>
  refine bm e λo q h=>bm h λl ql h2=> ?_
  cases fZ ql;cases h2
  exact Vl.ref (M:=M) I V q λa ea X=>X.elim λxs X=>X.elim λn X=>k a xs n X.1 (wx ea)
 |_=>exact(aH rfl e).elim
theorem AS{target e:PySem.Expr}{m:ME}(S:aJ G e m):iq G target e (.plain m):=by
 intro J Z P Q E I F
 have F:Fo E (CL G target J Q) P (au (ag G.cf G.gl m J Z) λv Z=>read Z ((srcOf Z v).bind λs=>some (s,false))):=F
 refine S.go I F λp cF aQ v fG aD V aL=>aL.rb λs hs bN=> ?_
 exact wz (M:=λv=>G.c.W G.A (pyIter v) Q E aQ.s) aD V hs
  (λa xs n l g T=>wpAny_pyIter_tuple ⟨_,g,rfl,n,rfl⟩ (bN aQ .refl aD _ _ _ _ aQ.s.toks fH (sW _) (Kg G.hY.hn T) (yP _ a)))
  λa xs n g L=>wpAny_pyIter_list ⟨_,g,rfl,n,rfl⟩ (bN aQ .refl aD _ _ _ _ aQ.s.toks fH (sW _) (IC G.hY.hn L) (wy _ a))
theorem CM{es:List PySem.Expr}{kk:Nat}{tp p pos:Pos}{x:Str}{e:PySem.Expr}{m:ME}(hk:G.env.kindOf x=some .globalImplicit)(hx:G.T.mg x=none)(hb:G.T.mb x=some (.type "enumerate"))(hd:(x == ("__debug__":Str))=false)(hu:aS e=true)
  (S:aJ G e m):iq G (.Tuple es kk tp) (.Call (.Name x p) [e] [] pos) (.enum m):=by
 intro J Z P Q E I F
 have F:Fo E (CL G (.Tuple es kk tp) J Q) P (au (ag G.cf G.gl m J Z) λv Z=>read Z ((srcOf Z v).bind λs=>some (s,true))):=F
 refine Call_ (dJ I hk hx hb hd (PyProof.Rows.callWith_type (bj (dG hu)) (b6 (bj (dG hu)) (jM hu S I F λp cF aQ v fG aD V aL=>aL.rb λs hs bN=> ?_))))
 exact wz (M:=λv=>G.c.W G.A (call (.type "enumerate") [v]) (λx cJ=>G.c.W G.A (pyIter x) Q E cJ) E aQ.s) aD V hs
   (λa xs n l g T=>rG (items:=xs) ⟨_,g,rfl,n,rfl⟩ λh' he hi O kp=>
    have ha:=Heap.lt_size g
    wpAny_pyIter_enum he (bN aQ .refl aD _ _ _ _ aQ.s.toks kp zm (yO (xs:=xs) (l:=l) G.hY.hn T (Nat.ne_of_gt (Nat.lt_succ_self _)) (Nat.ne_of_gt (Nat.lt_succ_of_lt ha)) (Nat.ne_of_lt ha)) ⟨⟨_,he⟩,⟨hi,_,kp _ _ g,rfl,n,rfl⟩,Nat.zero_le _⟩))
   λa xs n g L=>call_enumerate_list ⟨_,g,rfl,n,rfl⟩ λh' he hi O kp=>
    wpAny_pyIter_enum he (bN aQ .refl aD _ _ _ _ aQ.s.toks kp zm (wt G.hY.hn L (Nat.ne_of_gt (Nat.lt_succ_self _))) ⟨⟨_,he⟩,hi⟩)
theorem pN{h:Heap}{a b:Int}:IsRangeIter (h.push {cls:=.type "range_iterator",data:=.fields #[rawInt a,rawInt (Builtin.Range.rangeSize a b 1),rawInt 1]}) h.objs.size (a+((0:Nat):Int)) ((((b-a).toNat:Nat):Int)-((0:Nat):Int)) 1:=by
 have e2:((((b-a).toNat:Nat):Int)-((0:Nat):Int))=Builtin.Range.rangeSize a b 1:=by rw[rangeSize_one];split<;>omega
 rw[e2,show a+((0:Nat):Int)=a from Int.add_zero a]
 exact Heap.get?_push_size _ rfl
theorem wA{h:Heap}{o:Obj}:∀a∈[(h.push o).objs.size],h.get? a=none:=λa ha=>List.mem_singleton.mp ha▸Heap.get?_none_of_le (by rw[Heap.size_push];exact Nat.le_succ _)
theorem yQ{target:PySem.Expr}{p pos:Pos}{x:Str}{e:PySem.Expr}{m:ME}(hk:G.env.kindOf x=some .globalImplicit)(hx:G.T.mg x=none)(hb:G.T.mb x=some (.type "range"))(hd:(x == ("__debug__":Str))=false)(hu:aS e=true)
  (S:aJ G e m):iq G target (.Call (.Name x p) [e] [] pos) (.gA m):=by
 intro J Z P Q E I F
 have F:Fo E (CL G target J Q) P (au (ag G.cf G.gl m J Z) λv Z=>read Z ((bw v).bind λn=>az (small n) (some (.range 0 n.toNat,false)))):=F
 refine Call_ (dJ I hk hx hb hd (PyProof.Rows.callWith_type (bj (dG hu)) (b6 (bj (dG hu)) (jM hu S I F λp cF aQ v fG aD V aL=>aL.rb λb hb bN=> ?_))))
 refine Vl.int (M:=λv=>G.c.W G.A (call (.type "range") [v]) (λx cJ=>G.c.W G.A (pyIter x) Q E cJ) E aQ.s) hb V λt=>call_range_1 ?_
 refine wpAny_pyIter_range (IsRange.new ..) (small_one (by decide) (by decide) (Int.le_of_lt (dy bN.rm.1).JY) (dy bN.rm.1).JZ) ?_
 have:=pN (h:=aQ.s.heap.push {cls:=.type "range",data:=.fields #[.int 0 aQ.s.toks,.int b t,.int 1 (aQ.s.toks+1)]}) (a:=0) (b:=b)
 rw[Int.sub_zero] at this
 exact bN.rm.2 aQ .refl aD _ _ _ _ _ (λa o e=>fH _ _ (fH _ _ e)) wA (wo G.hY.hn) this
theorem yR{target:PySem.Expr}{p pos:Pos}{x:Str}{qy qz:PySem.Expr}{m₁ m₂:ME}(hk:G.env.kindOf x=some .globalImplicit)(hx:G.T.mg x=none)(hb:G.T.mb x=some (.type "range"))(hd:(x == ("__debug__":Str))=false)(hu:aS qy=true)(GI:aS qz=true)
  (Sa:aJ G qy m₁) (Sb:aJ G qz m₂):iq G target (.Call (.Name x p) [qy,qz] [] pos) (.df m₁ m₂):=by
 intro J Z P Q E I F
 have F:Fo E (CL G target J Q) P (au (ag G.cf G.gl m₁ J Z) λu Z=>au (ag G.cf G.gl m₂ J Z) λv Z=>read Z ((bw u).bind λm=>(bw v).bind λn=>az (small m) (az (small n) (some (.range m (n-m).toNat,false))))):=F
 have OR:[qy,qz].all aS=true:=by rw[List.all_cons,hu,dG GI];rfl
 refine Call_ (dJ I hk hx hb hd (PyProof.Rows.callWith_type (bj OR) (b6 (bj OR) ?_)))
 rw[e9 hu,e9 GI]
 refine spliced_cons (Sa.go I F λp cF aQ v fG aD V aL=>spliced_cons (Sb.go aD aL λq dk bX w cH bI W bN=>spliced_nil (bN.rb λa ha c8=>c8.rb λb hb k6=> ?_)))
 have V:=V.to aD cH
 refine Vl.int (M:=λv=>G.c.W G.A (call (.type "range") [v,w]) (λx cJ=>G.c.W G.A (pyIter x) Q E cJ) E bX.s) ha V λt=>Vl.int (M:=λw=>G.c.W G.A (call (.type "range") [.int a t,w]) (λx cJ=>G.c.W G.A (pyIter x) Q E cJ) E bX.s) hb W λu=>call_range_2 ?_
 have s1:=dy k6.rm.1
 have s2:=dy k6.rm.2.rm.1
 refine wpAny_pyIter_range (IsRange.new ..) (small_one (Int.le_of_lt s1.JY) s1.JZ (Int.le_of_lt s2.JY) s2.JZ) ?_
 exact k6.rm.2.rm.2 bX .refl bI _ _ _ _ _ (λa o e=>fH _ _ (fH _ _ e)) wA (wo G.hY.hn) (pN (a:=a) (b:=b))
noncomputable def fI:PySem.Expr->Bool
 |.Set ..=>false
 |_=>true
theorem jY{e:PySem.Expr}(h:fI e=true){env:Env}:∀x,foldedSetIterable e env x=pure x:=by
 intro x
 cases e<;>first | rfl | cases h
theorem ID{target iter:PySem.Expr}{t:iY}{mi:MI}{body:List PySem.Stmt}{mb:bq}{pos:Pos}(ht:u7 G.c.locs target t)(hp:fI iter=true)(Si:iq G target iter mi)(B:ig G body mb):
  dS G (.For target iter body [] pos) (.ba t mi mb):=by
 intro J Z P Q E I F
 have F:Fo E (fE G.c Q) P (au (ft G.cf G.gl mi J Z) λsrc Z=>forL (ak G.cf G.gl mb) t src.1 src.2 (dX Z src.1+1) 0 J Z):=F
 refine wpAny_For (Si J Z P _ E I (F.bind λq af F' av A fe it fp St ct nO k hn K st=> ?_)) (jY hp)
 have y:=fe.sub (t:=nO) k
 exact E4 ht B K (λa m=>fe.free (hn a m)) ⟨0,J,af,av.at av.Y ct nO,y.1,y.2,.sub k,st,F'.up A⟩
theorem Fo.zo{c:Cx}{β η:Type}{K:eU c β}{av:Pt}{X:Out η}{t:η->ae->Option Bool}{x y:ae->Out β}{Q:Bool->Shared->Prop}{E':Value->Shared->Prop}(F:Fo E K av (FR.aX X λv Z=>FR.pick (t v Z) (x Z) (y Z)))(h:∀b af P',To c P P'->Inv c J af P'->Fo E K av (cond b (x af) (y af))->Q b P'.s):Fo E' (bH c J (λO=>Eq) Q) P (FR.au X λv Z=>read Z (t v Z)):=by
 cases X with
 |none=>exact F
 |some r=>
  obtain ⟨r,af⟩:=r
  cases r with
  |error e=>exact F.elim
  |ok v=>
   have F:Fo E K av (FR.pick (t v af) (x af) (y af)):=F
   show Fo E' (bH c J (λO=>Eq) Q) P (read af (t v af))
   cases q:t v af with
   |none=>rw[q] at F;exact F.elim
   |some b=>
    rw[q] at F
    intro P' a A I e
    cases e
    cases b with
    |true=>exact h true af P' A I F
    |false=>exact h false af P' A I F
inductive OS(G:Gx)(mt:ME)(mb:bq)(E:Value->Shared->Prop)(Q:Flow->Shared->Prop)(m:Nat):Shared->Prop
 |mk (J:Loc) (Z:ae) (P:Pt) (I:Inv G.c J Z P) (F:Fo E (fE G.c Q) P (eS (ag G.cf G.gl mt) (ak G.cf G.gl mb) m J Z)):OS G mt mb E Q m P.s
theorem CN{t:PySem.Expr}{mt:ME}{body:List PySem.Stmt}{mb:bq}{pos:Pos}(S:dw G t mt)(B:ig G body mb):dS G (.While t body [] pos) (.ll mt mb):=by
 intro J Z P Q E I F
 refine wpAny_While ?_
 refine codeAny_whileLoop (OS G mt mb E Q) ?_ turns ⟨J,Z,P,I,F⟩
 rintro m _ ⟨J,Z,P,I,F⟩
 cases m with
 |zero=>exact F.elim
 |succ m=>
  have F:Fo E (fE G.c Q) P (aX (ag G.cf G.gl mt J Z) λv Z=>pick (truth Z v) (aX (ak G.cf G.gl mb J Z) λr Z=>(match r.1 with | .ret v=>give (.ret v,r.2) Z | _=>eS (ag G.cf G.gl mt) (ak G.cf G.gl mb) m r.2 Z)) (give (.next,J) Z)):=F
  refine S J Z P _ _ I (F.zo (t:=λv Z=>truth Z v) λb af P' A I' Ki=> ?_)
  have F':=Ki.up A
  clear Ki
  cases b with
  |false=>exact wpAny_execs_nil (F' P' .refl I')
  |true=>
   have F':Fo E (fE G.c Q) P' (aX (ak G.cf G.gl mb J af) λr Z=>(match r.1 with | .ret v=>give (.ret v,r.2) Z | _=>eS (ag G.cf G.gl mt) (ak G.cf G.gl mb) m r.2 Z)):=F'
   refine B J af P' _ _ I' (Fo.aX F' λfl dk F=> ?_)
   obtain ⟨fl,kK⟩:=fl
   cases fl with
   |next=>exact λcR c9 d9=>⟨m,Nat.lt_succ_self m,kK,dk,cR,d9,Fo.up (K:=fE G.c Q) c9 F⟩
   |cont=>exact λcR c9 d9=>⟨m,Nat.lt_succ_self m,kK,dk,cR,d9,Fo.up (K:=fE G.c Q) c9 F⟩
   |ret p=>exact λcR v c9 S V=>F cR v c9 S V
end
noncomputable def gK(cf:Nat->List PV->ae->Out PV)(gl:Nat->PV)(mc:fm)(me:ME)(x:PV)(Z:ae):Out (Option PV):=aX (cV cf gl mc [some x] Z) λc Z=>
 pick (ic Z c) (aX (ag cf gl me [some x] Z) λy Z=>give (some y) Z) (give .none Z)
section
variable{c:Cx}{β η:Type}{K:eU c β}{E:Value->Shared->Prop}{P:Pt}{X:Out η}{t:η->ae->Option Bool}{jo:ae->Out PV}{k:Option PV->ae->Out β}
theorem Fo.Kj(F:Fo E K P (FR.aX (FR.aX X λc Z=>FR.pick (t c Z) (FR.aX (jo Z) λy Z=>give (some y) Z) (give none Z)) k)):Fo E K P (FR.aX X λc Z=>FR.pick (t c Z) (FR.aX (jo Z) λy Z=>k (some y) Z) (k none Z)):=by
 cases X with
 |none=>exact F
 |some r=>
  obtain ⟨r,af⟩:=r
  cases r with
  |error e=>exact F
  |ok v=>
   have F:Fo E K P (FR.aX (FR.pick (t v af) (FR.aX (jo af) λy Z=>give (some y) Z) (give none af)) k):=F
   show Fo E K P (FR.pick (t v af) (FR.aX (jo af) λy Z=>k (some y) Z) (k none af))
   revert F
   cases t v af with
   |none=>exact id
   |some b=>cases b with
    |false=>exact id
    |true=>
     show Fo E K P (FR.aX (FR.aX (jo af) λy Z=>give (some y) Z) k)->Fo E K P (FR.aX (jo af) λy Z=>k (some y) Z)
     cases jo af with
     |none=>exact id
     |some r=>
      obtain ⟨r,dk⟩:=r
      cases r with
      |error e=>exact id
      |ok y=>exact id
end
section
variable{G:Gx}
noncomputable abbrev tests(env:Env)(ifs:List PySem.Expr):Sem Bool:=forIn ifs true λc r=>if r=true then do let ok <-isTrue c env (eval c env);pure (ForInStep.yield ok) else pure (ForInStep.yield r)
noncomputable def wB(G:Gx)(ifs:List PySem.Expr)(mc:fm):Prop:=∀(J:Loc)(Z:ae)(P:Pt)(Q:Bool->Shared->Prop)(E:Value->Shared->Prop),
 Inv G.c J Z P->Fo E (bH G.c J (λO=>Eq) Q) P (au (cV G.cf G.gl mc J Z) λc Z=>read Z (ic Z c))->G.c.W G.A (tests G.env ifs) Q E P.s
theorem IE:wB G [] .no:=λO O O O O I F=>wpAny_tests_nil (F.same I rfl)
theorem E5{e:PySem.Expr}{m:ME}(S:dw G e m):wB G [e] (.yes m):=λJ Z P Q E I F=>wpAny_tests_one (S J Z P Q E I F.assoc)
inductive CO(G:Gx)(cb:PV->ae->Out (Option PV))(src:Src)(en:Bool)(St:Nat->Heap->Prop)(acc:Addr)(E:Value->Shared->Prop)(Kc:List PV->eU G.c (List PV))(av:Pt)(m:Nat):Shared->Prop
 |mk (j:Nat) (J:Loc) (Z:ae) (P:Pt) (done:List PV) (xs:Array Value) (mm:Nat) (I:Inv G.c J Z P) (OT:J.length=1) (A:To G.c av P) (L:Later av.s.heap av.Y P.s.heap P.Y) (m6:St j P.s.heap) (ha:acc∉P.Y)
  (g:P.s.heap.get? acc=some (gI xs mm)) (V:b4 G.c P done xs.toList) (hd:done.length<=j) (F:Fo E (Kc done) av (bW cb src en m j Z)):CO G cb src en St acc E Kc av m P.s
noncomputable def oZ(c:Cx)(acc:Addr)(R:Result->Shared->Prop)(done:List PV):eU c (List PV) where
 k ys Z P:=∀J P' xs m,To c P P'->Inv c J Z P'->acc∉P'.Y->P'.s.heap.get? acc=some (gI xs m)->b4 c P' (done++ys) xs.toList->R (.ok .next) P'.s
 up _ _ _ _ A h J P' xs m B:=h J P' xs m (A.trans B)
noncomputable abbrev CQ(G:Gx)(elt:PySem.Expr)(ifs:List PySem.Expr)(acc:Addr)(Vr:Shared->Prop)(E:Value->Shared->Prop)(s:Shared):Prop:=
 G.c.W G.A (tests G.env ifs) (λok ip=>if ok=true then G.c.W G.A (eval elt G.env) (λx E6=>G.c.W G.A (call (.builtin "list.append") [.ref acc,x]) (λO Qf=>Vr Qf) E E6) E ip else Vr ip) E s
theorem CP{elt:PySem.Expr}{ifs:List PySem.Expr}{target:PySem.Expr}{me:ME}{mc:fm}{it:Value}{src:Src}{en:Bool}{fp:List Addr}{St:Nat->Heap->Prop}{av bX:Pt}{acc:Addr}{Z:ae}{R:Result->Shared->Prop}{E E':Value->Shared->Prop}{m j:Nat}{w:PV}{done:List PV}{xs:Array Value}{mm:Nat}
  (Se:aJ G elt me) (Sc:wB G ifs mc) (K:k7 G.c G.A target it src en fp St av) (wC:iM G.c av acc) (nQ:acc∉fp) (bI:Inv G.c [some w] Z bX) (cH:To G.c av bX) (qA:Later av.s.heap av.Y bX.s.heap bX.Y) (m6:St (j+1) bX.s.heap)
  (ha:acc∉bX.Y) (g:bX.s.heap.get? acc=some (gI xs mm)) (V:b4 G.c bX done xs.toList) (hd:done.length<=j) (hj:j<=65536)
  (F:Fo E (oZ G.c acc R done) av (aX (gK G.cf G.gl mc me w Z) λy Z=>(match y with | some y=>aX (bW (gK G.cf G.gl mc me) src en m (j+1) Z) λys Z=>give (y::ys) Z | Option.none=>bW (gK G.cf G.gl mc me) src en m (j+1) Z))):
  CQ G elt ifs acc (λs=>∃m',m'<m+1/\CO G (gK G.cf G.gl mc me) src en St acc E (oZ G.c acc R) av m' s) E' bX.s:=by
 have hf:=K.fields _ _ m6
 have Kk:∀{cR:Pt},To G.c bX cR->(acc∉cR.Y/\cR.s.heap.get? acc=some (gI xs mm))/\Later av.s.heap av.Y cR.s.heap cR.Y/\(∀a∈fp,∀o,bX.s.heap.get? a=some o->cR.s.heap.get? a=some o):=λc9=>
  have t:=bI.zd g nofun
  ⟨c9.keep acc _ g ha t.1 λz=>t.2 (List.mem_singleton.mp z),qA.trans (bI.nt c9),Fields.kept hf bI c9⟩
 refine Sc [some w] Z bX _ E' bI (F.Kj.zo λb af cR c9 d9 c8=> ?_)
 cases b with
 |false=>
  have q:=Kk c9
  exact⟨m,Nat.lt_succ_self m,j+1,_,af,cR,done,xs,mm,d9,rfl,cH.trans c9,q.2.1,K.frame _ _ _ m6 q.2.2 q.2.1.k,q.1.1,q.1.2,V.to bI c9,Nat.le_succ_of_le hd,c8⟩
 |true=>
  have c8:Fo E (oZ G.c acc R done) av (aX (ag G.cf G.gl me [some w] af) λy Z=>aX (bW (gK G.cf G.gl mc me) src en m (j+1) Z) λys Z=>give (y::ys) Z):=c8
  refine Se [some w] af cR _ E' d9 (Fo.aX c8 λy GG k6 wD v E7 sY Qg=> ?_)
  have sZ:=c9.trans E7
  have q:=Kk sZ
  have Vd:=V.to bI sZ
  refine nM q.1.2 Vd Qg (Vd.size▸Nat.le_succ_of_le (Nat.le_trans hd hj)) λh' hs x la=> ?_
  obtain ⟨za,n',g',V'⟩:=x
  have kp:∀a o,a∉[acc]->wD.s.heap.get? a=some o->h'.get? a=some o:=λa o n e=>(hs.2 a λz=>n (List.mem_singleton.mpr z)).trans e
  have y':=sY.foreign (W:=[acc]) (h':=h') (t:=wD.s.toks) (cH.trans sZ) (λa z=>List.mem_singleton.mp z▸wC) (λa z=>List.mem_singleton.mp z▸q.1.1) (λa z o e s=>s.l (bp q.1.2 (List.mem_singleton.mp z▸e)▸rfl)) kp
  have L':=q.2.1.trans la
  exact⟨m,Nat.lt_succ_self m,j+1,_,GG,wD.at wD.Y h' wD.s.toks,done++[y],za,n',y'.1,rfl,y'.2.1,L',K.frame _ _ _ m6 (λa z o e=>kp a o (λc=>nQ (List.mem_singleton.mp c▸z)) (q.2.2 a z o e)) L'.k,q.1.1,g',V',
   by rw[List.length_append];exact Nat.succ_le_succ hd,Fo.aX k6 λys Z F J P' xs m A I a g V=>F J P' xs m A I a g (by rw[List.append_assoc] at V;exact V)⟩
theorem CR{elt iter:PySem.Expr}{x:Str}{px pos:Pos}{ifs:List PySem.Expr}{scope:Scope}{me:ME}{mc:fm}{it:Value}{src:Src}{en:Bool}{fp:List Addr}{St:Nat->Heap->Prop}{av:Pt}{acc:Addr}{R:Result->Shared->Prop}{E:Value->Shared->Prop}{m:Nat}{s:Shared}
  (hx:G.c.locs[0]? =some x) (Se:aJ G elt me) (Sc:wB G ifs mc) (K:k7 G.c G.A (.Name x px) it src en fp St av) (hn:∀a∈fp,iM G.c av a) (wC:iM G.c av acc) (nQ:acc∉fp)
  (Vq:CO G (gK G.cf G.gl mc me) src en St acc E (oZ G.c acc R) av m s):
  codeAny (model G.c.prog G.c.w) G.A (.compLoop (.ListComp elt [⟨.Name x px,iter,ifs,0⟩] scope pos) 0 it (.ref acc) G.env) R s:=by
 refine codeAny_compLoop_tests (CO G (gK G.cf G.gl mc me) src en St acc E (oZ G.c acc R) av) ?_ m Vq
 rintro m _ ⟨j,J,Z,P,done,xs,mm,I,OT,A,L,m6,ha,g,V,hd,F⟩
 clear Vq
 cases m with
 |zero=>exact F.elim
 |succ m=>
  have hf:=K.fields _ _ m6
  refine wpAny_mono (K.next j Z P (λr s=>match r with
   |none=>R (.ok .next) s
   |some v=>G.c.W G.A (assign (.Name x px) G.env v) (λO s=>CQ G elt ifs acc (λs=>∃m',m'<m+1/\CO G (gK G.cf G.gl mc me) src en St acc E (oZ G.c acc R) av m' s) (notedBy (model G.c.prog G.c.w) G.A G.env λe s'=>R (.error e) s') s) (notedBy (model G.c.prog G.c.w) G.A G.env λe s'=>R (.error e) s') s) _ I.so L m6 ?_) (λr cJ z=> ?_) λO O e=>e
  ·revert F
   show Fo E _ av (match b9 Z j src with | some x=>(match x with | some x=>az (decide (j<=65536)) (aX (gK G.cf G.gl mc me (wrap en j x) Z) λy Z=>(match y with | some y=>aX (bW (gK G.cf G.gl mc me) src en m (j+1) Z) λys Z=>give (y::ys) Z | Option.none=>bW (gK G.cf G.gl mc me) src en m (j+1) Z)) | Option.none=>give [] Z) | Option.none=>none)->Nx G.c en fp St j P _ (b9 Z j src)
   cases b9 Z j src with
   |none=>exact id
   |some x=>cases x with
    |none=>exact λF h' t' k=>let y:=I.asked A hn hf k;F J _ xs mm y.2.1 y.1 ha (k acc _ nQ g) (by rw[List.append_nil];exact ay.later y.2.2 V)
    |some p=>
     intro F v h' t' k V' wm
     have y:=I.asked (t:=t') A hn hf k
     have AQ:=K.fields _ _ wm
     have Qh:eN (.one 0) (wrap en j p) J=some [some (wrap en j p)]:=by
      match J,OT with
      |[_],_=>rfl
     refine rH (t:=.one 0) ⟨x,px,rfl,hx⟩ Qh y.1 V' λbX cH bI=> ?_
     have t:=y.1.zd (k acc _ nQ g) nofun
     have ka:=cH.keep acc _ (k acc _ nQ g) ha t.1 λz=>t.2 (List.mem_singleton.mp z)
     have qA:=(L.trans y.2.2).trans (y.1.nt cH)
     exact CP Se Sc K wC nQ bI (y.2.1.trans cH) qA (K.frame _ _ _ wm (Fields.kept (P:=P.at P.Y h' t') AQ y.1 cH) qA.k) ka.1 ka.2 (b4.to (P:=P.at P.Y h' t') (ay.later y.2.2 V) y.1 cH) hd (of_decide_eq_true F.om.1) F.om.2
  ·cases r with
   |none=>exact z
   |some v=>
    have:wpAny (model G.c.prog G.c.w) G.A (pure () >>= λO=>assign (.Name x px) G.env v) _ _ cJ:=wpAny_bind (wpAny_mono z (λO ju y=>y) λO O y=>y)
    exact this
end
noncomputable def Cx.comp(c:Cx)(L:Addr)(x:Str)(hn:c.hc.get? L=none):Cx:={toBs:=c.toBs,fr:=c.fr,L:=L,locs:=[x],kf:=c.kf,lf:=hn}
noncomputable abbrev Gx.comp(G:Gx)(L:Addr)(x:Str)(hn:G.c.hc.get? L=none)(env:Env)(hY:ry (G.c.comp L x hn) G.A env G.n 0):Gx:=⟨G.c.comp L x hn,G.A,env,G.cf,G.gl,G.n,0,G.T,hY⟩
section
variable{G:Gx}{J:Loc}{Z:ae}{P:Pt}{E:Value->Shared->Prop}
noncomputable def rK(G:Gx)(scope:Scope)(x:Str)(elt:PySem.Expr)(me:ME)(ifs:List PySem.Expr)(mc:fm):Prop:=
 ∀L hn env(hY:ry (G.c.comp L x hn) G.A env G.n 0),env.scope=scope->aJ (G.comp L x hn env hY) elt me/\wB (G.comp L x hn env hY) ifs mc
structure After(c:Cx)(P P':Pt)(L:Addr):Prop where
 new:iM c P L
 out:L∉P'.Y
 ns:∃m,P'.s.heap.Ns L m
theorem After.same{c:Cx}{P':Pt}{L:Addr}{aN:Loc}{af:ae}{hN:Heap}{t:Nat}(X:After c P P' L)(I':Inv c aN af P')(A:To c P P')(hs:Heap.SameBut L P'.s.heap hN):Inv c aN af (P'.at P'.Y hN t)/\To c P (P'.at P'.Y hN t):=
 (I'.foreign (W:=[L]) A (λa m=>List.mem_singleton.mp m▸X.new) (λa m=>List.mem_singleton.mp m▸X.out) (λa m o e s=>X.ns.elim λO n=>Ns.no n (List.mem_singleton.mp m▸e) s.t) λa o n e=>(hs.2 a λq=>n (List.mem_singleton.mpr q)).trans e).imp id And.left
theorem After.to{c:Cx}{P' bX:Pt}{L:Addr}(X:After c P P' L)(A:To c P' bX):After c P bX L:=
 X.ns.elim λm n=>n.elim λo x=>x.elim λes x=>x.elim λk x=>have q:=A.keep L o x.1 X.out X.new.f λz=>X.new.l (List.mem_singleton.mp z);⟨X.new,q.1,m,o,es,k,q.2,x.2⟩
theorem E8{av P':Pt}{L acc:Addr}{x:Str}{hn:G.c.hc.get? L=none}{aN:Loc}{af dk:ae}{ys:List PV}{xs:Array Value}{m:Nat}(fe:Inv G.c J af av)(fL:iM G.c av L)(fA:iM G.c av acc)(A':To (G.c.comp L x hn) av P')(I':Inv (G.c.comp L x hn) aN dk P')(ha:acc∉P'.Y)(g:P'.s.heap.get? acc=some (gI xs m))(V:b4 G.c P' ys xs.toList):
  Inv G.c J (dk++[.list ys]) ⟨P'.Y++[acc],P'.s⟩/\To G.c av ⟨P'.Y++[acc],P'.s⟩:=by
 have ne:∀{a o},av.s.heap.get? a=some o->a∉[L]:=λe z=>aH fL.n (List.mem_singleton.mp z▸e)
 have app:∀{a},a∉P'.Y->a≠acc->a∉P'.Y++[acc]:=λx y z=>(List.mem_append.mp z).elim x λz=>y (List.mem_singleton.mp z)
 refine fe.under ⟨A'.pre.elim λν e=>⟨ν++[acc],by rw[<-List.append_assoc,<-e]⟩,λa o e x y O=>let q:=A'.keep a o e x y (ne e);⟨app q.1 λz=>aH fA.n (z▸e),q.2⟩,λa x O m n=>(Ns.tab n).elim λO q=>q.elim λO q=>q.elim λO q=>A'.ns a x (ne q.1) m n,λa x n=>app (A'.off a (.inl (x.resolve_right nofun)) n) λz=>fA.f (z▸x.resolve_right nofun),A'.same⟩ (I'.so.add ha fA.h ⟨xs,m,g,ay.later (.lz (λO O e=>e) _) V⟩)
theorem tY{elt iter:PySem.Expr}{x:Str}{px pos:Pos}{ifs:List PySem.Expr}{scope:Scope}{me:ME}{mi:MI}{mc:fm}{K:eU G.c PV}{RR:Value->Env->Result->Shared->Prop}
  (rL:∀z∈scope.names,z.2≠ .cell) (kM:scope.kind=.function) (hx:scope.names.lookup x=some .local)
  (Si:iq G (.Name x px) iter mi) (B:rK G scope x elt me ifs mc) (I:Inv G.c J Z P) (F:Fo E K P (ag G.cf G.gl (.comp me mi mc) J Z))
  (h:∀av ys dk acc gq P',Fo E K av (some (.ok (.ref dk.length),dk++[.list ys]))->Inv G.c J (dk++[.list ys]) P'->To G.c av P'->P'.Y[dk.length]? =some acc->After G.c av P' gq.locals->RR (.ref acc) gq (.ok .next) P'.s):
  G.c.W G.A (eval iter G.env) (λQi cJ=>G.c.W G.A (pyIter Qi) (λit ju=>G.c.W G.A (PySem.newList []) (λacc ip=>
   G.c.W G.A (newFunctionEnv scope G.env.globals [] [] G.env.qual none .none (some G.env)) (λgq E6=>
    codeAny (model G.c.prog G.c.w) G.A (.compStart (.ListComp elt [⟨.Name x px,iter,ifs,0⟩] scope pos) 0 it acc {gq with scope:=scope}) (RR acc gq) E6) E ip) E ju) E cJ) E P.s:=by
 have F:Fo E K P (au (ft G.cf G.gl mi J Z) λsrc Z=>aX (bW (gK G.cf G.gl mc me) src.1 src.2 (dX Z src.1+1) 0 Z) λvs Z=>some (.ok (.ref Z.length),Z++[.list vs])):=F
 refine Si J Z P _ E I (F.bind λq af F' av A fe it fp St ct nO k hn tZ st=> ?_)
 delta PySem.newList
 refine wpAny_newObj_type ?_ (Nat.zero_le _)
 obtain ⟨H,hH⟩:∃H,H=ct.push {cls:=.type "list",data:=.seq ([]:List Value).toArray}:=⟨_,rfl⟩
 show G.c.W G.A (newFunctionEnv scope G.env.globals [] [] G.env.qual none .none (some G.env)) _ E (av.at av.Y (ct.push {cls:=.type "list",data:=.seq ([]:List Value).toArray}) nO).s
 rw[<-hH]
 have AU:Sub ct H:=hH▸fH
 have Qj:H.get? ct.objs.size=some (gI #[] 0):=hH▸Heap.get?_push_size _ rfl
 have hz:H.objs.size=ct.objs.size+1:=hH▸Heap.size_push ..
 refine wpAny_newFunctionEnv rL nofun (λiO AV AW=> ?_) kM
 have AV:iO.Ns H.objs.size (λx=>(([]:List (Str×Value)).reverse).lookup x):=AV
 have AW:Heap.SameBut H.objs.size (H.push {cls:=.type "dict",data:=.dict #[]}) iO:=AW
 have kH:Sub H iO:=λa o e=>AW.extBut a o (Nat.ne_of_lt (Heap.lt_size e)) (Heap.get?_push_of_some _ e)
 have o3:Sub av.s.heap iO:=λa o e=>kH a o (AU a o (k a o e))
 have none_of:∀a,ct.objs.size<=a->av.s.heap.get? a=none:=λa hle=>by
  cases q:av.s.heap.get? a with
  |none=>rfl
  |some o=>exact absurd (Heap.lt_size (k a o q)) (Nat.not_lt.mpr hle)
 have nL:=fe.free (none_of H.objs.size (hz▸Nat.le_succ _))
 have nA:=fe.free (none_of ct.objs.size (Nat.le_refl _))
 have Kl:ct.objs.size≠H.objs.size:=hz▸Nat.ne_of_lt (Nat.lt_succ_self _)
 have O':ry (G.c.comp H.objs.size x nL.h) G.A {newEnv scope H.objs.size G.env.globals [] G.env.qual none .none (some G.env) 0 with scope:=scope} G.n 0:=by
  refine⟨kM,G.hY.gl,G.hY.bi,rfl,λi y hy=> ?_,List.nodup_cons.mpr ⟨List.not_mem_nil,List.nodup_nil⟩,G.hY.fr,G.hY.hn,Nat.le_trans (Nat.add_le_add_left (Nat.zero_le _) _) G.hY.dp,Nat.le_trans (Nat.add_le_add_left (Nat.zero_le _) _) G.hY.hu⟩
  cases i with
  |zero=>cases hy;exact hx
  |succ i=>exact nomatch hy
 obtain ⟨Se,Sc⟩:=B _ nL.h _ O' rfl
 have K':k7 (G.c.comp H.objs.size x nL.h) G.A (.Name x px) it q.1 q.2 fp St av:=⟨tZ.frame,tZ.fields,tZ.self,tZ.next⟩
 have GJ:St 0 iO:=tZ.frame 0 ct iO st (λa O o e=>kH a o (AU a o e)) (λa o e O=>o3 a o e)
 have sY:∀t,Inv (G.c.comp H.objs.size x nL.h) [none] af (av.at av.Y iO t):=λt=>
  have y:=fe.sub o3 (t:=t)
  ⟨y.1.so,y.1.kc,λa m=>⟨(fe.sep a m).1,λ(q:a=H.objs.size)=>fe.so.EA nL.n (q▸m)⟩,y.1.ns,_,AV,λi y p hy hp=>by
   cases i with
   |zero=>exact nomatch hp
   |succ i=>exact nomatch hp⟩
 have nQ:ct.objs.size∉fp:=λm=>(tZ.fields 0 ct st _ m).elim λo x=>x.elim λO x=>Nat.lt_irrefl _ (Heap.lt_size x.1)
 have fA:iM (G.c.comp H.objs.size x nL.h) av ct.objs.size:=⟨nA.n,nA.h,nA.f,Kl⟩
 have fF:∀a∈fp,iM (G.c.comp H.objs.size x nL.h) av a:=λa m=>
  have f:=fe.free (hn a m)
  ⟨f.n,f.h,f.f,λ(q:a=H.objs.size)=>(tZ.fields 0 ct st _ m).elim λo x=>x.elim λO x=>Nat.not_succ_lt_self ((q.trans hz)▸Heap.lt_size x.1)⟩
 have loop:∀t,codeAny (model G.c.prog G.c.w) G.A (.compLoop (.ListComp elt [⟨.Name x px,iter,ifs,0⟩] scope pos) 0 it (.ref ct.objs.size) {newEnv scope H.objs.size G.env.globals [] G.env.qual none .none (some G.env) 0 with scope:=scope}) (RR (.ref ct.objs.size) (newEnv scope H.objs.size G.env.globals [] G.env.qual none .none (some G.env) 0)) (av.at av.Y iO t).s:=λt=>by
  refine CR (G:=G.comp H.objs.size x nL.h _ O') (av:=av) (E:=E) (m:=dX af q.1+1) rfl Se Sc K' fF fA nQ ⟨0,[none],af,av.at av.Y iO t,[],#[],0,sY t,rfl,.sub o3,.sub o3,GJ,fe.so.EA nA.n,kH _ _ Qj,ay.nil,Nat.le_refl _,?_⟩
  refine Fo.aX (F'.up A) λys dk bN aN P' xs m A' I' ha g V=> ?_
  have y:=E8 fe nL nA A' I' ha g V
  exact h av ys dk _ _ ⟨P'.Y++[ct.objs.size],P'.s⟩ bN y.1 y.2 (by rw[<-I'.so.ml];exact List.getElem?_concat_length) ⟨nL,λz=>(List.mem_append.mp z).elim (λz=>(I'.sep _ z).2 rfl) λz=>Kl (List.mem_singleton.mp z).symm,I'.Gz⟩
 exact codeAny_compStart_list (loop _) (tZ.self 0 _ _ _ GJ (loop _))
set_option backward.match.sparseCases true in
theorem E9{elt iter:PySem.Expr}{x:Str}{px pos:Pos}{ifs:List PySem.Expr}{scope:Scope}{me:ME}{mi:MI}{mc:fm}
  (rL:∀z∈scope.names,z.2≠ .cell) (AX:∀z∈scope.names,z.2≠ .free) (wF:∀z∈scope.names,z.2=.local->scope.names.lookup z.1=some .local) (kM:scope.kind=.function) (hx:scope.names.lookup x=some .local) (hp:fI iter=true)
  (Si:iq G (.Name x px) iter mi) (B:rK G scope x elt me ifs mc):aJ G (.ListComp elt [⟨.Name x px,iter,ifs,0⟩] scope pos) (.comp me mi mc):=λJ Z P Q E I F=>
 wpAny_ListComp AX kM wF (tY (RR:=λacc gq r' s'=>∃m,s'.heap.Ns gq.locals m/\∀h',Heap.SameBut gq.locals s'.heap h'->
      match r' with | .ok _=>Q acc {s' with heap:=h'} | .error x=>wpAny (model G.c.prog G.c.w) G.A (passOn "comprehension.variables-let-go" x {gq with scope:=scope}) Q E {s' with heap:=h'}) rL kM hx Si B I F λav O O O O P' bN I' A' g X=>
  X.ns.elim λm N=>⟨m,N,λO hs=>bN.ok (P':=P'.at P'.Y _ P'.s.toks) ((X.same I' A' hs)) (.md g)⟩) (jY hp)
set_option backward.match.sparseCases true in
theorem uS{elt iter:PySem.Expr}{x y:Str}{i:Nat}{px py pos Km:Pos}{ifs:List PySem.Expr}{scope:Scope}{me:ME}{mi:MI}{mc:fm}
  (hy:G.c.locs[i]? =some y) (RO:swapsWith (.ListComp elt [⟨.Name x px,iter,ifs,0⟩] scope pos) (some (.Name y py)) Km.line G.env=pure true)
  (rL:∀z∈scope.names,z.2≠ .cell) (AX:∀z∈scope.names,z.2≠ .free) (wF:∀z∈scope.names,z.2=.local->scope.names.lookup z.1=some .local) (kM:scope.kind=.function) (hx:scope.names.lookup x=some .local) (hp:fI iter=true)
  (Si:iq G (.Name x px) iter mi) (B:rK G scope x elt me ifs mc):dS G (.Assign [.Name y py] (.ListComp elt [⟨.Name x px,iter,ifs,0⟩] scope pos) Km) (.aA i (.comp me mi mc)):=by
 intro J Z P Q E I F
 rw[exec_Assign_Name_used _ _ _ _ RO]
 refine wpAny_bind (wpAny_standAt (wpAny_bind ?_))
 show wpAny _ G.A (do let _ <-comprehension (.ListComp elt [⟨.Name x px,iter,ifs,0⟩] scope pos) scope G.env _ (PySem.newList []) false (eval iter G.env) (some (assign (.Name y py) G.env))) _ _ P.s
 refine wpAny_bind (wpAny_mono (wpAny_comprehension_use (Q:=λO s'=>Q .next s') rfl (jY hp) AX kM wF ?_) (λO s' hq=>wpAny_pure (wpAny_pure hq)) λO O e=>e)
 have F:Fo E (fE G.c Q) P (au (ag G.cf G.gl (.comp me mi mc) J Z) λv Z=>give (.next,cD J i v) Z):=F
 refine tY (K:=⟨λv Z P=>Fo E (fE G.c Q) P (give (.next,cD J i v) Z),λO O O O A F=>F.up A⟩) (RR:=λacc gq r' s'=>match r' with
     |.ok _=>wpAny (model G.c.prog G.c.w) G.A (assign (.Name y py) G.env acc) (λO rD=>∃m,rD.heap.Ns gq.locals m/\∀h',Heap.SameBut gq.locals rD.heap h'->Q .next {rD with heap:=h'}) E s'
     |.error x=>∃m,s'.heap.Ns gq.locals m/\∀h',Heap.SameBut gq.locals s'.heap h'->wpAny (model G.c.prog G.c.w) G.A (passOn "comprehension.variables-let-go" x {gq with scope:=scope}) (λO s'=>Q .next s') E {s' with heap:=h'})
   rL kM hx Si B I (F.bind λO O F=>F) λav ys dk acc gq P' bN I' A' g X=> ?_
 exact wpAny_assign_Name (gD I' hy (.md g) λbX cH bI=>(X.to cH).ns.elim λm N=>⟨m,N,λO hs=>have q:=(X.to cH).same (t:=bX.s.toks) bI (A'.trans cH) hs;bN _ q.2 q.1⟩)
end
noncomputable def AY(b:Bs):Prop:=∃nm q N bs bm tc sn sub ab col dd k0 k1 k2 k3 k5 newId,b.hc.get? (bT 2)=some (excClassObj nm q (bT 2) N bs bm tc sn sub ab col dd k0 k1 k2 k3 k5 newId)/\bm.contains (.type "BaseException")=true
inductive lG:PySem.Const->PV->Prop where
 |none:lG .none .none
 |bool (b:Bool):lG (.bool b) (.bool b)
theorem CS{env:Env}{k0:PySem.Const}{h:PV}(hc:lG k0 h){A:Around}{M:Model}{kk:Nat}{p:Pos}{s:Shared}{Q:Value->Shared->Prop}{E:Value->Shared->Prop}(hq:∀v,(∀(b:Bs) (hp:Heap) (Y:List Addr),VR b hp Y h v)->Q v s):wpAny M A (eval (.Constant k0 kk p) env) Q E s:=by
 cases hc with
 |none=>exact wpAny_Constant_none (hq _ λO O O=>VR.u2)
 |bool b=>exact wpAny_Constant_bool (hq _ λO O O=>VR.u1 b)
theorem Fo.i3{c:Cx}{E E':Value->Shared->Prop}{Q Q':Flow->Shared->Prop}{P:Pt}{o:Out (Fl×Loc)}{h:PV}{J:Loc}(F:Fo E (fE c Q) P (FR.i3 o h J))(h1:∀af,Fo E (fE c Q) P (give (.ret h,J) af)->∀x s',oP c [c.L] af P x s'->E' x s')(h2:∀f s,Q f s->Q' f s):Fo E' (fE c Q') P o:=by
 cases o with
 |none=>exact F
 |some r=>
  obtain ⟨r,af⟩:=r
  cases r with
  |error e=>
   cases e with
   |hZ=>exact h1 af F
   |fresh=>exact F.elim
  |ok fl=>
   obtain ⟨fl,aN⟩:=fl
   cases fl with
   |next=>exact λP' A I=>h2 _ _ (F P' A I)
   |cont=>exact λP' A I=>h2 _ _ (F P' A I)
   |ret p=>exact λP' v A S V=>h2 _ _ (F P' v A S V)
theorem NN{c:Cx}{a:Addr}{o:Obj}(m:a∈c.F)(e:c.hc.get? a=some o):False:=by
 obtain ⟨env,hm,hf⟩:=List.mem_filterMap.mp m
 exact(c.kf env hm).2.elim λL x=>aH x.2 (bp x.1 hf▸e)
theorem IF{G:Gx}(X:AY G.c.toBs)(ja:∃outer,G.c.fr=G.env::outer)(t7:G.env.frame=some G.c.L){body:List PySem.Stmt}{mb:bq}{x:Str}{np p1 p2 pos Qk:Pos}{k0:PySem.Const}{kk:Nat}{h:PV}
  (hk:G.env.kindOf x=some .globalImplicit) (hx:G.T.mg x=some (.ref (bT 2))) (hd:(x == ("__debug__":Str))=false) (hc:lG k0 h) (B:ig G body mb):
  dS G (.Try body [.ExceptHandler (some (.Name x np)) none [.Return (some (.Constant k0 kk p1)) p2] pos] [] [] Qk) (.kX mb h):=by
 intro J Z P Q E I F
 refine wpAny_Try_except (B J Z P _ _ I (Fo.i3 F (λaf aL ex cJ y=> ?_) λf s q=> ?_))
 ·obtain ⟨e,gg,hb,h',t',a0,q3,q4,q5,q6,q7,q8⟩:=y
  obtain ⟨outer,CT⟩:=ja
  rw[CT] at q3
  refine wpAny_looks_onW (G.hY.fr.trans (congrArg some CT)) t7 q3 λct IG NO=>wpAny_landsW IG λmB AZ NP=> ?_
  obtain ⟨ob,Gy,Ql⟩:=AZ.there
  have GK:∀a o,G.c.hc.get? a=some o->mB.get? a=some o:=λa o ea=>
   AZ.1 a o (q6 a o (I.kc a o ea) (λm=>aH (I.so.fresh a m) ea) (λm=>NN m ea) (λm=>aH G.c.lf (List.mem_singleton.mp m▸ea))).2
  obtain ⟨nm,q,N,bs,bm,tc,sn,sub,ab,col,dd,U0,k1,k2,k3,k5,newId,hC,mz⟩:=X
  refine wpAny_handleBy_cons (codeAny_handlers_test ?_) nofun
  refine Name_function_global G.hY.kf hk (loadGlobal_global (G.hY.gl.symm▸G.T.ng.keeps GK) hx ?_) hd
  refine wpAny_excMatches_sub_self (GK _ _ hC) Gy Ql mz (codeAny_handlers_suite ?_)
  refine lands_againW AZ λiO GL NQ=> ?_
  refine wpAny_execs_cons (wpAny_Return_some (CS hc λv hv=> ?_))
  exact aL ⟨gg,{P.s with heap:=iO,toks:=t'}⟩ v ⟨q5,λa o e x y z=>let q:=q6 a o e x y z;⟨q.1,GL.1 _ _ q.2⟩,λa x y m N=>((NO.trans NP).trans NQ).ns (q7 a x y m N),q8,rfl⟩ (q4.keeps GL.1) (hv _ _ _)
 ·cases f with
  |next=>exact wpAny_execs_nil q
  |_=>exact q
end FR
section
set_option maxRecDepth 100000
namespace rM
open PySem PySem.W PySem.Calls PyProof.Rows PySem.SeqAt
open PySem.Builtin PySem.Builtin.ObjectAttr
noncomputable abbrev nR:List Value:=[.type "Exception",.type "BaseException",.type "object"]
section
variable{M:Model}{A:Around}{E:Value->Shared->Prop}{h:Heap}{g:Array GenState}{d:Drawn}{t:Nat}{os:OsState}
variable{nm q:Str}{C B N:Addr}{bs:List Value}{tc:Bool}{sn:List Str}{sub:List Value}{ab:Bool}{col:Option Bool}{dd Kn:Option Addr}{k0 k1 k2 k3 k5:Option Value}{c0:Value}{cd:ClassData}{sl:Array (Option Value)}{mN mR:Str->Option Value}{name:Str}
structure lH(h:Heap)(C B:Addr)(mN mR:Str->Option Value):Prop where
 cls:∃nm q N bs sn sub ab col dd k0 k1 k2 k3 k5,h.get? C=some (excClassObj nm q C N bs (.ref B::nR) true sn sub ab col dd k0 k1 k2 k3 k5 "Exception.__new__")/\h.Ns N mN
 base:∃c0 dd cd sl,h.get? B=some {cls:=c0,dict:=dd,data:=.cls cd,slots:=sl}/\h.Ns cd.ns mR
theorem lH.keeps{h h':Heap}(T:lH h C B mN mR)(k:∀b o,h.get? b=some o->h'.get? b=some o):lH h' C B mN mR:=by
 obtain ⟨⟨nm,q,N,bs,sn,sub,ab,col,dd,k0,k1,k2,k3,k5,hC,hn⟩,c0,Kn,cd,sl,hB,hr⟩:=T
 exact⟨⟨nm,q,N,bs,sn,sub,ab,col,dd,k0,k1,k2,k3,k5,k _ _ hC,hn.keeps k⟩,c0,Kn,cd,sl,k _ _ hB,hr.keeps k⟩
theorem A0{y:Option Value}{Q:Option Value->Shared->Prop}(T:lH h C B mN mR)(hB:typeLookup (.type "Exception") name=pure y)
  (hq:Q (match mN name with | some v=>some v | none=>match mR name with | some v=>some v | none=>y) ⟨h,g,d,t,os⟩):wpAny M A (typeLookup (.ref C) name) Q E ⟨h,g,d,t,os⟩:=by
 obtain ⟨⟨nm,q,N,bs,sn,sub,ab,col,dd,k0,k1,k2,k3,k5,hC,hn⟩,c0,Kn,cd,sl,hR,hr⟩:=T
 have hrest:lookupAlong nR name=pure y:=by rw[typeLookup_eq,PySem.F.excBase_Exception.mroIs] at hB;exact hB
 rw[typeLookup_eq]
 refine wpAny_bind (wpAny_mroOf_exc hC ?_)
 rw[lookupAlong_cons]
 refine wpAny_bind (wpAny_classOwn_exc hC hn ?_)
 cases hv:mN name with
 |some v=>rw[hv] at hq;exact wpAny_pure hq
 |none=>
  rw[hv] at hq
  dsimp only at hq⊢
  rw[lookupAlong_cons]
  refine wpAny_bind (wpAny_classOwn_cls hR hr ?_)
  cases hw:mR name with
  |some v=>rw[hw] at hq;exact wpAny_pure hq
  |none=>rw[hw] at hq;dsimp only at hq⊢;rw[hrest];exact wpAny_pure hq
theorem A1{rest:List Value}{Q:Unit->Shared->Prop}(hC:h.get? C=some (excClassObj nm q C N bs (.ref B::nR) tc sn sub ab col dd k0 k1 k2 k3 k5 "Exception.__new__"))
  (hq:Q () ⟨h,g,d,t,os⟩):wpAny M A (checkBuiltinCall "Exception.__new__" ⟨.ref C::rest,[]⟩) Q E ⟨h,g,d,t,os⟩:=by
 have F:=PySem.F.excBase_Exception
 have NR:(Value.ref C::.ref B::nR).contains (.type "Exception")=true:=rfl
 have UL:=F.noStar
 simp only [checkBuiltinCall,F.newKind,F.newSplit,F.newRow]
 repeat (first | refine wpAny_loadPart_at hC ?_ | (refine wpAny_isSubtype_exc hC ?_;rw[NR]) | refine wpAny_staticBase_exc hC ?_ | refine wpAny_madeBy_exc hC ?_ | simp only [bne_self_eq_false,Bool.false_eq_true,if_false] | wp_step)
 exact hq
end
section
variable{prog:Program}{w:World}{A:Around}{R:Result->Shared->Prop}{h:Heap}{g:Array GenState}{d:Drawn}{t:Nat}{os:OsState}
variable{nm q:Str}{C B N:Addr}{bs:List Value}{tc:Bool}{sn:List Str}{sub:List Value}{ab:Bool}{col:Option Bool}{dd:Option Addr}{k0 k1 k2 k3 k5:Option Value}
theorem Fb{rest:List Value}(hC:h.get? C=some (excClassObj nm q C N bs (.ref B::nR) tc sn sub ab col dd k0 k1 k2 k3 k5 "Exception.__new__"))
  (hq:R (.ok (.ret (.ref (h.objs.size+1)))) ⟨(h.push {cls:=.type "tuple",data:=.seq rest.toArray}).push
   {cls:=.ref C,data:=.fields #[.ref h.objs.size,.none,.none,.none,.bool false,.none]},g,d,t,os⟩) (hrest:rest.length<=sizeLine:=by size_fits):
  codeAny (model prog w) A (.builtin "Exception.__new__" ⟨.ref C::rest,[]⟩) R ⟨h,g,d,t,os⟩:=by
 have F:=PySem.F.excBase_Exception
 have UM:=F.ends
 have CU:(Value.ref C::.ref B::nR).contains (.type "Exception")=true:=rfl
 have RP:(Value.ref C::.ref B::nR).contains (.type "AttributeError")=false:=rfl
 have RQ:(Value.ref C::.ref B::nR).contains (.type "NameError")=false:=rfl
 refine codeAny_builtinAt F.entry ?_
 unfold Builtin.«BaseException.__new__»
 refine PySem.wpAt_bind ?_
 show PySem.wpAt _ _ _ (stack >>= _) _ _ _
 refine PySem.wpAt_bind (PySem.wpAt_stack λp below=>PySem.wpAt_of_wpAny ?_)
 wp_walk
 refine PySem.wpAt_of_wpAny ?_
 rw[F.owner]
 repeat (first | with_reducible refine wpAny_madeHere_exc F.canon hC ?_ | with_reducible refine wpAny_loadPart_at hC ?_ | (with_reducible refine wpAny_isSubtype_exc hC ?_;first | rw[CU] | rw[RP] | rw[RQ]) | wp_step)
 show R _ _
 rw[Heap.size_push]
 exact hq
end
section
variable{prog:Program}{w:World}{A:Around}{E:Value->Shared->Prop}{h:Heap}{g:Array GenState}{d:Drawn}{t:Nat}{os:OsState}
variable{C B f:Addr}{mN mR:Str->Option Value}
theorem A2{rest:List Value}{Q:PySem.Fin->Shared->Prop}(T:lH h C B mN mR)(h1:mN "__init__"=none)(h2:mR "__init__"=some (.ref f))(hf:∀h' (self:Value),(∀b o,h.get? b=some o->h'.get? b=some o)->Looks (model prog w) h' (bindSpecial (.ref f) self) (.ref f,[self]))
  (hq:codeAny (model prog w) A (.call (.ref f) ⟨.ref (h.objs.size+1)::rest,[]⟩) (λr s'=>match r with | .ok (.ret v)=>v=.none/\Q (.done (.ret (.ref (h.objs.size+1)))) s' | .ok _=>False | .error e=>E e s')
   ⟨(h.push {cls:=.type "tuple",data:=.seq rest.toArray}).push {cls:=.ref C,data:=.fields #[.ref h.objs.size,.none,.none,.none,.bool false,.none]},g,d,t,os⟩) (hrest:rest.length<=sizeLine:=by size_fits):
  wpAny (model prog w) A (Builtin.«type.__call__» ⟨.ref C::rest,[]⟩) Q E ⟨h,g,d,t,os⟩:=by
 have T0:=T
 have F:=PySem.F.excBase_Exception
 obtain ⟨⟨nm,q,N,bs,sn,sub,ab,col,dd,k0,k1,k2,k3,k5,hC,hn⟩,_⟩:=T0
 repeat (first | with_reducible refine wpAny_loadPart_at hC ?_ | with_reducible refine wpAny_madeBy_exc hC ?_ | wp_step)
 refine codeAny_call_builtin_code (Code.quiet_builtin _ F.quiet) (A1 hC ?_)
 refine Fb hC ?_ hrest
 show wpAny _ _ _ _ _ _
 have kk:∀b o,h.get? b=some o->((h.push {cls:=.type "tuple",data:=.seq rest.toArray}).push {cls:=.ref C,data:=.fields #[.ref h.objs.size,.none,.none,.none,.bool false,.none]}).get? b=some o:=
  λb o e=>Heap.get?_push_of_some _ (Heap.get?_push_of_some _ e)
 have NS:=kk _ _ hC
 have Qm:((h.push {cls:=.type "tuple",data:=.seq rest.toArray}).push
   {cls:=.ref C,data:=.fields #[.ref h.objs.size,.none,.none,.none,.bool false,.none]}).get? (h.objs.size+1)=some
   {cls:=.ref C,data:=.fields #[.ref h.objs.size,.none,.none,.none,.bool false,.none]}:=by heap_get
 have RS:(Value.ref C::.ref B::nR).contains (.ref C)=true:=by simp
 unfold isInstance
 repeat (first | with_reducible refine wpAny_loadPart_at Qm ?_ | (with_reducible refine wpAny_isSubtype_exc NS ?_;rw[RS]) | wp_step)
 show wpAny _ _ (typeLookup (.ref C) _) _ _ _
 refine A0 (T.keeps kk) F.init.lookup ?_
 rw[h1,h2]
 refine wpAny_holding (wpAny_bind ((hf _ _ kk).here (wpAny_bind (wpAny_call (codeAny_mono hq λr s' z=> ?_)))))
 rcases r with e | (v | _ | _ | _)<;>first | exact z | exact z.elim | skip
 obtain ⟨rfl,z⟩:=z
 exact wpAny_pure (wpAny_pure z)
end
section
variable{prog:Program}{w:World}{A:Around}{E:Value->Shared->Prop}{h:Heap}{g:Array GenState}{d:Drawn}{t:Nat}{os:OsState}
variable{C B f x:Addr}{mN mR mA:Str->Option Value}{name:Str}{v:Value}
theorem call2{rest:List Value}{Q:Value->Shared->Prop}(T:lH h C B mN mR)(h1:mN "__init__"=none)(h2:mR "__init__"=some (.ref f))(hf:∀h' (self:Value),(∀b o,h.get? b=some o->h'.get? b=some o)->Looks (model prog w) h' (bindSpecial (.ref f) self) (.ref f,[self]))
  (hq:codeAny (model prog w) (A.under (.builtin "type.__call__" ⟨.ref C::rest,[]⟩)) (.call (.ref f) ⟨.ref (h.objs.size+1)::rest,[]⟩) (λr s'=>match r with | .ok (.ret v)=>v=.none/\Q (.ref (h.objs.size+1)) s' | .ok _=>False | .error e=>E e s')
   ⟨(h.push {cls:=.type "tuple",data:=.seq rest.toArray}).push {cls:=.ref C,data:=.fields #[.ref h.objs.size,.none,.none,.none,.bool false,.none]},g,d,t,os⟩) (hrest:rest.length<=sizeLine:=by size_fits):
  wpAny (model prog w) A (call (.ref C) rest) Q E ⟨h,g,d,t,os⟩:=by
 have f1:=tc_lookup
 have f2:=tc_bind (.ref C)
 have T0:=T
 obtain ⟨⟨nm,q,N,bs,sn,sub,ab,col,dd,k0,k1,k2,k3,k5,hC,hn⟩,_⟩:=T0
 have hT:(⟨h,g,d,t,os⟩:Shared).TypeIs (.ref C) "type":=⟨_,hC,rfl⟩
 refine wpAny_call (codeAny_of_tree ?_)
 show wpAny _ _ (callAny (.ref C) _) _ _ _
 repeat (any_goals (first | assumption | with_reducible refine wpAny_loadPart_at hC ?_ | wp_step))
 refine⟨rfl,?_⟩
 refine codeAny_call_builtin_at (Code.quiet_builtin _ (by decide+kernel)) entry_typeCall (wpAny_check_type_call_sub hC (A2 (hrest:=hrest) T h1 h2 hf (codeAny_mono hq λr s' z=> ?_)))
 rcases r with e | (v | _ | _ | _)<;>first | exact z | exact z.elim
theorem Ko{tk:Tok}{Q:PySem.Fin->Shared->Prop}{ns:List Str}(T:lH h C B mN mR)(wC:mN name=none)(Kp:mR name=none)
  (hB:typeLookup (.type "Exception") name=pure none) (I:h.Inst x C mA)
  (hq:∀h' wG,h'.Inst x C (λy=>if y=name then some v else mA y)->
   (∀b o,b≠x->(∀dK dx,h.get? x=some dK->dK.dict=some dx->b≠dx)->h.get? b=some o->h'.get? b=some o)->
   (∀dK,h.get? x=some dK->∃mC,h'.get? x=some mC/\mC.cls=dK.cls/\mC.data=dK.data/\∃dx,mC.dict=some dx/\(dK.dict=some dx\/dK.dict=none/\h.get? dx=none))->Q (.done (.ret .none)) ⟨h',g,d,wG,os⟩) (hw:Within mA ns:=by within_ways) (eK:ns.length<=sizeLine:=by size_fits):
  wpAny (model prog w) A (Builtin.«object.__setattr__» ⟨[.ref x,.str name tk,v],[]⟩) Q E ⟨h,g,d,t,os⟩:=by
 have T0:=T
 obtain ⟨⟨nm,q,N,bs,sn,sub,ab,col,dd,k0,k1,k2,k3,k5,hC,hn⟩,_⟩:=T0
 obtain ⟨o,hx,hc,CV,hd⟩:=I
 have NT:=PySem.F.store_Exception.passes (.ref x)
 unfold Builtin.«object.__setattr__»
 repeat (first | rw[refuse_eq] | (rw[refuseLoop_ref,refuseLoop_ref,NT]) | (with_reducible refine wpAny_loadPart_at hx ?_;rw[hc]) | with_reducible refine wpAny_mroOf_exc hC ?_ | (with_reducible refine A0 T hB ?_;rw[wC,Kp]) | wp_step)
 rcases hd with ⟨OU,RT⟩ | ⟨dx,wH,dh,mZ⟩
 ·
  rw[OU,if_neg (by simp [typeHasDict])]
  split
  ·rename_i m7
   cases m7
  split
  ·rename_i c m7
   exact absurd m7 (CV c)
  ·have GN:(h.push {cls:=.type "dict",data:=.dict #[]}).get? x=some o:=Heap.get?_push_of_some _ hx
   have Kq:x≠h.objs.size:=Nat.ne_of_lt (Heap.lt_size hx)
   refine wpAny_bind (wpAny_alloc' ?_)
   refine wpAny_bind (wpAny_update' GN ?_)
   refine wpAny_pure ?_
   have RU:((h.push {cls:=.type "dict",data:=.dict #[]}).update x λo=>{cls:=o.cls,dict:=some h.objs.size,data:=o.data,slots:=o.slots}).get? h.objs.size
     =some {cls:=.type "dict",data:=.dict #[]}:=
    (Heap.get?_update_ne _ _ _ _ Kq.symm).trans (Heap.get?_push_at rfl rfl)
   have CW:((h.push {cls:=.type "dict",data:=.dict #[]}).update x λo=>{cls:=o.cls,dict:=some h.objs.size,data:=o.data,slots:=o.slots}).Ns h.objs.size (λO=>none):=
    ⟨_,#[],_,RU,rfl,λe he=>absurd he (by simp),λO=>rfl⟩
   show wpAny _ _ (storeInDict h.objs.size (.str name tk) name v) _ _ _
   unfold storeInDict newKeyGuard
   refine wpAny_bind (wpAny_pure (wpAny_bind (wpAny_nsSet1 (Heap.Ns1.of_empty CW) λh' CX hs=> ?_)))
   obtain ⟨oD,RV,RW,Kr,Ks,Kt⟩:=CX.count (Within.cons name v Within.nil)
   refine wpAny_bind (wpAny_lookBehind Kr (by rw[Ks];exact pastItsLine_dict (Nat.le_trans Kt (by rw[List.length_cons,List.length_nil,sizeLine_eq];omega))) ?_)
   wp_walk
   have GO:h'.get? x=some {cls:=o.cls,dict:=some h.objs.size,data:=o.data,slots:=o.slots}:= ?_
   refine hq h' _ ⟨{cls:=o.cls,dict:=some h.objs.size,data:=o.data,slots:=o.slots},GO,hc,CV,.inr ⟨h.objs.size,rfl,Kq.symm,?_⟩⟩ (λb ob RX O hb=> ?_)
    (λdK h₀=>by obtain rfl:o=dK:=Option.some.inj (hx.symm.trans h₀);exact⟨_,GO,rfl,rfl,_,rfl,.inr ⟨OU,Heap.get?_none_of_le (Nat.le_refl _)⟩⟩)
   ·obtain ⟨o',es,ep,e1,e2,e3,eu,e4⟩:=CX
    exact⟨o',es,ep,e1,e2,e3,eu,λy=>by rw[e4 y];by_cases hy:y=name<;>simp [hy,RT]⟩
   ·exact(hs.2 b (Nat.ne_of_lt (Heap.lt_size hb))).trans ((Heap.get?_update_ne _ _ _ _ RX).trans (Heap.get?_push_of_some _ hb))
   ·refine(hs.2 x Kq).trans (Heap.get?_update_self _ GN ?_)
    have ja:=(Heap.get?_some_iff.mp hx).2
    obtain ⟨oc,od,OV,RY⟩:=o
    cases OV<;>first | rfl | exact ja
 ·
  rw[wH]
  refine wpAny_pure ?_
  show wpAny _ _ (storeInDict dx (.str name tk) name v) _ _ _
  unfold storeInDict newKeyGuard
  refine wpAny_bind (wpAny_pure (wpAny_bind (wpAny_nsSet1 mZ λh' CX hs=> ?_)))
  obtain ⟨oD,RV,RW,Kr,Ks,Kt⟩:=CX.count (Within.cons name v hw)
  refine wpAny_bind (wpAny_lookBehind Kr (by rw[Ks];exact pastItsLine_dict (Nat.le_trans Kt (by rw[List.length_cons];omega))) ?_)
  wp_walk
  refine hq h' _ ⟨o,(hs.2 x dh.symm).trans hx,hc,CV,.inr ⟨dx,wH,dh,CX⟩⟩ (λb ob O je hb=> ?_)
   (λdK h₀=>by obtain rfl:o=dK:=Option.some.inj (hx.symm.trans h₀);exact⟨o,(hs.2 x dh.symm).trans h₀,rfl,rfl,dx,wH,.inl wH⟩)
  exact(hs.2 b (je o dx hx wH)).trans hb
theorem CY{M:Model}{o:Obj}{NU:Value}{Q:Unit->Shared->Prop}(T:lH h C B mN mR)(hx:h.get? x=some o)(hc:o.cls=.ref C)(hq:Q () ⟨h,g,d,t,os⟩):
  wpAny M A (checkBuiltinCall "object.__setattr__" ⟨[.ref x,NU,v],[]⟩) Q E ⟨h,g,d,t,os⟩:=by
 have SF:=PySem.F.store_Exception
 obtain ⟨⟨nm,q,N,bs,sn,sub,ab,col,dd,k0,k1,k2,k3,k5,hC,hn⟩,_⟩:=T
 have CU:(Value.ref C::.ref B::nR).contains (.type "object")=true:=rfl
 simp only [checkBuiltinCall,SF.kind,SF.split]
 refine wpAny_bind ?_
 ·unfold isInstance
  repeat (first | (with_reducible refine wpAny_loadPart_at hx ?_;rw[hc]) | (with_reducible refine wpAny_isSubtype_exc hC ?_;rw[CU]) | wp_step)
  exact hq
theorem Ku{Q:Unit->Shared->Prop}{ns:List Str}(T:lH h C B mN mR)(mZ:mN "__setattr__"=none)(RZ:mR "__setattr__"=none)(wC:mN name=none)(Kp:mR name=none)
  (hB:typeLookup (.type "Exception") name=pure none) (I:h.Inst x C mA)
  (hq:∀h' wG,h'.Inst x C (λy=>if y=name then some v else mA y)->
   (∀b o,b≠x->(∀dK dx,h.get? x=some dK->dK.dict=some dx->b≠dx)->h.get? b=some o->h'.get? b=some o)->
   (∀dK,h.get? x=some dK->∃mC,h'.get? x=some mC/\mC.cls=dK.cls/\mC.data=dK.data/\∃dx,mC.dict=some dx/\(dK.dict=some dx\/dK.dict=none/\h.get? dx=none))->Q () ⟨h',g,d,wG,os⟩) (hw:Within mA ns:=by within_ways) (eK:ns.length<=sizeLine:=by size_fits):
  wpAny (model prog w) A (setAttr (.ref x) name v) Q E ⟨h,g,d,t,os⟩:=by
 have SF:=PySem.F.store_Exception
 obtain ⟨o,hx,hc,_⟩:=id I
 have f3:=SF.slot.bind (.ref x)
 unfold setAttr callSpecial? specialOf
 repeat (any_goals (first | assumption | (with_reducible refine wpAny_loadPart_at hx ?_;rw[hc]) | (with_reducible refine A0 T SF.slot.lookup ?_;rw[mZ,RZ]) | wp_step))
 refine codeAny_call_builtin SF.slot.plain SF.entry (CY T hx hc (Ko T wC Kp hB I (λh' wG I' hk NV=> ?_) hw eK))
 repeat (any_goals (first | assumption | wp_step))
 exact hq h' wG I' hk NV
end
end rM
end
section
set_option maxRecDepth 100000
namespace FR
open PySem PySem.W PySem.Calls PyProof.Rows PySem.SeqAt
structure nS(b:Bs):Prop where
 two:∃mN mR,rM.lH b.hc (bT 2) 31 mN mR/\mN "__init__"=none/\mR "__init__"=some (.ref 28)/\∀n∈(["__setattr__","code","at"]:List Str),mN n=none/\mR n=none
 fn:∃fd p1 p2 p3 p4 q1 q2 q3 q4,we b 28 fd ["self","code","at"] 3 [.Assign [.Attribute (.Name "self" p1) "code" p2] (.Name "code" p3) p4,.Assign [.Attribute (.Name "self" q1) "at" q2] (.Name "at" q3) q4]
 bf:∀h(self:Value),(∀a o,b.hc.get? a=some o->h.get? a=some o)->Looks (model b.prog b.w) h (bindSpecial (.ref 28) self) (.ref 28,[self])
theorem lookup_code:typeLookup (.type "Exception") "code"=pure none:=by rw[typeLookup_type,builtinLookup_eq_fast];kernel_rfl
theorem lookup_at:typeLookup (.type "Exception") "at"=pure none:=by rw[typeLookup_type,builtinLookup_eq_fast];kernel_rfl
section
variable{b:Bs}{A:Around}{R:Result->Shared->Prop}{s:Shared}
theorem jE{M:Model}{env:Env}{x:Str}{p:Pos}{m:Str->Option Value}{v:Value}{Q:Value->Shared->Prop}{E:Value->Shared->Prop}(kf:env.scope.kind=.function)(kl:env.kindOf x=some .local)(N:s.heap.Ns env.locals m)(e:m x=some v)(hd:(x == ("__debug__":Str))=false)(h:Q v s):
  wpAny M A (eval (.Name x p) env) Q E s:=wpAny_Name (wpAny_loadName_local kf kl N e h) hd
theorem Fc(X:nS b){e:Addr}{t:Value}{v1 v2:Value}(k:∀a o,b.hc.get? a=some o->s.heap.get? a=some o)(he:s.heap.get? e=some {cls:=.ref (bT 2),data:=.fields #[t,.none,.none,.none,.bool false,.none]})(hn:b.hc.get? e=none)(J3:A.depth<900)
  (hq:∀h' tk,(∀a o,a≠e->s.heap.get? a=some o->h'.get? a=some o)->(∃oe,h'.get? e=some oe/\oe.cls=.ref (bT 2)/\oe.data=.fields #[t,.none,.none,.none,.bool false,.none])->R (.ok (.ret .none)) {s with heap:=h',toks:=tk}):
  codeAny (model b.prog b.w) A (.call (.ref 28) ⟨[.ref e,v1,v2],[]⟩) R s:=by
 obtain ⟨⟨mN,mR,T,i1,i2,nn⟩,⟨fd,p1,p2,p3,p4,q1,q2,q3,q4,F⟩,_⟩:=X
 obtain ⟨⟨o,ho,AK⟩,NW,Kv,U1,m7,Qn,NX,Kw,CV,CW,U2,R1,R3,OW⟩:=F
 have s1:(("__setattr__":Str)∈(["__setattr__","code","at"]:List Str)):=by simp
 have s2:(("code":Str)∈(["__setattr__","code","at"]:List Str)):=by simp
 have s3:(("at":Str)∈(["__setattr__","code","at"]:List Str)):=by simp
 refine codeAny_call_def (binds:=(["self","code","at"]:List Str).take 3 |>.zip [.ref e,v1,v2]) (Nat.lt_of_lt_of_le J3 (by decide)) (k _ _ ho) AK (Qn.keeps k) (m7.keeps k) NW (BindsTo.of_eq (NX _ rfl)) CV (λx hx=> ?_) (λh₀ mZ hk=> ?_) R1 R3 OW
 ·exact Kw _ (List.mem_of_mem_take (List.of_mem_zip (a:=x.1) (b:=x.2) hx).1)
 have R4:e≠s.heap.objs.size:=Nat.ne_of_lt (Heap.lt_size he)
 have A3:=hk _ _ he
 have Qo:=T.keeps (λa o ea=>hk _ _ (k a o ea))
 obtain ⟨oC,U3⟩:∃oC,b.hc.get? (bT 2)=some oC:=by
  obtain ⟨⟨nm,q,N,bs,sn,sub,ab,col,dd,k0,k1,k2,k3,k5,hC,_⟩,_⟩:=T
  exact⟨_,hC⟩
 have kl:∀x∈(["self","code","at"]:List Str),(callEnv fd s.heap.objs.size 28).kindOf x=some .local:=λx hx=>Kw x hx
 have kf:(callEnv fd s.heap.objs.size 28).scope.kind=.function:=OW
 have m1:(("self":Str)∈(["self","code","at"]:List Str)):=by simp
 have m2:(("code":Str)∈(["self","code","at"]:List Str)):=by simp
 have m3:(("at":Str)∈(["self","code","at"]:List Str)):=by simp
 have l1:(((["self","code","at"]:List Str).take 3).zip [Value.ref e,v1,v2]).reverse.lookup ("self":Str)=some (Value.ref e):=by kernel_rfl
 have l2:(((["self","code","at"]:List Str).take 3).zip [Value.ref e,v1,v2]).reverse.lookup ("code":Str)=some v1:=by kernel_rfl
 have l3:(((["self","code","at"]:List Str).take 3).zip [Value.ref e,v1,v2]).reverse.lookup ("at":Str)=some v2:=by kernel_rfl
 refine wpAny_execs_cons (plainObj_wpAny_Assign_Attribute (jE kf (kl _ m2) mZ l2 (by decide+kernel) (jE kf (kl _ m1) mZ l1 (by decide+kernel) ?_)) rfl)
 refine rM.Ku (mA:=λO=>none) (ns:=[]) Qo (nn _ s1).1 (nn _ s1).2 (nn _ s2).1 (nn _ s2).2 lookup_code ⟨_,A3,rfl,λc=>by simp,.inl ⟨rfl,λO=>rfl⟩⟩ (λh1 U4 I1 k1 w1=> ?_) (λy hy=>absurd rfl hy) (Nat.zero_le _)
 obtain ⟨o1,g1,c1,d1,dx,wH,hold⟩:=w1 _ A3
 have Kx:h₀.get? dx=none:=by
  rcases hold with q | q
  ·cases q
  ·exact q.2
 have Ky:∀a o,a≠e->h₀.get? a=some o->h1.get? a=some o:=λa o ha ea=>k1 a o ha (λdK R5 q1 q2=>by rw[A3] at q1;cases q1;cases q2) ea
 have R6:∀a o,b.hc.get? a=some o->h1.get? a=some o:=λa o ea=>Ky a o (λq=>by rw[q,hn] at ea;cases ea) (hk _ _ (k a o ea))
 have Kz:h1.Ns (callEnv fd s.heap.objs.size 28).locals (λx=>(((["self","code","at"]:List Str).take 3).zip [Value.ref e,v1,v2]).reverse.lookup x):=by
  obtain ⟨o,es,n,ex,r⟩:=mZ
  exact⟨o,es,n,Ky _ _ (Ne.symm R4) ex,r⟩
 refine wpAny_execs_cons (plainObj_wpAny_Assign_Attribute (jE kf (kl _ m3) Kz l3 (by decide+kernel) (jE kf (kl _ m1) Kz l1 (by decide+kernel) ?_)) rfl)
 refine rM.Ku (ns:=["code"]) (T.keeps R6) (nn _ s1).1 (nn _ s1).2 (nn _ s3).1 (nn _ s3).2 lookup_at I1 (λh2 R7 I2 k2 w2=> ?_) (λy hy=> ?_) (by rw[sizeLine_eq];decide)
 ·obtain ⟨o2,g2,c2,d2,_⟩:=w2 _ g1
  refine wpAny_execs_nil ?_
  refine hq h2 R7 (λa o ha ea=>k2 a o ha (λdK R5 q1 q2=> ?_) (Ky a o ha (hk _ _ ea))) ⟨o2,g2,c2.trans c1,d2.trans d1⟩
  rw[g1] at q1
  cases q1
  rw[wH] at q2
  cases q2
  intro q
  subst q
  rw[hk _ _ ea] at Kx
  cases Kx
 ·by_cases q:y="code"
  ·simp [q]
  ·simp [q] at hy
end
theorem CZ{M:Model}{C B:Addr}{mN mR:Str->Option Value}(h:Heap)(T:rM.lH h C B mN mR):∃k,(k=Keeper.frame\/k=Keeper.machine\/k=Keeper.boundFrame)/\Looks M h (keeperOf (.ref C)) k:=by
 obtain ⟨⟨nm,q,N,bs,sn,sub,ab,col,dd,k0,k1,k2,k3,k5,hC,hn⟩,_⟩:=T
 exact⟨.machine,.inr (.inl rfl),λA Q E s k hq=>wpAny_keeperOf_exc (k _ _ hC) hq⟩
theorem A4{prog:Program}{w:World}{A:Around}{env:Env}{C B:Addr}{mN mR:Str->Option Value}{Q:Flow->Shared->Prop}{E:Value->Shared->Prop}{s:Shared}{x:Sem Value}(hh:A.handled=none)
  (h:wpAny (model prog w) A x (λv cJ=>∃e oe t,v=.ref e/\rM.lH cJ.heap C B mN mR/\cJ.heap.get? e=some oe/\oe.cls=.ref C/\oe.data=.fields #[t,.none,.none,.none,.bool false,.none]/\E (.ref e) cJ) E s):
  wpAny (model prog w) A (raiseStmt env (some x) none) Q E s:=by
 have CU:(Value.ref C::.ref B::rM.nR).contains (.type "BaseException")=true:=rfl
 unfold raiseStmt
 refine wpAny_bind (wpAny_mono h (λv cJ Fd=> ?_) λO O x=>x)
 obtain ⟨e,⟨oc,od,OV,RY⟩,t,rfl,⟨⟨nm,q,N,bs,sn,sub,ab,col,dd,k0,k1,k2,k3,k5,hC,hn⟩,_⟩,he,hc,OX,hE⟩:=Fd
 dsimp only at hc OX
 subst hc OX
 obtain ⟨hp,g,d,tk,os⟩:=cJ
 repeat (first | with_reducible refine wpAny_loadPart_at he ?_ | with_reducible refine wpAny_loadPart_at hC ?_ | (with_reducible refine wpAny_isSubtype_exc hC ?_;rw[CU]) | wp_step)
 exact wpAny_raiseNew_none hh hE
noncomputable def bO.len:bO->Nat
 |.nil=>0
 |.cons _ r=>r.len+1
noncomputable def Len(n:Nat)(o:Out (List PV)):Prop:=∀ps Z,o=some (.ok ps,Z)->ps.length=n
theorem Len.au{β:Type}{n:Nat}{m:Out β}{k:β->ae->Out (List PV)}(h:∀b Z,Len n (k b Z)):Len n (au m k):=by
 cases m with
 |none=>exact λO O=>nofun
 |some r=>
  obtain ⟨r,af⟩:=r
  cases r with
  |error e=>exact λO O=>nofun
  |ok b=>exact h b af
theorem Len.es{cf:Nat->List PV->ae->Out PV}{gl:Nat->PV}:∀(ms:bO){J:Loc}{Z:ae},Len ms.len (bg cf gl ms J Z)
 |.nil,_,_=>λO O e=>by cases e;rfl
 |.cons _ r,_,_=>Len.au λv Z=>by
  have ih:=Len.es r (cf:=cf) (gl:=gl) (J:= ‹Loc›) (Z:=Z)
  revert ih
  show Len r.len (bg cf gl r _ Z)->Len (r.len+1) (FR.au (bg cf gl r _ Z) λvs Z=>give (v::vs) Z)
  generalize bg cf gl r _ Z=o
  intro ih ps af e
  cases o with
  |none=>exact nomatch e
  |some x=>
   obtain ⟨x,KA⟩:=x
   cases x with
   |error=>exact nomatch e
   |ok vs=>cases e;exact congrArg (· +1) (ih vs _ rfl)
theorem Fo.len{c:Cx}{β:Type}{E:Value->Shared->Prop}{K:eU c β}{P:Pt}{n:Nat}{o:Out (List PV)}{k:List PV->ae->Out β}(h:Len n o)(F:Fo E K P (FR.au o k)):Fo E K P (FR.au o λps Z=>az (Nat.beq ps.length n) (k ps Z)):=by
 cases o with
 |none=>exact F
 |some x=>
  obtain ⟨x,KA⟩:=x
  cases x with
  |error=>exact F
  |ok vs=>
   show Fo E K P (az (Nat.beq vs.length n) (k vs KA))
   rw[h vs _ rfl,Nat.beq_refl]
   exact F
theorem C0{G:Gx}(X:nS G.c.toBs){x:Str}{p KC pos:Pos}{es:List PySem.Expr}{ms:bO}(hk:G.env.kindOf x=some .globalImplicit)(hx:G.T.mg x=some (.ref (bT 2)))(hd:(x == ("__debug__":Str))=false)
  (hu:es.all aS=true) (hl:ms.len=2) (L:iN G es ms):dS G (.Raise (some (.Call (.Name x p) es [] KC)) none pos) (.eR ms):=by
 intro J Z P Q E I F
 have F:Fo E (fE G.c Q) P (au (bg G.cf G.gl ms J Z) λO Z=>fresh Z):=F
 have F:=F.len (Len.es ms)
 rw[hl] at F
 refine X.two.elim λmN T2=>T2.elim λmR T2=> ?_
 rw[arm_exec_Raise]
 refine wpAny_bind (wpAny_standAt ?_)
 show wpAny _ _ (raiseStmt G.env (some (eval (.Call (.Name x p) es [] KC) G.env >>= λv=>standAt pos >>= λO=>pure v)) none) _ _ _
 refine A4 (C:=bT 2) (B:=31) (mN:=mN) (mR:=mR) G.hY.hn (wpAny_bind (wpAny_mono ?_ (λv ip mB=>wpAny_bind (wpAny_standAt (wpAny_pure mB))) λO O x=>x))
 refine Call_ (iU I hk hx hd (callWith_of (P:=λh=>rM.lH h (bT 2) 31 mN mR) ((Bool.or_false _).trans (bj hu)) CZ (b6 (bj hu) (L.go I F λps af aQ vs fG aD V aL=>⟨T2.1.keeps aD.kc,?_⟩))))
 have R8:vs.length=2:=(ay.length V).trans (Nat.eq_of_beq_eq_true aL.om.1)
 have aL:=aL.om.2
 match vs,R8 with
 |[v1,v2],_=>
 have C1:aQ.s.heap.get? (aQ.s.heap.objs.size+1)=none:=Heap.get?_none_of_le (Nat.le_succ _)
 have k₂:Sub aQ.s.heap ((aQ.s.heap.push {cls:=.type "tuple",data:=.seq [v1,v2].toArray}).push {cls:=.ref (bT 2),data:=.fields #[.ref aQ.s.heap.objs.size,.none,.none,.none,.bool false,.none]}):=
  λa o e=>Heap.get?_push_of_some _ (Heap.get?_push_of_some _ e)
 refine rM.call2 (T2.1.keeps aD.kc) T2.2.1 T2.2.2.1 (λh' self k=>X.bf h' self λa o e=>k _ _ (aD.kc a o e)) ?_ (by rw[sizeLine_eq];exact Nat.le_of_ble_eq_true rfl)
 refine Fc (t:=.ref aQ.s.heap.objs.size) X (λa o e=>k₂ _ _ (aD.kc a o e)) (by heap_get) (aD.new C1).1 ?_ λh' tk kk R9=>⟨rfl,R9.elim λoe g=> ?_⟩
 ·exact Nat.lt_of_le_of_lt (Nat.le_of_eq (tW G.A (bT 2) [v1,v2]).1) (Nat.lt_of_le_of_lt (Nat.succ_le_succ (Nat.le_trans (Nat.le_trans (Nat.le_add_right _ _) (Nat.le_add_right _ _)) G.hY.dp)) (by decide))
 have AU:Sub aQ.s.heap h':=λa o e=>kk a o (λq=>aH C1 (q▸e)) (k₂ a o e)
 have y:=aD.sub (t:=tk) AU
 refine⟨_,oe,_,rfl,T2.1.keeps y.1.kc,g.1,g.2.1,g.2.2,?_⟩
 refine aL _ _ ⟨_,oe,_,_,aQ.at aQ.Y h' tk,g.1,g.2.1,g.2.2,rfl,rfl,y.2,⟨y.1.so,y.1.kc,y.1.sep,y.1.ns,y.1.loc.imp λO l=>⟨l.1,λi x p O hp=>nomatch hp⟩⟩,λo e=>(aH C1 e).elim⟩
end FR
end
section
set_option maxRecDepth 100000
namespace C2
open PySem PySem.W PySem.Calls PyProof.Rows PySem.SeqAt
section
variable{M:Model}{A:Around}{E:Value->Shared->Prop}
theorem t8{f:Nat->PUnit->Sem (ForInStep PUnit)}{n:Nat}{Q:PUnit->Shared->Prop}(I:Nat->Shared->Prop)(step:∀i s,i<n->I i s->wpAny M A (f i ⟨⟩) (λr s'=>r=.yield ⟨⟩/\I (i+1) s') E s)
  (fin:∀s',I n s'->Q ⟨⟩ s'):∀(m i:Nat)(s:Shared),i+m=n->I i s->wpAny M A (forIn (List.range' i m) PUnit.unit f) Q E s
 |0,i,s,e,h=>by
  rw[List.range'_zero,List.forIn_nil]
  obtain rfl:i=n:=e
  exact wpAny_pure (fin s h)
 |m+1,i,s,e,h=>by
  rw[List.range'_succ,List.forIn_cons]
  refine wpAny_bind (wpAny_mono (step i s (e▸Nat.lt_add_of_pos_right (Nat.succ_pos m)) h) (λr s' x=> ?_) λO O x=>x)
  obtain ⟨rfl,x⟩:=x
  exact t8 I step fin m (i+1) s' ((Nat.succ_add_eq_add_succ i m).trans e) x
end
section
variable{prog:Program}{w:World}{A:Around}{E:Value->Shared->Prop}{s:Shared}{K:Type}[DecidableEq K]{knd:KeyKind prog w K}
theorem C3{d:Addr}{aM:List (K×Value)}{k:K}{key v:Value}{Q:Unit->Shared->Prop}(Fe:knd.is k key=true)(hm:s.heap.DictOf knd d aM)(hf:k∉aM.map (·.1))
  (hQ:∀h',h'.DictOf knd d (aM++[(k,v)])->Heap.SameBut d s.heap h'->Q () {s with heap:=h'}) (eK:aM.length<=sizeLine):
  wpAny (model prog w) A (dictPut d (knd.hash k) key v) Q E s:=by
 obtain ⟨o,es,ep,ho,hc,hd,hk,hp,hn⟩:=hm
 have KD:es.size<=sizeLine:=Nat.le_trans (Nat.le_of_eq (Array.length_toList.symm.trans hp.length)) eK
 unfold dictPut
 refine wpAny_bind (wpAny_dictFind_of Fe ho hd hk ?_)
 have Qp:(es.findIdx? λe=>knd.is k e.key)=aM.findIdx? λkv=>decide (kv.1=k):=by
  rw[<-hp.findIdx k];obtain ⟨l⟩:=es;simp
 have NY:(es.findIdx? λe=>knd.is k e.key)=none:=by
  rw[Qp,List.findIdx?_eq_none_iff]
  intro x hx
  exact decide_eq_false λe=>hf (List.mem_map.mpr ⟨x,hx,e⟩)
 rw[NY]
 refine wpAny_updateDictKeys (hz:=KD) ho hd (hQ _ ⟨_,_,ep+1,Heap.get?_update_self _ ho (Obj.isFreed_of_dict (Obj.data_mapDictKeys hd _)),
   hc.mapDictKeys _,Obj.data_mapDictKeys hd _,hk.push Fe _,?_,?_⟩ (Heap.SameBut.update ..))
 ·have:=hp.append Fe (knd.hash k) v
  obtain ⟨l⟩:=es
  simpa using this
 ·rw[List.map_append,List.nodup_append]
  refine⟨hn,by simp,?_⟩
  intro x hx y hy
  simp at hy
  subst hy
  exact λe=>hf (e▸hx)
theorem Ff{α β:Type}{l r:List (α×β)}{p:α×β}{i:Nat}(hn:((l++r).map (·.1)).Nodup)(hx:r[i]? =some p):p.1∉(l++r.take i).map (·.1):=by
 obtain ⟨hi,e⟩:=List.getElem?_eq_some_iff.mp hx
 have e2:l++r=(l++r.take i)++p::r.drop (i+1):=by rw[List.append_assoc,<-e,<-List.drop_eq_getElem_cons hi,List.take_append_drop]
 rw[e2,List.map_append,List.nodup_append] at hn
 exact λm=>hn.2.2 _ m _ List.mem_cons_self rfl
theorem size_of{es:Array DictEntry}{aM:List (K×Value)}(hp:Pairs knd es.toList aM):es.size=aM.length:=Array.length_toList.symm.trans hp.length
theorem IH{es:Array DictEntry}{more:List (K×Value)}(hp:Pairs knd es.toList more)(hk:KeysOf knd es){i:Nat}(hi:i<es.size):∃p,more[i]? =some p/\knd.is p.1 es[i].key=true/\es[i].val=p.2/\es[i].hash=knd.hash p.1:=by
 have ly:i<more.length:=size_of hp▸hi
 have hx:more[i]? =some more[i]:=List.getElem?_eq_getElem ly
 have q:=hp.get? (e:=es[i]) (by rw[Array.getElem?_toList,Array.getElem?_eq_getElem hi]) hx
 obtain ⟨k',q1,q2⟩:=hk es[i] (Array.getElem_mem hi)
 obtain rfl:=knd.inj _ _ _ q1 q.1
 exact⟨_,hx,q.1,q.2,q2⟩
theorem kept{d a:Addr}{h h':Heap}(dh:d≠a)(hs:Heap.SameBut d h h'){o:Obj}(e:h.get? a=some o):h'.get? a=some o:=(hs.2 a (Ne.symm dh)).trans e
theorem yS{d a:Addr}{aM more:List (K×Value)}{Q:Unit->Shared->Prop}(dh:d≠a)(hs:(a == sysModules)=false)(h0:aM≠[])(hm:s.heap.DictOf knd d aM)(ha:s.heap.DictOf knd a more)(hn:((aM++more).map (·.1)).Nodup)(eK:aM.length+more.length<=1000)
  (hQ:∀h',h'.DictOf knd d (aM++more)->Heap.SameBut d s.heap h'->Q () {s with heap:=h'}):
  wpAny (model prog w) A (mergeMapping d (.ref a) false) Q E s:=by
 have hT:s.TypeIs (.ref a) "dict":=ha.typeIs
 obtain ⟨oa,es,ep,zb,_,vA,Sf,OY,_⟩:=ha
 have hsz2:=size_of OY
 have hd:∃od C4 GP,s.heap.get? d=some od/\od.data=.dict C4 GP/\C4.isEmpty=false:=by
  obtain ⟨od,C4,GP,zp,_,GQ,_,Sg,_⟩:=hm
  refine⟨od,C4,GP,zp,GQ,?_⟩
  rw[Array.isEmpty_eq_false_iff,<-Array.size_pos_iff,size_of Sg]
  exact List.length_pos_iff.mpr h0
 obtain ⟨od,C4,GP,zp,GQ,KG⟩:=hd
 have e1:(some (Value.builtin "dict.__iter__") == some (Value.builtin "dict.__iter__"))=true:=by decide
 unfold mergeMapping
 refine wpAny_bind (wpAny_isInstance (T:="dict") (U:="dict") (b:=true) hT (by rw[isSubtype_type];kernel_rfl) ?_)
 rw[if_pos rfl]
 refine wpAny_bind (wpAny_specialOf hT PySem.F.slot_dict_iter.lookup ?_)
 refine wpAny_bind (wpAny_pure ?_)
 rw[e1]
 dsimp only
 simp only [hs,Bool.false_eq_true,if_false]
 refine wpAny_bind (wpAny_dictEntries zp GQ ?_)
 simp only [KG,Bool.false_eq_true,if_false]
 clear zp GQ KG hT e1 h0 hs
 refine wpAny_bind (wpAny_dictEntries zb vA ?_)
 refine wpAny_bind (wpAny_dictEpoch zb vA ?_)
 rw[List.range_eq_range']
 refine wpAny_bind (t8 (n:=es.size) (λi s'=>∃h',s'={s with heap:=h'}/\h'.DictOf knd d (aM++more.take i)/\Heap.SameBut d s.heap h') (λi s' hi x=> ?_) (λs' x=> ?_) es.size 0 s (Nat.zero_add _) ⟨s.heap,rfl,by rw[List.take_zero,List.append_nil];exact hm,Heap.SameBut.refl _ _⟩)
 ·obtain ⟨h',rfl,t9,GR⟩:=x
  clear hm
  have KH:=kept dh GR zb
  refine wpAny_bind (wpAny_dictEntries KH vA ?_)
  obtain ⟨p,hx,g1,g2,g3⟩:=IH OY Sf hi
  rw[Array.getElem?_eq_getElem hi]
  dsimp only
  rw[g3,g2]
  have hl:(aM++more.take i).length<=sizeLine:=by
   rw[List.length_append,List.length_take,sizeLine_eq]
   exact Nat.le_trans (Nat.add_le_add_left (Nat.min_le_right _ _) _) (Nat.le_trans eK (by decide))
  refine wpAny_bind (wpAny_holding (C3 (s:={s with heap:=h'}) g1 t9 (Ff hn hx) (λhN Qq KI=> ?_) hl))
  refine wpAny_bind (wpAny_dictEpoch (kept dh KI KH) vA ?_)
  simp only [bne_self_eq_false,Bool.false_eq_true,if_false]
  refine wpAny_pure ⟨rfl,hN,rfl,?_,GR.trans KI⟩
  rw[List.take_add_one,hx,<-List.append_assoc]
  exact Qq
 ·obtain ⟨h',rfl,t9,GR⟩:=x
  rw[hsz2,List.take_length] at t9
  exact wpAny_pure (hQ h' t9 GR)
noncomputable def Puts(prog:Program)(w:World)(A:Around)(E:Value->Shared->Prop)(d:Addr)(Q:Shared->Prop):List (Sem Value×Sem Value)->Shared->Prop
 |[],s=>Q s
 |(k,v)::rest,s=>wpAny (model prog w) A k (λkv cJ=>wpAny (model prog w) A v (λvv ju=>wpAny (model prog w) A (dictSet d kv vv) (λO ip=>Puts prog w A E d Q rest ip) E ju) E cJ) E s
theorem wI{pairs:List (Sem Value×Sem Value)}{Q:Addr->Shared->Prop}(hlen:¬pairs.length<=15)(h:Puts prog w A E s.heap.objs.size (λs'=>Q s.heap.objs.size s') pairs {s with heap:=s.heap.push {cls:=.type "dict",data:=.dict #[]}}):
  wpAny (model prog w) A (subDict pairs) Q E s:=by
 unfold subDict
 refine wpAny_bind (wpAny_alloc ?_)
 refine wpAny_bind (wpAny_holding ?_)
 rw[if_neg hlen]
 refine wpAny_bind (wpAny_rule ?_)
 have go:∀(l:List (Sem Value×Sem Value))(s':Shared),Puts prog w A E s.heap.objs.size (λs'=>Q s.heap.objs.size s') l s'->
   wpAny (model prog w) A (forIn l PUnit.unit λ(x:Sem Value×Sem Value) (O:PUnit)=>(do let kv <-x.1;let vv <-holding [kv] x.2;holding [kv,vv] (dictSet s.heap.objs.size kv vv);pure (ForInStep.yield PUnit.unit):Sem (ForInStep PUnit))) (λO s'=>Q s.heap.objs.size s') E s':=by
  intro l
  induction l with
  |nil=>intro s' h';rw[List.forIn_nil];exact wpAny_pure h'
  |cons x l ih=>
   intro s' h'
   obtain ⟨k,v⟩:=x
   rw[List.forIn_cons]
   refine wpAny_bind (wpAny_bind (wpAny_mono h' (λkv cJ Fd=> ?_) λO O e=>e))
   refine wpAny_bind (wpAny_holding (wpAny_mono Fd (λvv ju ct=> ?_) λO O e=>e))
   refine wpAny_bind (wpAny_holding (wpAny_mono ct (λO ip mB=> ?_) λO O e=>e))
   exact wpAny_pure (ih ip mB)
 exact wpAny_bind (wpAny_mono (go pairs _ h) (λO s' h'=>wpAny_pure (wpAny_pure h')) λO O e=>e)
theorem gather(main:Option Addr)(f:(Option (Sem Value)×Sem Value)->(Option Addr×List (Sem Value×Sem Value))->Sem (ForInStep (Option Addr×List (Sem Value×Sem Value))))
  (hf:∀(p:Sem Value×Sem Value) (run:List (Sem Value×Sem Value)),run.length+1<17->f (some p.1,p.2) (main,run)=pure (.yield (main,run++[p]))):
  ∀(items run:List (Sem Value×Sem Value))(more:List (Option (Sem Value)×Sem Value)),run.length+items.length<17->forIn (items.map (λp=>(some p.1,p.2))++more) (main,run) f=forIn more (main,run++items) f
 |[],run,more,_=>by simp
 |p::rest,run,more,h=>by
  rw[List.map_cons,List.cons_append,List.forIn_cons,hf p run (by simp at h;omega),pure_bind]
  have:=gather main f hf rest (run++[p]) more (by simp at h⊢;omega)
  simpa using this
theorem wJ{l₁ l₂:List (Sem Value×Sem Value)}{p:Sem Value×Sem Value}{Q:Value->Shared->Prop}(h1:l₁.length=16)(h2:l₂.length<17)(h0:l₂≠[])
  (h:wpAny (model prog w) A (subDict (l₁++[p])) (λd cJ=>wpAny (model prog w) A (subDict l₂) (λa ju=>wpAny (model prog w) A (mergeMapping d (.ref a) false) (λO ip=>Q (.ref d) ip) (λO O=>False) ju) E cJ) E s):
  wpAny (model prog w) A (dictDisplay ((l₁++p::l₂).map λp=>(some p.1,p.2))) Q E s:=by
 unfold dictDisplay
 dsimp only
 have hl:(l₁++p::l₂).map (λp=>((some p.1,p.2):Option (Sem Value)×Sem Value))=l₁.map (λp=>(some p.1,p.2))++((some p.1,p.2)::(l₂.map (λp=>(some p.1,p.2))++[])):=by simp
 rw[hl,gather none _ (λp run h=>by
  have dh:((run++[(p.1,p.2)]).length == 17)=false:=by simp;omega
  simp only [dh,Bool.false_eq_true,if_false]) l₁ [] _ (by simp;omega)]
 rw[List.forIn_cons]
 have wK:(([]++l₁++[(p.1,p.2)]).length == 17)=true:=by simp [h1]
 have e1:([]++l₁++[(p.1,p.2)]).isEmpty=false:=by simp
 simp only [wK,e1,Bool.false_eq_true,if_true,if_false]
 have e0:[]++l₁++[(p.1,p.2)]=l₁++[p]:=by simp
 rw[e0]
 refine wpAny_bind (wpAny_bind (wpAny_bind (wpAny_bind (wpAny_mono h (λd cJ hd=>wpAny_pure (wpAny_pure ?_)) λO O e=>e))))
 dsimp only
 rw[gather (some d) _ (λp run h=>by
  have dh:((run++[(p.1,p.2)]).length == 17)=false:=by simp;omega
  simp only [dh,Bool.false_eq_true,if_false]) l₂ [] [] (by simpa using h2),List.forIn_nil]
 refine wpAny_pure ?_
 have e2:(([]:List (Sem Value×Sem Value))++l₂).isEmpty=false:=by
  cases l₂ with
  |nil=>exact absurd rfl h0
  |cons _ _=>rfl
 simp only [e2,Bool.false_eq_true,if_false]
 rw[List.nil_append]
 refine wpAny_bind (wpAny_bind (wpAny_holding (wpAny_mono hd (λa ju ha=> ?_) λO O e=>e)))
 refine wpAny_bind (wpAny_onRaise (wpAny_holding (wpAny_mono ha (λO ip mB=> ?_) λO O x=>x.elim)))
 exact wpAny_pure (wpAny_pure mB)
end
end C2
end
namespace FR
open PySem PySem.W PySem.Calls PyProof.Rows PySem.SeqAt
section
variable{c:Cx}{β:Type}{E:Value->Shared->Prop}{K:eU c β}{J:Loc}{Z:ae}{P av P':Pt}{d:Addr}{ks:List Int}{ps:List PV}
theorem Fo.cons{cf:Nat->List PV->ae->Out PV}{gl:Nat->PV}{m:ME}{ms:bO}{k:List PV->ae->Out β}(F:Fo E K P (FR.aX (bg cf gl (.cons m ms) J Z) k)):
  Fo E K P (FR.aX (ag cf gl m J Z) λv Z=>FR.aX (bg cf gl ms J Z) λvs Z=>k (v::vs) Z):=by
 have F:Fo E K P (FR.aX (FR.au (ag cf gl m J Z) λv Z=>FR.au (bg cf gl ms J Z) λvs Z=>give (v::vs) Z) k):=F
 revert F
 cases ag cf gl m J Z with
 |none=>exact id
 |some r=>
  obtain ⟨r,af⟩:=r
  cases r with
  |error e=>exact id
  |ok v=>
   show Fo E K P (FR.aX (FR.au (bg cf gl ms J af) λvs Z=>give (v::vs) Z) k)->Fo E K P (FR.aX (bg cf gl ms J af) λvs Z=>k (v::vs) Z)
   cases bg cf gl ms J af with
   |none=>exact id
   |some r=>
    obtain ⟨r,af⟩:=r
    cases r with
    |error e=>exact id
    |ok vs=>exact id
theorem Fo.Qr{γ:Type}{q:Bool}{m:Out γ}{k:γ->ae->Out β}(F:Fo E K P (FR.aX m λv Z=>az q (k v Z))):q=true:=by
 cases q with
 |true=>rfl
 |false=>
  cases m with
  |none=>exact F.elim
  |some r=>
   obtain ⟨r,af⟩:=r
   cases r with
   |error e=>exact F.elim
   |ok v=>exact F.elim
structure gs(c:Cx)(av P:Pt)(d:Addr)(ks:List Int)(ps:List PV):Prop where
 new:iM c av d
 out:d∉P.Y
 D:∃aM,P.s.heap.DictOf (intKind c.prog c.w) d aM/\aM.map (·.1)=ks/\b4 c P ps (aM.map (·.2))
theorem gs.obj(X:gs c av P d ks ps):∃o,P.s.heap.get? d=some o/\o.cls=.type "dict":=X.D.elim λO D=>(DictOf.obj D.1).imp λO y=>⟨y.1,y.2.1.1⟩
theorem gs.to(X:gs c av P d ks ps)(I:Inv c J Z P)(A:To c P P'):gs c av P' d ks ps:=
 X.obj.elim λo y=>
  have q:=A.keep d o y.1 X.out X.new.f λz=>X.new.l (List.mem_singleton.mp z)
  ⟨X.new,q.1,X.D.imp λaM D=>⟨D.1.at λo' e=>bp y.1 e▸q.2,D.2.1,D.2.2.to I A⟩⟩
theorem gs.write{h':Heap}{t:Nat}(X:gs c av P d ks ps)(I:Inv c J Z P)(A:To c av P)(hs:Heap.SameBut d P.s.heap h'):Inv c J Z (P.at P.Y h' t)/\To c av (P.at P.Y h' t)/\Later P.s.heap P.Y h' P.Y:=
 I.foreign (W:=[d]) A (λa m=>List.mem_singleton.mp m▸X.new) (λa m=>List.mem_singleton.mp m▸X.out) (λa m o e s=>X.obj.elim λO y=>s.d (bp y.1 (List.mem_singleton.mp m▸e)▸y.2)) λa o n e=>(hs.2 a λq=>n (List.mem_singleton.mpr q)).trans e
theorem gs.add(X:gs c av P d ks ps)(I:Inv c J Z P)(A:To c av P):Inv c J (Z++[.dict .int ((ks.map Key.int).zip ps)]) ⟨P.Y++[d],P.s⟩/\To c av ⟨P.Y++[d],P.s⟩:=by
 have app:∀{a},a∉P.Y->a≠d->a∉P.Y++[d]:=λx y z=>(List.mem_append.mp z).elim x λz=>y (List.mem_singleton.mp z)
 have la:Later P.s.heap P.Y P.s.heap (P.Y++[d]):=.lz (λO O e=>e) _
 have M:MR c.toBs P.s.heap (P.Y++[d]) d (.dict .int ((ks.map Key.int).zip ps)):=by
  obtain ⟨aM,D,e,V⟩:=X.D
  have hl:ps.length=aM.length:=(ay.length V).symm.trans (List.length_map _)
  subst e
  refine⟨aM,D,?_,?_⟩
  ·rw[List.map_fst_zip (by rw[List.length_map,List.length_map,hl];exact Nat.le_refl _),List.map_map];rfl
  ·rw[List.map_snd_zip (by rw[List.length_map,List.length_map,hl];exact Nat.le_refl _)];exact ay.later la V
 refine⟨⟨I.so.add X.out X.new.h M,I.kc,λa m=>(List.mem_append.mp m).elim (I.sep a) λm=>List.mem_singleton.mp m▸⟨X.new.f,X.new.l⟩,I.ns,I.loc.imp λm=>And.imp_right λhl i x p hx hp=>(hl i x p hx hp).imp λv=>And.imp_right (VR.later la)⟩,
  A.pre.elim λν e=>⟨ν++[d],by rw[<-List.append_assoc,<-e]⟩,λa o e x y z=>let q:=A.keep a o e x y z;⟨app q.1 λw=>aH X.new.n (w▸e),q.2⟩,A.ns,λa x n=>app (A.off a x n) λw=>x.elim (λx=>X.new.f (w▸x)) λx=>X.new.l (w▸List.mem_singleton.mp x),A.same⟩
theorem gs.start(I:Inv c J Z P)(A:To c av P)(h0:av.s.heap.get? P.s.heap.objs.size=none):let P':=P.at P.Y (P.s.heap.push {cls:=.type "dict",data:=.dict #[]}) P.s.toks
  Inv c J Z P'/\To c av P'/\gs c av P' P.s.heap.objs.size [] []:=by
 have n:=I.new (b5 P.s.heap)
 have y:=I.sub (t:=P.s.toks) (fH (h:=P.s.heap) (o:={cls:=.type "dict",data:=.dict #[]}))
 exact⟨y.1,A.trans y.2,⟨h0,n.1,n.2.2.1,n.2.2.2⟩,n.2.1,[],Heap.DictOf.new P.s.heap,rfl,trivial⟩
end
theorem zq{e:PySem.Expr}{i:Int}{env:Env}{A:Around}{M:Model}{s:Shared}{Q:Value->Shared->Prop}{E:Value->Shared->Prop}(h:∃q p,e=.Constant (.int i) q p)(hq:∀t,Q (.int i t) {s with toks:=s.toks+1}):wpAny M A (eval e env) Q E s:=
 h.elim λO h=>h.elim λO h=>h▸wpAny_Constant_int (hq _)
structure Pr(G:Gx) where
 k:PySem.Expr
 i:Int
 e:PySem.Expr
 m:ME
 hk:∃q p,k=.Constant (.int i) q p
 S:aJ G e m
noncomputable def wM{G:Gx}:List (Pr G)->bO
 |[]=>.nil
 |p::l=>.cons p.m (wM l)
noncomputable def jC{G:Gx}(pos:Pos)(l:List (Pr G)):List (Sem Value×Sem Value):=l.map λp=>(eval p.k G.env,do let x <-eval p.e G.env;standAt pos;pure x)
theorem C5{G:Gx}(pos:Pos)(l:List (Pr G)):(evalEachOpt (l.map λp=>some p.k) G.env).zip ((evalEach (l.map λp=>p.e) G.env).map λv=>do let x <-v;standAt pos;pure x)=(jC pos l).map λp=>(some p.1,p.2):=by
 induction l with
 |nil=>rfl
 |cons p l ih=>exact congrArg _ ih
section
variable{G:Gx}{β:Type}{E:Value->Shared->Prop}{K:eU G.c β}{J:Loc}{av:Pt}{d:Addr}
theorem stored_new{acc:List (Int×Value)}{i:Int}{v:Value}(h:i∉acc.map (·.1)):stored acc i v=acc++[(i,v)]:=by
 unfold stored
 rw[if_neg]
 exact λq=>(List.any_eq_true.mp q).elim λx q=>h (List.mem_map.mpr ⟨x,q.1,of_decide_eq_true q.2⟩)
theorem Fg{Q:Shared->Prop}{pos:Pos}{l₂:List (Pr G)}(l:List (Pr G)):∀{Z:ae}{P:Pt}{k:List PV->ae->Out β}{ks:List Int}{ps:List PV},Inv G.c J Z P->To G.c av P->gs G.c av P d ks ps->(ks++l.map (·.i)).Nodup->ks.length+l.length<=100->
  Fo E K av (aX (bg G.cf G.gl (wM (l++l₂)) J Z) λqs Z=>k (ps++qs) Z)->
  (∀af P' OZ,Inv G.c J af P'->To G.c av P'->gs G.c av P' d (ks++l.map (·.i)) OZ->Fo E K av (aX (bg G.cf G.gl (wM l₂) J af) λqs Z=>k (OZ++qs) Z)->Q P'.s)->C2.Puts G.c.prog G.c.w G.A E d Q (jC pos l) P.s:=by
 induction l with
 |nil=>exact λ{Z P k ks ps} I A X O O F hq=>hq Z P ps I A ((List.append_nil ks).symm▸X) F
 |cons p l ih=>
  intro Z P k ks ps I A X nd hl F hq
  refine zq p.hk λt=>wpAny_bind ?_
  refine p.S J Z (P.tok _) _ E (I.sub λO O e=>e).1 ((Fo.cons F).aX λv cF aL aQ a fG aD V=> ?_)
  have B:=A.trans (.trans .refl fG)
  have jW:=X.to I (.trans .refl fG)
  refine wpAny_bind (wpAny_standAt (wpAny_pure ?_))
  obtain ⟨aM,D,e,W⟩:=jW.D
  have fr:p.i∉aM.map (·.1):=λm=>(List.nodup_append.mp nd).2.2 _ (e▸m) _ List.mem_cons_self rfl
  have eK:aM.length<=sizeLine:=by rw[sizeLine_eq,<-List.length_map (f:=(·.1)),e];exact Nat.le_trans (Nat.le_trans (Nat.le_add_right _ _) hl) (by decide)
  refine wpAny_dictSet_pairs (isInt_self p.i t) D (λct A5 NZ=> ?_) eK
  rw[stored_new fr] at A5
  obtain ⟨bI,cH,qA⟩:=jW.write (t:=aQ.s.toks+1) aD B NZ
  have e3:(ks++[p.i])++l.map (·.i)=ks++(p::l).map (·.i):=List.append_assoc ..
  refine ih (P:=aQ.at aQ.Y ct _) (k:=k) (ks:=ks++[p.i]) (ps:=ps++[v]) bI cH ⟨X.new,jW.out,_,A5,by rw[List.map_append,e];rfl,by rw[List.map_append];exact ay.append (ay.later qA W) (ay.cons (VR.later qA V) ay.nil)⟩ (e3▸nd) ?_ ?_ (e3▸hq)
  ·rw[List.length_append,Nat.add_assoc,Nat.add_comm [p.i].length];exact hl
  ·simp only [List.append_assoc];exact aL
theorem C6{Q:List (Value×Value)->Shared->Prop}{pos:Pos}(l:List (Pr G)):∀{Z:ae}{P:Pt}{k:List PV->ae->Out β},Inv G.c J Z P->Fo E K av (aX (bg G.cf G.gl (wM l) J Z) k)->
  (∀af P' ps vl aM,Inv G.c J af P'->To G.c P P'->Carries (intKind G.c.prog G.c.w) vl aM->aM.map (·.1)=l.map (·.i)->b4 G.c P' ps (aM.map (·.2))->Fo E K av (k ps af)->Q vl P'.s)->G.c.W G.A (evalPairs (jC pos l)) Q E P.s:=by
 induction l generalizing Q with
 |nil=>exact λ{Z P k} I F hq=>evalPairs_nil (hq Z P [] [] [] I .refl trivial rfl trivial F)
 |cons p l ih=>
  intro Z P k I F hq
  refine evalPairs_cons (zq p.hk λt=>wpAny_bind ?_)
  have fe:=I.sub (t:=P.s.toks+1) λO O e=>e
  refine p.S J Z (P.tok _) _ E fe.1 ((Fo.cons F).aX λv cF aL aQ a fG aD V=> ?_)
  refine wpAny_bind (wpAny_standAt (wpAny_pure ?_))
  exact ih aD aL λaf P' ps vl aM I' A' C e W F'=>hq af P' (v::ps) _ ((p.i,a)::aM) I' (fe.2.trans (fG.trans A')) ⟨isInt_self p.i t,rfl,C⟩ (congrArg (p.i:: ·) e) ⟨V.to aD A',W⟩ F'
noncomputable def dL(ks:List Int)(vs:List PV)(Z:ae):Out PV:=az (iJ ks) (az (decide (vs.length=ks.length)) (some (.ok (.ref Z.length),Z++[.dict .int ((ks.map Key.int).zip vs)])))
theorem C7(l:List (Pr G)){pos:Pos}:aJ G (.Dict (l.map λp=>some p.k) (l.map λp=>p.e) pos) (.kz (l.map (·.i)) (wM l)):=by
 intro J Z P Q E I F
 have F:Fo E (bH G.c J (Vl G.c) Q) P (aX (bg G.cf G.gl (wM l) J Z) (dL (l.map (·.i)))):=F
 have hk:=aw F.Qr
 have h1:=of_decide_eq_true (aw hk.1).1
 have h2:=of_decide_eq_true (aw hk.1).2
 have nd:=of_decide_eq_true hk.2
 rw[List.length_map] at h1 h2
 obtain ⟨l₁,p,l₂,e,rN⟩:∃l₁ p l₂,l=l₁++p::l₂/\l₁.length=16:=
  ⟨l.take 16,l[16]'(Nat.lt_trans (by decide) h1),l.drop 17,by rw[<-List.drop_eq_getElem_cons,List.take_append_drop],by rw[List.length_take];exact Nat.min_eq_left (Nat.le_of_lt (Nat.lt_trans (by decide) h1))⟩
 have h3:l.length=16+(l₂.length+1):=by rw[e,List.length_append,rN];rfl
 rw[arm_eval_Dict,C5]
 refine wpAny_bind (wpAny_standAt ?_)
 have ne2:jC pos l₂≠[]:=by
  cases l₂ with
  |nil=>rw[h3] at h1;exact absurd h1 (Nat.lt_irrefl 17)
  |cons _ _=>exact List.cons_ne_nil _ _
 have l2:l₂.length<=15:=by omega
 have O0:(jC pos l₂).length<=15:=by rw[jC,List.length_map];exact l2
 have e4:(l₁++[p])++l₂=l:=by rw[e,List.append_assoc];rfl
 have Sh:(jC pos l₁).length=16:=by rw[jC,List.length_map];exact rN
 have e5:jC pos l=jC pos l₁++(eval p.k G.env,do let x <-eval p.e G.env;standAt pos;pure x)::jC pos l₂:=by rw[e];exact List.map_append
 have e6:jC pos l₁++[(eval p.k G.env,do let x <-eval p.e G.env;standAt pos;pure x)]=jC pos (l₁++[p]):=by rw[jC,jC,List.map_append];rfl
 have e7:(l₁++[p]).map (·.i)++l₂.map (·.i)=l.map (·.i):=by rw[<-List.map_append,e4]
 rw[e5]
 refine C2.wJ Sh (Nat.lt_of_le_of_lt O0 (by decide)) ne2 ?_
 rw[e6]
 refine C2.wI (by rw[jC,List.length_map,List.length_append,rN];exact Nat.not_succ_le_self 15∘Nat.le_of_succ_le) ?_
 have y:=gs.start I .refl (b5 P.s.heap)
 have Sj:(([]:List Int)++(l₁++[p]).map (·.i)).Nodup:=(List.nodup_append.mp (e7▸nd)).1
 refine Fg (av:=P) (l₂:=l₂) (l₁++[p]) (k:=dL (l.map (·.i))) (ps:=[]) (P:=P.at P.Y _ P.s.toks) y.1 y.2.1 y.2.2 Sj (by rw[List.length_append,rN];exact Nat.le_of_ble_eq_true rfl) (by rw[e4];exact F) λcF aQ N0 aD fG jW aL=> ?_
 obtain ⟨od,zp,U5⟩:=jW.obj
 have dh:P.s.heap.objs.size≠aQ.s.heap.objs.size:=λe=>aH (b5 aQ.s.heap) (e▸zp)
 have A6:=gs.start aD .refl (b5 aQ.s.heap)
 refine wpAny_subDict (knd:=intKind G.c.prog G.c.w) O0 ?_
 refine C6 (av:=P) l₂ (P:=aQ.at aQ.Y _ aQ.s.toks) A6.1 aL λdk bX N1 vl rO bI cH C qz EG bN=> ?_
 have KJ:=A6.2.2.to A6.1 cH
 have II:=A6.2.1.trans cH
 have A5:bX.s.heap.DictOf (intKind G.c.prog G.c.w) aQ.s.heap.objs.size []:=KJ.D.elim λaM D=>by
  cases aM with
  |nil=>exact D.1
  |cons _ _=>exact nomatch D.2.1
 refine⟨rO,C,A5,λmB KL N2=> ?_⟩
 rw[merged_nil_of_nodup _ (qz▸(List.nodup_append.mp (e7▸nd)).2.1)] at KL
 obtain ⟨d9,c9,AR⟩:=KJ.write (t:=bX.s.toks+vl.length) bI II N2
 have A7:=jW.to aD c9
 obtain ⟨nT,Qs,qy,EF⟩:=A7.D
 have e8:(nT++rO).map (·.1)=l.map (·.i):=by rw[List.map_append,qy,qz];exact e7
 have Sk:(aQ.s.heap.objs.size == sysModules)=false:=beq_eq_false_iff_ne.mpr λq=>G.c.sys.elim λO e=>aH (b5 aQ.s.heap) (aD.kc _ _ (q▸e))
 have hlen:nT.length+rO.length<=1000:=by
  have:(nT++rO).length=l.length:=by rw[<-List.length_map (f:=(·.1)),e8,List.length_map]
  rw[<-List.length_append,this]
  exact Nat.le_of_lt (Nat.lt_trans h2 (by decide))
 have n1:nT.length=17:=by rw[<-List.length_map (f:=(·.1)),qy,List.nil_append,List.length_map,List.length_append,rN];rfl
 have ne1:nT≠[]:=λq=>by rw[q] at n1;exact nomatch n1
 refine C2.yS (knd:=intKind G.c.prog G.c.w) (s:=(bX.at bX.Y mB (bX.s.toks+vl.length)).s) dh Sk ne1 Qs KL (e8▸nd) hlen λiO Qt N3=> ?_
 obtain ⟨sY,E7,KN⟩:=A7.write (t:=bX.s.toks+vl.length) d9 (fG.trans c9) N3
 have Qu:gs G.c P (bX.at bX.Y iO (bX.s.toks+vl.length)) P.s.heap.objs.size (l.map (·.i)) (N0++N1):=⟨A7.new,A7.out,_,Qt,e8,by rw[List.map_append];exact ay.append (ay.later KN EF) (ay.later KN (ay.later AR EG))⟩
 exact bN.om.2.om.2.ok (Qu.add sY E7) (VR.md (by rw[<-sY.so.ml];exact List.getElem?_concat_length))
end
end FR
section
set_option maxRecDepth 100000
namespace O1
open PySem PySem.W PySem.Calls PyProof.Rows PySem.SeqAt
open PySem.AutoSeq1 (wpAny_loadPart')
theorem te:typeLookup (.type "bytes") "__len__"=pure (some (.builtin "bytes.__len__")):=by rw[typeLookup_type,builtinLookup_eq_fast];kernel_rfl
noncomputable def wN(b:Array UInt8)(i:Nat)(v:Value):Prop:=∃c u,b[i]? =some c/\v=.int (c.toNat:Int) u
section
variable{prog:Program}{w:World}{A:Around}{E:Value->Shared->Prop}{s:Shared}
theorem nc{Q:List Value->Shared->Prop}(hh:A.handled=none)(x:Array UInt8)(t:Tok)
  (hQ:∀s' acc,(∀b o,s.heap.get? b=some o->s'.heap.get? b=some o)->s'.gens=s.gens->s'.drawn=s.drawn->s'.os=s.os->ItemsOf (wN x) acc x.size->Q acc.toList s') (hn:x.size<=sizeLine:=by size_fits):
  wpAny (model prog w) A (collect (.bytes x t)) Q E s:=by
 unfold collect
 refine wpAny_bind (wpAny_runValue (codeAny_builtin F.entry_proto_collect ?_))
 rw[Around.under_plainId F.plain_proto_collect _]
 show wpAny _ A.in1 (newList [] >>= λl=>again (.builtin "list.__iadd__" ⟨[l,.bytes x t],[]⟩)) _ _ s
 refine wpAny_bind (wpAny_newObj_type ?_)
 refine wpAny_pure ⟨plainId_quiet F.plain_list_iadd _,codeAny_builtin F.entry_list_iadd ?_⟩
 rw[Around.under_plainId F.plain_list_iadd _]
 show wpAny _ A.in1 (Builtin.List.listExtendWith (.ref s.heap.objs.size) (.bytes x t) (.ref s.heap.objs.size)) _ _ _
 unfold Builtin.List.listExtendWith
 refine wpAny_bind (wpAny_typeOf (T:="bytes") (v:=.bytes x t) rfl ?_)
 have h1:Builtin.List.listSameRef (.ref s.heap.objs.size) (.bytes x t)=false:=rfl
 have h2:(Value.type "bytes" == Value.type "list")=false:=by decide
 have h3:(Value.type "bytes" == Value.type "tuple")=false:=by decide
 simp only [h1,h2,h3,Bool.or_false,Bool.false_eq_true,if_false]
 refine wpAny_bind (KBw.pyIter_bytes ?_)
 generalize vz:({cls:=.type "bytes_iterator",data:=.fields #[.bytes x t,.int 0 0]}:Obj)=o
 refine wpAny_bind (wpAny_holding ?_)
 unfold Builtin.List.listLengthHint
 refine wpAny_bind (wpAny_specialOf (T:="bytes") (v:=.bytes x t) rfl te ?_)
 wp_delta
 refine wpAny_bind (wpAny_isInstance (T:="bytes") (v:=.bytes x t) (b:=true) rfl (by rw[isSubtype_type];kernel_rfl) ?_)
 show wpAny _ A.in1 (typeOf (Value.bytes x t) >>= _) _ _ _
 refine wpAny_bind (wpAny_typeOf (T:="bytes") (v:=.bytes x t) rfl ?_)
 refine wpAny_pure ?_
 rw[if_neg (by decide)]
 generalize hH:s.heap.push {cls:=.type "list",data:=.seq ([]:List Value).toArray}=H at⊢
 have KO:H.objs.size=s.heap.objs.size+1:=by rw[<-hH,Heap.size_push]
 have Sl:s.heap.objs.size∉[H.objs.size]:=λhm=>by rw[List.mem_singleton.mp hm] at KO;exact absurd KO (Nat.ne_of_lt (Nat.lt_succ_self _))
 have hS:(H.push o).get? s.heap.objs.size=some {cls:=.type "list",data:=.seq ([]:List Value).toArray}:=Heap.get?_push_of_some _ (hH▸Heap.get?_push_size _ rfl)
 refine wpAny_pure ⟨plainId_quiet F.plain_extend_loop _,codeAny_extend_loopS ((KBw.walks (A:=A.in1) (show A.in1.handled=none from hh) H.objs.size x t).toS) hn _ Sl _ x.size 0 _ _ _ rfl (Nat.zero_le _) ⟨o,Heap.get?_push_size _ (by subst vz;rfl),by subst vz;exact rfl,by subst vz;rfl⟩ hS (ItemsOf.nil _) λs' Qv c' hm Sm mD=> ?_⟩
 show wpAny _ A (load s.heap.objs.size >>= _) _ _ s'
 refine wpAny_bind (wpAny_load Sm ?_)
 refine wpAny_pure (hQ s' Qv (λb ob e=>hm.heap b ob (λhb=> ?_) (Heap.get?_push_of_some _ (hH▸Heap.get?_push_of_some _ e))) hm.gens hm.drawn hm.os mD)
 have cZ:=Heap.lt_size e
 rcases List.mem_cons.mp hb with h | h
 ·exact absurd cZ (h▸Nat.lt_irrefl _)
 ·rw[List.mem_singleton.mp h,KO] at cZ;exact absurd cZ (Nat.not_lt.mpr (Nat.le_succ _))
end
theorem lI(x:Array UInt8)(t:Tok)(eK:x.size<=sizeLine:=by size_fits):
  Meets (Builtin.«tuple.__new__» ⟨[.type "tuple",.bytes x t],[]⟩)
   (λA R s=>A.handled=none/\∀(s':Shared) (acc:Array Value),(∀b o,s.heap.get? b=some o->s'.heap.get? b=some o)->s'.gens=s.gens->s'.drawn=s.drawn->s'.os=s.os->ItemsOf (wN x) acc x.size->
    R (.ok (.ret (.ref s'.heap.objs.size))) {s' with heap:=s'.heap.push {cls:=.type "tuple",data:=.seq acc}}):=
 .of_wp λprog w A R s h=>by
  obtain ⟨hh,h⟩:=h
  have Qd:=sub_tuple_self
  have UN:=init_tuple_lookup
  have U6:=madeHere_tuple
  have hT:s.TypeIs (.bytes x t) "bytes":=rfl
  have Sn:A.in1.handled=none:=hh
  wp_walk using wpAny_typeOf hT,nc (hn:=eK) Sn x t
  intro s' acc hk hg hd v9 mD
  show wpAny _ _ (Builtin.Tuple.tupleExact acc.toList.toArray >>= λv=>ret v) _ _ _
  unfold Builtin.Tuple.tupleExact
  refine wpAny_bind (wpAny_newObj_type ?_ (show acc.toList.toArray.size<=sizeLine by simp only [Array.toArray_toList];rw[mD.1];exact eK))
  refine wpAny_pure ⟨_,rfl,?_⟩
  have e:acc.toList.toArray=acc:=by simp
  rw[e]
  exact h s' acc hk hg hd v9 mD
section
variable{prog:Program}{w:World}{A:Around}{E:Value->Shared->Prop}{s:Shared}
theorem qB{Q:Value->Shared->Prop}(hh:A.handled=none)(x:Array UInt8)(t:Tok)
  (h:∀(h':Heap) (tk:Nat) (acc:Array Value),(∀b o,s.heap.get? b=some o->h'.get? b=some o)->ItemsOf (wN x) acc x.size->Q (.ref h'.objs.size) {s with heap:=h'.push {cls:=.type "tuple",data:=.seq acc},toks:=tk})
  (eK:x.size<=sizeLine:=by size_fits):
  wpAny (model prog w) A (call (.type "tuple") [.bytes x t]) Q E s:=by
 refine callType_new F.called_tuple (by decide) (F.typeCall_tuple_1 _) (F.newCall_tuple_1 _) (λobj=>F.args_object_init_2 obj _) F.entry_tuple_new
  (lI x t eK) ⟨hh,λs' acc hk hg hd v9 mD=>⟨⟨_,Heap.get?_push_size _ rfl,rfl⟩,?_⟩⟩
 obtain ⟨h',g',d',wG,Sp⟩:=s'
 have e1:g'=s.gens:=hg
 have e2:d'=s.drawn:=hd
 have e3:Sp=s.os:=v9
 subst e1 e2 e3
 exact h h' wG acc hk mD
end
end O1
end
namespace FR
theorem C8(x:Int)(ms:List Int):ms.Pairwise (· <= ·)->∃rs:List Int,sF (.int x) (ms.map .int)=some (rs.map .int)/\rs.Perm (x::ms)/\rs.Pairwise (· <= ·):=by
 induction ms with
 |nil=>exact λO=>⟨[x],rfl,List.Perm.refl _,List.pairwise_singleton ..⟩
 |cons y r ih=>
  intro h
  have h:=List.pairwise_cons.mp h
  show ∃rs:List Int,(bif decide (x<y) then some (PV.int x::PV.int y::r.map .int) else (sF (.int x) (r.map .int)).bind λl=>some (PV.int y::l))=some (rs.map .int)/\_
  cases q:decide (x<y) with
  |true=>
   have hc:=Int.le_of_lt (of_decide_eq_true q)
   exact⟨x::y::r,rfl,List.Perm.refl _,List.pairwise_cons.mpr ⟨λa ha=>(List.mem_cons.mp ha).elim (λe=>e▸hc) λha=>Int.le_trans hc (h.1 a ha),List.pairwise_cons.mpr h⟩⟩
  |false=>
   have hc:=Int.not_lt.mp (of_decide_eq_false q)
   obtain ⟨rs,e,p,q⟩:=ih h.2
   rw[e]
   exact⟨y::rs,rfl,(p.cons y).trans (List.Perm.swap x y r),List.pairwise_cons.mpr ⟨λa ha=>(List.mem_cons.mp (p.mem_iff.mp ha)).elim (λe=>e▸hc) (h.1 a),q⟩⟩
theorem A8(ns:List Int):∃rs:List Int,gH (ns.map .int)=some (rs.map .int)/\rs.Perm ns/\rs.Pairwise (· <= ·):=by
 induction ns with
 |nil=>exact⟨[],rfl,List.Perm.refl _,List.Pairwise.nil⟩
 |cons x r ih=>
  obtain ⟨ms,e,p,q⟩:=ih
  obtain ⟨rs,e',p',q'⟩:=C8 x ms q
  exact⟨rs,(congrArg (λo=>Option.bind o (sF (.int x))) e).trans e',p'.trans (p.cons x),q'⟩
theorem Fh{ns rs:List Int}(p:rs.Perm ns)(q:rs.Pairwise (· <= ·)):gH (ns.map .int)=some (rs.map .int):=by
 obtain ⟨ms,e,p',q'⟩:=A8 ns
 rw[e,List.Perm.eq_of_pairwise (λO O O O=>Int.le_antisymm) q' q (p'.trans p.symm)]
end FR
namespace KP
open PySem PySem.W PySem.Calls PyProof.Rows PySem.SeqAt
variable{prog:Program}{w:World}{A:Around}{E:Value->Shared->Prop}{s:Shared}
theorem A9{h:Heap}{vs:List Value}{out:Array Value}:∃n,(sortedHeap (h.push (seqObj "list" vs.toArray 0)) h.objs.size vs out).get? h.objs.size=some (seqObj "list" out n):=by
 have e0:(h.push (seqObj "list" vs.toArray 0)).get? h.objs.size=some (seqObj "list" vs.toArray 0):=Heap.get?_push_size _ rfl
 have e1:=get?_update_seq e0 (λO=> #[])
 have e2:=get?_update_seq (Heap.get?_push_of_some (seqObj "list" #[] 0) (Heap.get?_push_of_some (seqObj "tuple" vs.toArray 0) e1)) (λO=>out)
 exact⟨_,e2⟩
theorem yT{h:Heap}{vs:List Value}{out:Array Value}{a:Addr}{o:Obj}(e:h.get? a=some o):(sortedHeap (h.push (seqObj "list" vs.toArray 0)) h.objs.size vs out).get? a=some o:=by
 have dh:h.objs.size≠a:=λq=>absurd (Heap.lt_size e) (q▸Nat.lt_irrefl _)
 unfold sortedHeap
 rw[PySem.Heap.get?_update_other _ _ dh]
 refine Heap.get?_push_of_some _ (Heap.get?_push_of_some _ ?_)
 rw[PySem.Heap.get?_update_other _ _ dh]
 exact Heap.get?_push_of_some _ e
end KP
namespace C9
open PySem PySem.W PySem.Calls PyProof.Rows PySem.SeqAt
variable{prog:Program}{w:World}{A:Around}{E:Value->Shared->Prop}{s:Shared}
theorem IJ{lt:Nat->Nat->Option Bool}{ask:Nat->Nat->(Bool->Shared->Prop)->Shared->Prop}(Qw:∀i j b C,lt i j=some b->C b s->ask i j C s){α:Type}{G:α->Shared->Prop}:
  ∀(t:KasT α)(a:α),FR.Ad lt t=some a->G a s->t.kasWp ask G s:=by
 intro t
 induction t with
 |ret a=>exact λa' h g=>by cases h;exact g
 |ask i j k ih=>exact λa' h g=>FR.bm h λb hb h=>Qw i j b _ hb (ih b a' h g)
theorem uT{a:Addr}{vs out:List Value}{n:Nat}{P:PySem.Fin->Shared->Prop}(ho:s.heap.get? a=some (seqObj "list" vs.toArray n))(kN:vs.length<64)
  (h1:vs.length<2->out=vs)
  (hk:∀(h':Heap),2<=vs.length->(∀b o,b≠a->s.heap.get? b=some o->h'.get? b=some o)->wpAny (model prog w) A (keyKind' vs.toArray) (λκ s'=>s'={s with heap:=h'}/\(kas_sort vs.length).kasWp (kas_ask prog w A κ vs) (λp rD=>rD={s with heap:=h'}/\p.toList.map (λi=>vs.getD i Value.none)=out) s') (λO O=>False) {s with heap:=h'})
  (h:P (.done (.ret .none)) {s with heap:=sortedHeap s.heap a vs out.toArray}):
  wpAny (model prog w) A (Builtin.«list.sort» ⟨[.ref a],[]⟩) P E s:=by
 have ha:a<s.heap.objs.size:=Heap.lt_size ho
 have eK:vs.toArray.size<=sizeLine:=by rw[List.size_toArray,sizeLine_eq];exact Nat.le_of_lt (Nat.lt_trans kN (by decide))
 obtain ⟨e1,O2⟩:∃e1,(s.heap.update a (Obj.mapSeq λO=>(#[]:Array Value))).get? a=some (seqObj "list" #[] e1):=⟨_,get?_update_seq ho λO=> #[]⟩
 rw[list_sort_plain]
 refine wpAny_bind (listItems_at ho rfl ?_)
 refine wpAny_bind (listUpdate_at ho rfl ?_ eK (Nat.zero_le _))
 refine wpAny_bind (seqEpoch_at O2 rfl ?_)
 refine wpAny_bind (wpAny_newTuple ?_ eK)
 refine wpAny_bind (wpAny_newList ?_ (Nat.zero_le _))
 refine wpAny_holding ?_
 have GS:(((s.heap.update a (Obj.mapSeq λO=> #[])).push (seqObj "tuple" vs.toArray 0)).push (seqObj "list" #[] 0)).get? a=some (seqObj "list" #[] e1):=by
  rw[Heap.get?_push_ne _ _ _ (by rw[size_push',Heap.size_update];exact Nat.ne_of_lt (Nat.lt_succ_of_lt ha)),Heap.get?_push_ne _ _ _ (by rw[Heap.size_update];exact Nat.ne_of_lt ha)]
  exact O2
 show wpAny (model prog w) A _ P E {s with heap:=((s.heap.update a (Obj.mapSeq λO=>(#[]:Array Value))).push (seqObj "tuple" vs.toArray 0)).push (seqObj "list" #[] 0)}
 dsimp only
 by_cases h2:vs.toArray.size<2
 ·rw[if_pos h2,if_pos h2]
  refine wpAny_bind (wpAny_pure ?_)
  rw[StateT.run_pure]
  refine wpAny_bind (wpAny_pure ?_)
  dsimp only
  have e:(arrOf (SortSt.mk' general' (vs.toArray.zip vs.toArray) #[] 7 none)).map (·.2)=vs.toArray:=by
   show (vs.toArray.zip vs.toArray).map (·.2)=vs.toArray
   exact Array.map_snd_zip (Nat.le_refl _)
  rw[e]
  refine wpAny_bind (seqEpoch_at GS rfl ?_)
  refine wpAny_bind (listUpdate_at GS rfl ?_ (hsz2:=Nat.le_succ_of_le eK))
  simp only [bne_self_eq_false,Bool.false_eq_true,if_false]
  refine wpAny_pure ?_
  rw[h1 h2] at h
  exact h
 ·rw[if_neg h2,if_neg h2]
  have bV:2<=vs.length:=Nat.le_of_not_lt h2
  refine wpAny_bind (wpAny_mono (hk _ bV λb o hb q=> ?_) (λκ s0 hk=> ?_) λO O x=>x.elim)
  ·exact Heap.get?_push_of_some _ (Heap.get?_push_of_some _ (by rw[Heap.get?_update_ne _ _ _ _ hb];exact q))
  ·obtain ⟨rfl,hk⟩:=hk
   refine wpAny_bind (wpAny_mono (kat_run (Q:=λeV s'=>∃p:Array Nat,p.size=vs.length/\arrOf eV=p.map (kas_item (vs.toArray.zip vs.toArray))/\failedOf eV=none/\s'=_/\p.toList.map (λi=>vs.getD i Value.none)=out)
    rfl bV kN (λp' eV s' a1 a2 a3 a4=>⟨p',a1,a2,a3,a4⟩) hk) ?_ λO O e=>e)
   rintro ⟨⟨⟩,eV⟩ s' ⟨p,hp,Sq,hf,rfl,nU⟩
   dsimp only
   have vz:=kat_snds rfl Sq
   rw[vz,nU]
   have CI:out.length=vs.length:=by rw[<-nU,List.length_map,Array.length_toList,hp]
   refine wpAny_bind (seqEpoch_at GS rfl ?_)
   refine wpAny_bind (listUpdate_at GS rfl ?_ (Nat.zero_le _) (by rw[List.size_toArray,CI,<-List.size_toArray];exact Nat.le_succ_of_le eK))
   rw[hf]
   simp only [bne_self_eq_false,Bool.false_eq_true,if_false]
   exact wpAny_pure h
theorem ua{va:Value}{Q:Value->Shared->Prop}{R:List Value->Prop}
  (wO:∀{A':Around} {E':Value->Shared->Prop} {Q':List Value->Shared->Prop},A'.handled=A.handled->(∀(h':Heap) (t':Nat) (vs:List Value),(∀a o,s.heap.get? a=some o->h'.get? a=some o)->R vs->Q' vs {s with heap:=h',toks:=t'})->wpAny (model prog w) A' (collect va) Q' E' s)
  (hR:∀vs,R vs->vs.length<64)
  (h:∀(h':Heap) (t':Nat) (vs:List Value),(∀a o,s.heap.get? a=some o->h'.get? a=some o)->R vs->
   wpAny (model prog w) A.in1.in1 (Builtin.«list.sort» ⟨[.ref h'.objs.size],[]⟩) (λf s'=>f=.done (.ret .none)/\Q (.ref h'.objs.size) s') E {s with heap:=h'.push (seqObj "list" vs.toArray 0),toks:=t'}):
  wpAny (model prog w) A (call (.builtin "sorted") [va]) Q E s:=by
 refine Calls.call_function_entry kind_sorted plain_sorted entry_sorted (args_sorted1 _) ?_
 unfold Builtin.«sorted»
 refine wpAny_bind (m:=checkCount "sorted" 1 1 _) (wpAny_pure ?_)
 refine wpAny_bind (wO rfl λh' t' vs k r=> ?_)
 refine wpAny_bind (wpAny_newList ?_ (by rw[sizeLine_eq];exact Nat.le_of_lt (Nat.lt_trans (hR vs r) (by decide))))
 have Sr:(h'.push (seqObj "list" vs.toArray 0)).get? h'.objs.size=some (seqObj "list" vs.toArray 0):=Heap.get?_push_size _ rfl
 show wpAny _ _ _ _ _ {s with heap:=h'.push (seqObj "list" vs.toArray 0),toks:=t'}
 refine wpAny_bind (wpAny_holding (wpAny_call_entry slot_list_sort ⟨_,Sr,rfl⟩ entry_list_sort (wpAny_mono (h h' t' vs k r) (λf s' x=> ?_) λO O e=>e) (args_list_sort _)))
 obtain ⟨rfl,x⟩:=x
 exact⟨_,rfl,wpAny_pure ⟨_,rfl,x⟩⟩
end C9
namespace FR
open PySem PySem.W PySem.Calls PyProof.Rows PySem.SeqAt
theorem Fi(a:List Nat):∀b:List Nat,uX a b=decide (a<b):=by
 induction a with
 |nil=>exact λb=>by cases b with
  |nil=>exact(decide_eq_false (List.lt_irrefl _)).symm
  |cons b bs=>exact(decide_eq_true (List.nil_lt_cons ..)).symm
 |cons a as ih=>exact λb=>by cases b with
  |nil=>exact(decide_eq_false (List.not_lt_nil _)).symm
  |cons b bs=>
   show (if a=b then uX as bs else decide (a<b))=_
   by_cases h:a=b
   ·rw[if_pos h,ih bs]
    exact decide_eq_decide.mpr ⟨λx=>List.cons_lt_cons_iff.mpr (.inr ⟨h,x⟩),λx=>(List.cons_lt_cons_iff.mp x).elim (λx=>absurd (h▸x) (Nat.lt_irrefl _)) And.right⟩
   ·rw[if_neg h]
    exact decide_eq_decide.mpr ⟨λx=>List.cons_lt_cons_iff.mpr (.inl x),λx=>(List.cons_lt_cons_iff.mp x).elim id λx=>absurd x.1 h⟩
section
variable{b:Bs}{prog:Program}{w:World}{A:Around}{E:Value->Shared->Prop}{s:Shared}{Y:List Addr}{Q:Bool->Shared->Prop}
theorem Dc{p q:PV}{v u:Value}{r fl:Bool}(V:VR b s.heap Y p v)(W:VR b s.heap Y q u)(h:OE p q=some r)(hq:Q r s):wpAny (model prog w) A (oneLt' fl v u) Q E s:=by
 cases p with
 |int i=>
  refine bm h λj e h=> ?_
  cases fD e;cases h
  refine VR.jq (M:=λv=>wpAny (model prog w) A (oneLt' fl v u) Q E s) V λt=>VR.jq (M:=λu=>wpAny (model prog w) A (oneLt' fl (.int i t) u) Q E s) W λt'=> ?_
  cases fl with
  |true=>exact oneLt_int hq
  |false=>exact kat_one _ _ (lt_int (show PySem.W.BoolBack Q _ s from hq))
 |str i=>
  refine bm h λj e h=> ?_
  cases nI e;cases h
  rw[Fi] at hq
  refine VR.sI (M:=λv=>wpAny (model prog w) A (oneLt' fl v u) Q E s) V λt=>VR.sI (M:=λu=>wpAny (model prog w) A (oneLt' fl (.str ⟨i.toArray⟩ t) u) Q E s) W λt'=> ?_
  cases fl with
  |true=>exact oneLt_str hq
  |false=>exact kat_one _ _ (lt_str hq)
 |_=>exact(aH rfl h).elim
theorem Dd(hu:A.units<=4000)(l:List PV):∀{k:List PV}{xs ys:List Value}{r fin:Bool}{i:Nat},ay b s.heap Y l xs->ay b s.heap Y k ys->JN l k=some r->fin=decide (l.length<k.length)->Q r s->KatLex prog w A true fin Q (xs.zip ys) i s:=by
 induction l with
 |nil=>
  intro k xs ys r fin i V W h hf hq
  refine ay.elim0 (M:=λxs=>KatLex prog w A true fin Q (xs.zip ys) i s) V ?_
  subst hf
  cases k with
  |nil=>cases h;exact hq
  |cons _ _=>cases h;exact hq
 |cons p l ih=>
  intro k xs ys r fin i V W h hf hq
  refine ay.cI (M:=λxs=>KatLex prog w A true fin Q (xs.zip ys) i s) V λv vs V1 V2=> ?_
  cases k with
  |nil=>cases h;subst hf;exact ay.elim0 (M:=λys=>KatLex prog w A true _ Q ((v::vs).zip ys) i s) W hq
  |cons q k=>
   refine ay.cI (M:=λys=>KatLex prog w A true fin Q ((v::vs).zip ys) i s) W λu us W1 W2=>bm h λx e h=> ?_
   refine kat_cons ((D.at 6 A v u x (Nat.le_trans (Nat.add_le_add_right hu 6) (by decide)) (oU 6 p q v u x V1 W1 e)).1 prog w _ _ ?_)
   cases x with
   |true=>exact kat_yes (ih V2 W2 h (hf.trans (decide_eq_decide.mpr Nat.succ_lt_succ_iff)) hq)
   |false=>exact kat_no (Dc V1 W1 h hq)
theorem qC{l:List PV}:∀{vs:List Value}{i:Nat},ay b s.heap Y l vs->VR b s.heap Y (l.getD i .none) (vs.getD i Value.none):=by
 induction l with
 |nil=>exact λ{vs i} V=>ay.elim0 (M:=λvs=>VR b s.heap Y (([]:List PV).getD i .none) (vs.getD i Value.none)) V (by rw[List.getD_nil,List.getD_nil];exact VR.u2)
 |cons p l ih=>
  intro vs i V
  refine ay.cI (M:=λvs=>VR b s.heap Y ((p::l).getD i .none) (vs.getD i Value.none)) V λv vs V1 V2=> ?_
  cases i with
  |zero=>exact V1
  |succ i=>exact ih V2
theorem De{l:List PV}:∀{i:Nat},l.all nf=true->l.getD i .none=.none\/nf (l.getD i .none)=true:=by
 induction l with
 |nil=>exact λO=>.inl List.getD_nil
 |cons p l ih=>
  intro i h
  cases i with
  |zero=>exact .inr (aw h).1
  |succ i=>exact ih (aw h).2
theorem Df(hu:A.units<=4000){l:List PV}{vs:List Value}(V:ay b s.heap Y l vs)(hI:l.all nf=true){i j:Nat}{x:Bool}{C:Bool->Shared->Prop}(h:uY l i j=some x)(hc:C x s):kas_ask prog w A (tuples' true) vs i j C s:=by
 have V1:=qC (i:=i) V
 have V2:=qC (i:=j) V
 have hi:=De (i:=i) hI
 have h:JO (l.getD i .none) (l.getD j .none)=some x:=h
 show wpAny (model prog w) A (keyLt' (tuples' true) (vs.getD i Value.none) (vs.getD j Value.none)) C (λO O=>False) s
 revert V1 V2 hi h
 generalize l.getD i .none=p
 generalize l.getD j .none=q
 generalize vs.getD i Value.none=v
 generalize vs.getD j Value.none=u
 intro V1 V2 hi h
 cases p with
 |tup m=>
  refine bm h λm' e h=> ?_
  cases dZ e
  refine VR.d8 (M:=λv=>wpAny (model prog w) A (keyLt' (tuples' true) v u) C (λO O=>False) s) V1 λa xs n g W1=>VR.d8 (M:=λu=>wpAny (model prog w) A (keyLt' (tuples' true) (.ref a) u) C (λO O=>False) s) V2 λa' ys n' g' W2=> ?_
  refine kat_lt g rfl g' rfl (Dd hu m W1 W2 h ?_ hc)
  rw[<-W1.length,<-W2.length]
  rfl
 |int a=>exact hi.elim nofun nofun
 |_=>exact(aH rfl h).elim
theorem Dg{M:Model}{h:Heap}{i:Int}{t:Tok}:Looks M h (typeOf (.int i t)) (.type "int"):=Looks.of_pure rfl
theorem Ba{l:List PV}:∀{vs:List Value},ay b s.heap Y l vs->l.all nf=true->∃fs,KatTups s.heap vs fs/\fs.length=vs.length/\∀v∈fs,∃i t,v=Value.int i t:=by
 induction l with
 |nil=>exact λ{vs} V O=>ay.elim0 (M:=λvs=>∃fs,KatTups s.heap vs fs/\fs.length=vs.length/\∀v∈fs,∃i t,v=Value.int i t) V ⟨[],.nil,rfl,λO m=>absurd m List.not_mem_nil⟩
 |cons p l ih=>
  intro vs V h
  refine ay.cI (M:=λvs=>∃fs,KatTups s.heap vs fs/\fs.length=vs.length/\∀v∈fs,∃i t,v=Value.int i t) V λv vs V1 V2=> ?_
  have h:=aw h
  refine(ih V2 h.2).elim λfs k=> ?_
  have h:=h.1
  cases p with
  |tup m=>
   refine VR.d8 (M:=λv=>∃fs,KatTups s.heap (v::vs) fs/\fs.length=(v::vs).length/\∀v∈fs,∃i t,v=Value.int i t) V1 λa xs n g W=> ?_
   cases m with
   |nil=>exact nomatch h
   |cons q m=>
    cases q with
    |int i=>
     obtain ⟨u,eu,U⟩:=ay.get (i:=0) W rfl
     obtain ⟨t,rfl⟩:=(show ∃t,u=.int i t from U)
     exact⟨.int i t::fs,.cons g rfl rfl (Array.getElem?_toList▸eu) k.1,congrArg (· +1) k.2.1,λv hv=>(List.mem_cons.mp hv).elim (λe=>⟨i,t,e⟩) (k.2.2 v)⟩
    |_=>exact nomatch h
  |_=>exact nomatch h
end
theorem pO{b:Bs}{h:Heap}{Y:List Addr}{ws:List Value}{ms:List Int}(x:IntsAre ws ms):ay b h Y (ms.map .int) ws:=by
 induction x with
 |nil=>exact ay.nil
 |cons n t _ ih=>exact ay.cons (VR.l9 n t) ih
theorem yU{b:Bs}{h:Heap}{Y:List Addr}{ms:List Int}:∀{ws:List Value},ay b h Y (ms.map .int) ws->IntsAre ws ms:=by
 induction ms with
 |nil=>exact λ{ws} x=>ay.elim0 (M:=λws=>IntsAre ws []) x .nil
 |cons m ms ih=>exact λ{ws} x=>ay.cI (M:=λws=>IntsAre ws (m::ms)) x λv vs y z=>VR.jq (M:=λv=>IntsAre (v::vs) (m::ms)) y λt=>.cons m t (ih z)
theorem pP{vs:List Value}{ns:List Int}(h:IntsAre vs ns):vs.length=ns.length:=by
 induction h with
 |nil=>rfl
 |cons n t _ ih=>exact congrArg (· +1) ih
theorem ints_map{l:List PV}:∀{ns:List Int},ints? l=some ns->l=ns.map .int:=by
 induction l with
 |nil=>exact λ{ns} e=>by cases e;rfl
 |cons p l ih=>exact λ{ns} e=>bm e λx e1 e=>bm e λm e2 e=>Option.some.inj e▸fD e1▸congrArg (PV.int x:: ·) (ih e2)
theorem Bb{es:List (Key×PV)}:∀{ks:List Int}{aM:List (Int×Value)},intKeys es=some ks->es.map (·.1)=aM.map (λx=>Key.int x.1)->ks=aM.map (·.1):=by
 induction es with
 |nil=>
  intro ks aM h e
  cases aM with
  |nil=>cases h;rfl
  |cons _ _=>exact nomatch e
 |cons p es ih=>
  intro ks aM h e
  cases aM with
  |nil=>exact nomatch e
  |cons x aM=>
   have e:=List.cons.inj e
   refine bm h λi e1 h=>bm h λl e2 h=> ?_
   cases h
   have e3:i=x.1:=Option.some.inj (e1.symm.trans (congrArg Gu e.1))
   rw[ih e2 e.2,e3]
   rfl
section
variable{c:Cx}{A:Around}{J:Loc}{Z:ae}{P:Pt}{E:Value->Shared->Prop}{Q:Value->Shared->Prop}
theorem wQ{h':Heap}{t:Nat}{vs:List Value}{out:Array Value}{l:List PV}(I:Inv c J Z P)(k:Sub P.s.heap h')(F:Fo E (bH c J (Vl c) Q) P (some (.ok (.ref Z.length),Z++[.list l])))(V:ay c.toBs P.s.heap P.Y l out.toList):
  Q (.ref h'.objs.size) {P.s with heap:=sortedHeap (h'.push (seqObj "list" vs.toArray 0)) h'.objs.size vs out,toks:=t}:=by
 have KQ:P.s.heap.get? h'.objs.size=none:=by
  cases q:P.s.heap.get? h'.objs.size with
  |none=>rfl
  |some o=>exact absurd (Heap.lt_size (k _ _ q)) (Nat.lt_irrefl _)
 have k':Sub P.s.heap (sortedHeap (h'.push (seqObj "list" vs.toArray 0)) h'.objs.size vs out):=λa o e=>KP.yT (k a o e)
 exact(KP.A9 (h:=h') (vs:=vs) (out:=out)).elim λn g=>F.ok (I.push k' KQ ⟨out,n,g,ay.later (.lz k' _) V⟩ (t:=t)) (VR.md (nJ I))
theorem kO{va:Value}{ns:List Int}{l:List PV}(I:Inv c J Z P)
  (wO:∀{A':Around} {E':Value->Shared->Prop} {Q':List Value->Shared->Prop},A'.handled=A.handled->(∀(h':Heap) (t':Nat) (vs:List Value),Sub P.s.heap h'->IntsAre vs ns->Q' vs {P.s with heap:=h',toks:=t'})->wpAny (model c.prog c.w) A' (collect va) Q' E' P.s)
  (kN:ns.length<64) (hs:gH (ns.map .int)=some l) (F:Fo E (bH c J (Vl c) Q) P (some (.ok (.ref Z.length),Z++[.list l]))):c.W A (call (.builtin "sorted") [va]) Q E P.s:=by
 refine C9.ua wO (λvs hI=>pP hI▸kN) λh' t' vs k hI=>list_sort_tree (Heap.get?_push_size _ rfl) hI (pP hI▸kN) λout U7 a1 a2 a3=>⟨rfl,?_⟩
 cases bp (Fh a2 a3) hs
 exact wQ I k F (pO a1)
theorem yV{va:Value}{l out:List PV}{vs:List Value}(hu:A.units<=3900)(I:Inv c J Z P)
  (wO:∀{A':Around} {E':Value->Shared->Prop} {Q':List Value->Shared->Prop},l.length<64->(∀(h':Heap),Sub P.s.heap h'->Q' vs {P.s with heap:=h'})->wpAny (model c.prog c.w) A' (collect va) Q' E' P.s)
  (V:b4 c P l vs) (hs:Ae l=some out) (F:Fo E (bH c J (Vl c) Q) P (some (.ok (.ref Z.length),Z++[.list out]))):c.W A (call (.builtin "sorted") [va]) Q E P.s:=by
 have hI:=(mm hs).1
 have hs:=mm (mm hs).2
 have kN:=of_decide_eq_true hs.1
 have hl:=ay.length V
 have key:∃vo:List Value,ay c.toBs P.s.heap P.Y out vo/\(vs.length<2->vo=vs)/\(2<=vs.length->∃p,Ad (uY l) (kas_sort l.length)=some p/\p.toList.map (λi=>vs.getD i Value.none)=vo):=by
  have hs:=hs.2
  cases q:decide (l.length<2) with
  |true=>rw[q] at hs;cases hs;exact⟨vs,V,λO=>rfl,λz=>absurd (hl▸of_decide_eq_true q) (Nat.not_lt.mpr z)⟩
  |false=>
   rw[q] at hs
   refine bm hs λp hp hs=> ?_
   cases hs
   refine⟨p.toList.map λi=>vs.getD i Value.none,?_,λz=>absurd (hl▸z) (of_decide_eq_false q),λO=>⟨p,hp,rfl⟩⟩
   induction p.toList with
   |nil=>exact ay.nil
   |cons i is ih=>exact ay.cons (qC (s:=P.s) V) ih
 refine key.elim λvo key=> ?_
 refine C9.ua (R:=λus=>us=vs) (λO hq=>wO kN λh' k=>hq h' _ vs k rfl) (λus e=>by rw[e,hl];exact kN) λh' t' us k e=> ?_
 subst e
 have KQ:∀a o,P.s.heap.get? a=some o->a≠h'.objs.size:=λa o e=>Nat.ne_of_lt (Heap.lt_size (k _ _ e))
 refine C9.uT (out:=vo) (Heap.get?_push_size _ rfl) (hl▸kN) key.2.1 (λh2 bV kk=>(key.2.2 bV).elim λp hp=> ?_) ⟨rfl,wQ I k F key.1⟩
 have V':ay c.toBs h2 P.Y l us:=ay.later (.sub λa o e=>kk a o (KQ a o e) (Heap.get?_push_of_some _ (k a o e))) V
 obtain ⟨fs,kt,kl,ki⟩:=Ba (s:={P.s with heap:=h2,toks:=t'}) V' hI
 refine kat_kind (T:=.type "int") kt (kl▸Nat.lt_of_lt_of_le (by decide) bV) (λv hv=>(ki v hv).elim λi z=>z.elim λt z=>z▸Dg) rfl ⟨rfl,?_⟩
 rw[hl]
 exact C9.IJ (lt:=uY l) (λi j x C hx hC=>Df (s:={P.s with heap:=h2,toks:=t'}) (Nat.le_trans (Nat.add_le_add_right hu 2) (by decide)) V' hI hx hC) _ p hp.1 ⟨rfl,hp.2⟩
theorem rP{a:Addr}{T:String}{xs:Array Value}{n:Nat}{l:List PV}(hu:A.units<=3900)(I:Inv c J Z P)(hT:T="list"\/T="tuple")(g:P.s.heap.get? a=some ⟨.type T,none,.seq xs n,#[]⟩)(V:b4 c P l xs.toList)(F:Fo E (bH c J (Vl c) Q) P (lift (Af Z l))):c.W A (call (.builtin "sorted") [.ref a]) Q E P.s:=by
 have col:∀{A':Around}{E':Value->Shared->Prop}{Q':List Value->Shared->Prop},l.length<64->(∀(h':Heap),Sub P.s.heap h'->Q' xs.toList {P.s with heap:=h'})->wpAny (model c.prog c.w) A' (collect (.ref a)) Q' E' P.s:=
  λkN hq=>wpAny_collect_seq a hT g rfl rfl hq (by rw[V.size];exact dF (Nat.le_of_lt (Nat.lt_trans kN (by decide))))
 refine F.lb λout ho F1=> ?_
 clear F
 have ho:(match ints? l with | some _=>az (decide (l.length<64)) (gH l) | .none=>Ae l)=some out:=ho
 cases q:ints? l with
 |none=>rw[q] at ho;exact yV hu I col V ho F1
 |some ns=>
  rw[q] at ho
  have ho:=mm ho
  cases ints_map q
  exact kO I (λO hq=>col (of_decide_eq_true ho.1) λh' k=>hq h' _ _ k (yU V)) (List.length_map PV.int▸of_decide_eq_true ho.1) ho.2 F1
theorem wR{prog:Program}{w:World}{aM:List (Int×Value)}:∀{l:List Value},l.length=aM.length->(∀(j:Nat) (v:Value),l[j]? =some v->∃k x,aM[j]? =some (k,x)/\(intKind prog w).is k v=true)->IntsAre l (aM.map (·.1)):=by
 induction aM with
 |nil=>exact λ{l} h O=>List.eq_nil_of_length_eq_zero h▸.nil
 |cons y aM ih=>
  intro l h hi
  cases l with
  |nil=>exact nomatch h
  |cons v l=>
   obtain ⟨k,x,e,q⟩:=hi 0 v rfl
   cases e
   obtain ⟨t,rfl⟩:=Value.isInt_shape q
   exact .cons _ t (ih (Nat.succ.inj h) λj v e=>hi (j+1) v e)
theorem wU(hh:A.handled=none)(hu:A.units<=3900){x:PV}{va:Value}(I:Inv c J Z P)(V:Vl c P x va)(F:Fo E (bH c J (Vl c) Q) P (lift (builtin .sorted x Z))):c.W A (call (.builtin "sorted") [va]) Q E P.s:=by
 cases x with
 |tup l=>exact VR.d8 (M:=λva=>c.W A (call (.builtin "sorted") [va]) Q E P.s) V λa xs n g V=>rP hu I (.inr rfl) g V F
 |ref i=>
  refine F.lb λo q F=>Vl.ref (M:=λva=>c.W A (call (.builtin "sorted") [va]) Q E P.s) I V q λa ea M=> ?_
  cases o with
  |list l=>exact M.elim λxs M=>M.elim λn M=>rP hu I (.inl rfl) M.1 M.2 F
  |dict kk es=>
   refine F.lb λO qi F2=>F2.lb λks hk F3=> ?_
   have F4:=F3.lm
   refine F4.2.lb λl hs F5=> ?_
   clear F F2 F3
   cases kk with
   |tup ts=>exact(aH rfl qi).elim
   |int=>
    obtain ⟨aM,D,e2,_⟩:=M
    cases Bb hk e2
    have kN:=of_decide_eq_true F4.1
    refine D.dictAt.elim λep jZ=>kO I (λha hq=>kdu_collect (kdl_dict (I.so.noSys (List.mem_of_getElem? ea))) (ha.trans hh) jZ ?_ λh' tk acc k mD=>hq h' tk _ k (wR (by rw[Array.length_toList];exact mD.1) λj v e=>mD.2 j v (Array.getElem?_toList▸e))) kN hs F5
    exact dF (Nat.le_of_lt (Nat.lt_trans (List.length_map (α:=Int×Value) (·.1)▸kN) (by decide)))
  |attrs r=>exact F.elim
 |_=>exact F.elim
end
theorem Dh{b:Bs}{h:Heap}{Y:List Addr}{l:List UInt8}:∀{vs:List Value},vs.length=l.length->(∀(j:Nat) (v:Value),vs[j]? =some v->∃(c:UInt8) (u:Tok),l[j]? =some c/\v=Value.int ((c:UInt8).toNat:Int) u)->ay b h Y ((l.map (·.toNat)).map λ(n:Nat)=>PV.int n) vs:=by
 induction l with
 |nil=>exact λ{vs} hl O=>List.eq_nil_of_length_eq_zero hl▸ay.nil
 |cons c l ih=>
  intro vs hl H
  cases vs with
  |nil=>exact nomatch hl
  |cons v vs=>
   obtain ⟨c',u,e,rfl⟩:=H 0 v rfl
   cases e
   exact ay.cons (VR.l9 _ u) (ih (Nat.succ.inj hl) λj v e=>H (j+1) v e)
theorem uU{c:Cx}{A:Around}{J:Loc}{Z:ae}{P:Pt}{E Q:Value->Shared->Prop}{x:PV}{va:Value}(hh:A.handled=none)(I:Inv c J Z P)(V:Vl c P x va)(F:Fo E (bH c J (Vl c) Q) P (lift (builtin .tuple x Z))):c.W A (call (.type "tuple") [va]) Q E P.s:=by
 cases x with
 |bytes l=>
  obtain ⟨y,t,rfl,e⟩:=(show ∃y t,va=.bytes y t/\y.toList.map (·.toNat)=l from V)
  have F:Fo E (bH c J (Vl c) Q) P (lift (az (fits l) (some (.tup (l.map λ(n:Nat)=>PV.int n),Z)))):=F
  have hl:y.size=l.length:=by rw[<-e,List.length_map,Array.length_toList]
  refine O1.qB hh y t (λh' tk acc k hI=> ?_) (dF (hl▸Nat.le_succ_of_le (eA F.lm.1)))
  have k':Sub P.s.heap (h'.push (l8 acc 0)):=λa o e=>Heap.get?_push_of_some _ (k a o e)
  refine F.lm.2.ok (I.sub (t:=tk) k') (VR.pY (xs:=acc) (n:=0) (Heap.get?_push_size _ rfl) ?_)
  rw[<-e]
  refine Dh (by rw[Array.length_toList,Array.length_toList];exact hI.1) λj v e=> ?_
  rw[Array.getElem?_toList] at e⊢
  exact hI.2 j v e
 |_=>exact F.elim
section
variable{G:Gx}{x:Str}{p pos:Pos}{e:PySem.Expr}{m:ME}
theorem Bc(hk:G.env.kindOf x=some .globalImplicit)(hx:G.T.mg x=none)(hb:G.T.mb x=some (.builtin "sorted"))(hd:(x == ("__debug__":Str))=false)
  (hu:aS e=true) (S:aJ G e m):aJ G (.Call (.Name x p) [e] [] pos) (.aF .sorted m):=λO O O O O I F=>
 Call_ (dJ I hk hx hb hd (callWith_builtin (bj (dG hu)) (b6 (bj (dG hu)) (jM hu S I F λO O O O O aD V aL=>wU G.hY.hn G.hu aD V aL))))
theorem yW(hk:G.env.kindOf x=some .globalImplicit)(hx:G.T.mg x=none)(hb:G.T.mb x=some (.type "tuple"))(hd:(x == ("__debug__":Str))=false)
  (hu:aS e=true) (S:aJ G e m):aJ G (.Call (.Name x p) [e] [] pos) (.aF .tuple m):=λO O O O O I F=>
 Call_ (dJ I hk hx hb hd (PyProof.Rows.callWith_type (bj (dG hu)) (b6 (bj (dG hu)) (jM hu S I F λO O O O O aD V aL=>uU G.hY.hn aD V aL))))
end
inductive GV where
 |fn (i:Nat) | gl (i:Nat) | cls (c:Nat) | bi (s:String) | ty (s:String)
 deriving DecidableEq
structure Nm where
 loc:List Str
 glob:Str->Option GV
 scope:Scope
 top:Bool
noncomputable def ub(x:Str):Bool:= !(x == ("__debug__":Str))
noncomputable def Nm.pQ(P:Nm)(x:Str)(g:GV):Bool:=decide (P.scope.names.lookup x=some .globalImplicit)&&(decide (P.glob x=some g)&&ub x)
theorem ff{M:Prop}(h:false=true):M:=nomatch h
noncomputable def anyS{α:Type}{p:α->Prop}(o:Option {q // p q})(f:α->Bool):Bool:=match o with
 |some a=>f a.1
 |none=>false
@[irreducible] noncomputable def oS{α:Type}{p:α->Prop}(o:Option {q // p q})(f:α->Bool):Bool:=anyS o f
theorem oS.e{α:Type}{p:α->Prop}{M:Prop}{o:Option {q // p q}}{f:α->Bool}(h:oS o f=true)(k:∀a,p a->f a=true->M):M:=by
 unfold oS at h
 cases o with
 |none=>exact ff h
 |some a=>exact k a.1 a.2 h
noncomputable def jF(e:PySem.Expr):Option {q:Str×Pos // e=.Name q.1 q.2}:=match e with
 |.Name x p=>some ⟨(x,p),rfl⟩
 |_=>none
noncomputable def wV(e:PySem.Expr):Option {q:List PySem.Expr×Nat×Pos // e=.Tuple q.1 q.2.1 q.2.2}:=match e with
 |.Tuple es k p=>some ⟨(es,k,p),rfl⟩
 |_=>none
noncomputable def dList(e:PySem.Expr):Option {q:List PySem.Expr×Pos // e=.List q.1 q.2}:=match e with
 |.List es p=>some ⟨(es,p),rfl⟩
 |_=>none
noncomputable def wW(e:PySem.Expr):Option {q:PySem.Const×Nat×Pos // e=.Constant q.1 q.2.1 q.2.2}:=match e with
 |.Constant c k p=>some ⟨(c,k,p),rfl⟩
 |_=>none
noncomputable def Be(e:PySem.Expr):Option {q:PySem.Expr×PySem.Expr×Pos // e=.Subscript q.1 q.2.1 q.2.2}:=match e with
 |.Subscript x y p=>some ⟨(x,y,p),rfl⟩
 |_=>none
noncomputable def rQ(e:PySem.Expr):Option {q:PySem.Expr×Str×Pos // e=.Attribute q.1 q.2.1 q.2.2}:=match e with
 |.Attribute o x p=>some ⟨(o,x,p),rfl⟩
 |_=>none
noncomputable def GU(e:PySem.Expr):Option {q:List (Option PySem.Expr)×List PySem.Expr×Pos // e=.Dict q.1 q.2.1 q.2.2}:=match e with
 |.Dict ks vs p=>some ⟨(ks,vs,p),rfl⟩
 |_=>none
noncomputable def Qx(e:PySem.Expr):Option {q:PySem.Expr×PySem.Operator×PySem.Expr×Pos // e=.BinOp q.1 q.2.1 q.2.2.1 q.2.2.2}:=match e with
 |.BinOp l o r p=>some ⟨(l,o,r,p),rfl⟩
 |_=>none
noncomputable def Qy(e:PySem.Expr):Option {q:PySem.Expr×List PySem.CmpOp×List PySem.Expr×Pos // e=.Compare q.1 q.2.1 q.2.2.1 q.2.2.2}:=match e with
 |.Compare l o r p=>some ⟨(l,o,r,p),rfl⟩
 |_=>none
noncomputable def u9(e:PySem.Expr):Option {q:PySem.BoolOp×List PySem.Expr×Pos // e=.BoolOp q.1 q.2.1 q.2.2}:=match e with
 |.BoolOp o es p=>some ⟨(o,es,p),rfl⟩
 |_=>none
noncomputable def KR(e:PySem.Expr):Option {q:PySem.UnaryOp×PySem.Expr×Pos // e=.UnaryOp q.1 q.2.1 q.2.2}:=match e with
 |.UnaryOp o x p=>some ⟨(o,x,p),rfl⟩
 |_=>none
noncomputable def Ss(e:PySem.Expr):Option {q:PySem.Expr×PySem.Expr×PySem.Expr×Pos // e=.IfExp q.1 q.2.1 q.2.2.1 q.2.2.2}:=match e with
 |.IfExp t x y p=>some ⟨(t,x,y,p),rfl⟩
 |_=>none
noncomputable def KU(e:PySem.Expr):Option {q:Option PySem.Expr×Option PySem.Expr×Option PySem.Expr×Pos // e=.Slice q.1 q.2.1 q.2.2.1 q.2.2.2}:=match e with
 |.Slice l u s p=>some ⟨(l,u,s,p),rfl⟩
 |_=>none
noncomputable def Bf(e:PySem.Expr):Option {q:PySem.Expr×List PySem.Expr×List PySem.Keyword×Pos // e=.Call q.1 q.2.1 q.2.2.1 q.2.2.2}:=match e with
 |.Call f es kw p=>some ⟨(f,es,kw,p),rfl⟩
 |_=>none
noncomputable def GW(e:PySem.Expr):Option {q:PySem.Expr×List PySem.Comprehension×Scope×Pos // e=.ListComp q.1 q.2.1 q.2.2.1 q.2.2.2}:=match e with
 |.ListComp x g sc p=>some ⟨(x,g,sc,p),rfl⟩
 |_=>none
noncomputable def one{α:Type}(l:List α):Option {x:α // l=[x]}:=match l with
 |[]=>none
 |x::r=>match r with
  |[]=>some ⟨x,rfl⟩
  |_::_=>none
noncomputable def nil?{α:Type}:List α->Bool
 |[]=>true
 |_::_=>false
theorem nil_inv{α:Type}{l:List α}(h:nil? l=true):l=[]:=by
 cases l with
 |nil=>rfl
 |cons _ _=>exact ff h
@[irreducible] noncomputable def fJ(e:PySem.Expr)(f:Str->List PySem.Expr->Bool):Bool:=oS (Bf e) λq=>oS (jF q.1) λr=>nil? q.2.2.1&&f r.1 q.2.1
@[elab_as_elim] theorem fJ.e{M:PySem.Expr->Prop}{e:PySem.Expr}{f:Str->List PySem.Expr->Bool}(h:fJ e f=true)(k:∀x p es p',f x es=true->M (.Call (.Name x p) es [] p')):M e:=by
 unfold fJ at h
 exact oS.e h λq hq h=>oS.e h λr hr h=>hq▸hr▸nil_inv (aw h).1▸k _ _ _ _ (aw h).2
noncomputable def nV(o:PySem.Expr):Bool:=oS (jF o) (λO=>true)||(oS (rQ o) (λO=>true)||(oS (Be o) (λO=>true)||oS (Bf o) λq=>oS (rQ q.1) λO=>true))
theorem mE{o:PySem.Expr}{name:Str}{env:Env}(h:nV o=true):attributeBase o name env (eval o env)=eval o env:=
 (Bool.or_eq_true_iff.mp h).elim (λh=>oS.e h λO q O=>q▸rfl) λh=>(Bool.or_eq_true_iff.mp h).elim (λh=>oS.e h λO q O=>q▸rfl) λh=>(Bool.or_eq_true_iff.mp h).elim (λh=>oS.e h λO q O=>q▸rfl) λh=>oS.e h λO q h=>oS.e h λO r O=>q▸r▸rfl
noncomputable def rR(k:PySem.Const):PV->Bool
 |.int j=>(match k with | .int i=>decide (i=j) | _=>false)
 |.str l=>(match k with | .str x=>decide (x.cps.toList=l) | _=>false)
 |.bool b'=>(match k with | .bool b=>decide (b=b') | _=>false)
 |.none=>(match k with | .none=>true | _=>false)
 |.bytes l=>(match k with | .bytes x=>decide (x.map (·.toNat)=l) | _=>false)
 |_=>false
theorem wX{G:Gx}{k:PySem.Const}{v:PV}(h:rR k v=true){q p}:aJ G (.Constant k q p) (.k v):=by
 cases v with
 |int j=>cases k with
  |int i=>exact of_decide_eq_true h▸Cp
  |_=>exact ff h
 |str j=>cases k with
  |str i=>exact of_decide_eq_true h▸Cq
  |_=>exact ff h
 |bool j=>cases k with
  |bool i=>exact of_decide_eq_true h▸AE
  |_=>exact ff h
 |none=>cases k with
  |none=>exact AF
  |_=>exact ff h
 |bytes j=>cases k with
  |bytes i=>exact of_decide_eq_true h▸yF
  |_=>exact ff h
 |_=>exact ff h
noncomputable def nW(f:PySem.Expr->ME->Bool):List PySem.Expr->bO->Bool
 |[],m=>(match m with | .nil=>true | _=>false)
 |e::es,m=>(match m with | .cons m ms=>aS e&&(f e m&&nW f es ms) | .nil=>false)
noncomputable def mF(f:PySem.Expr->ME->Bool):List PySem.Expr->bO->Bool
 |[],_=>false
 |e::es,m=>(match m with
  |.nil=>false
  |.cons m ms=>f e m&&(match ms with | .nil=>nil? es | .cons _ _=>mF f es ms))
noncomputable def N4(l:List (Option PySem.Expr)):Option {q:PySem.Expr×List (Option PySem.Expr) // l=some q.1::q.2}:=match l with
 |[]=>none
 |k::l=>match k with
  |none=>none
  |some k=>some ⟨(k,l),rfl⟩
noncomputable def Fj(f:PySem.Expr->ME->Bool):List PySem.Expr->bO->List (Option PySem.Expr)->List Int->Bool
 |[],m,ks,is=>(match m with | .nil=>nil? ks&&nil? is | .cons _ _=>false)
 |e::es,m,ks,is=>(match m with
  |.nil=>false
  |.cons m ms=>oS (N4 ks) λk=>(match is with | []=>false | i::is=>oS (wW k.1) (λq=>rR q.1 (.int i))&&(f e m&&Fj f es ms k.2 is)))
noncomputable def KV(l:List PySem.Comprehension):Option {q:Str×Pos×PySem.Expr×List PySem.Expr // l=[⟨.Name q.1 q.2.1,q.2.2.1,q.2.2.2,0⟩]}:=match l with
 |[]=>none
 |g::r=>match r with
  |_::_=>none
  |[]=>match g with
   |⟨t,it,ifs,n⟩=>match t with
    |.Name x p=>if h:n=0 then some ⟨(x,p,it,ifs),by rw[h]⟩ else none
    |_=>none
structure lJ where
 e:Nm->PySem.Expr->ME->Bool
 t:Nm->PySem.Expr->ME->Bool
 o:Nm->Option PySem.Expr->fm->Bool
 i:Nm->Bool->PySem.Expr->MI->Bool
noncomputable def Bh(C:lJ)(P:Nm)(x:PySem.Expr)(y:Str)(iter:PySem.Expr)(ifs:List PySem.Expr)(scope:Scope)(a:ME)(it:MI)(c:fm):Bool:=
 (scope.names.all λz=> !(z.2 == .cell)&&(!(z.2 == .free)&&(!(z.2 == .local)||decide (scope.names.lookup z.1=some .local))))&&(decide (scope.kind=.function)&&(decide (scope.names.lookup y=some .local)&&(fI iter&&
  (C.i P false iter it&&(C.e ⟨[y],P.glob,scope,false⟩ x a&&match c with
   |.no=>nil? ifs
   |.yes m=>oS (one ifs) λt=>C.t ⟨[y],P.glob,scope,false⟩ t m)))))
noncomputable def Di(C:lJ)(P:Nm)(e:PySem.Expr)(o:Cm)(a b:ME):Bool:=oS (Qy e) λq=>oS (one q.2.2.1) λr=>decide (q.2.1=[vU o])&&(!behindInMarks (vU o) r&&(C.e P q.1 a&&C.e P r b))
noncomputable def Su:Bi->GV
 |.len=>.bi "len"
 |.sorted=>.bi "sorted"
 |.tuple=>.ty "tuple"
 |.list=>.ty "list"
noncomputable def GX(C:lJ)(P:Nm)(e:PySem.Expr)(m:ME):Bool:=match m with
 |.k v=>oS (wW e) λk=>rR k.1 v
 |.loc i=>oS (jF e) λx=>decide (P.loc[i]? =some x.1)&&ub x.1
 |.gl i=>oS (jF e) λx=>P.pQ x.1 (.gl i)
 |.tup ms=>oS (wV e) λq=>nW (C.e P) q.1 ms
 |.list ms=>oS (dList e) λq=>nW (C.e P) q.1 ms
 |.dC _=>oS (GU e) λq=>nil? q.1&&nil? q.2.1
 |.bin o a b=>oS (Qx e) λq=>decide (q.2.1=zj o)&&(C.e P q.1 a&&C.e P q.2.2.1 b)
 |.cmp o a b=>Di C P e o a b
 |.and ms=>oS (u9 e) λq=>decide (q.1=.And)&&mF (C.e P) q.2.1 ms
 |.or ms=>oS (u9 e) λq=>decide (q.1=.Or)&&mF (C.e P) q.2.1 ms
 |.not a=>oS (KR e) λq=>decide (q.1=.Not)&&C.e P q.2.1 a
 |.neg a=>oS (KR e) λq=>decide (q.1=.USub)&&C.e P q.2.1 a
 |.ite c a b=>oS (Ss e) λq=>C.t P q.1 c&&(C.e P q.2.1 a&&C.e P q.2.2.1 b)
 |.idx a i=>oS (Be e) λq=>qm q.2.1&&(C.e P q.1 a&&C.e P q.2.1 i)
 |.slice a lo hi=>oS (Be e) λq=>oS (KU q.2.1) λr=>decide (r.2.2.1=none)&&(C.e P q.1 a&&(C.o P r.1 lo&&C.o P r.2.1 hi))
 |.ax f ms=>fJ e λx es=>P.pQ x (.fn f)&&nW (C.e P) es ms
 |.aF b a=>fJ e λx es=>P.pQ x (Su b)&&oS (one es) λy=>aS y&&C.e P y a
 |.aK o k ms=>oS (Bf e) λq=>oS (rQ q.1) λr=>nil? q.2.2.1&&(decide (r.2.1=bif Nat.ble k 2 then qp k else ownName k)&&(nV r.1&&(decide (q.2.1.length<30)&&((r.2.2.endLine == q.2.2.2.line)&&(C.e P r.1 o&&nW (C.e P) q.2.1 ms)))))
 |.attr o=>oS (rQ e) λr=>decide (r.2.1="rows")&&(nV r.1&&C.e P r.1 o)
 |.new c ms=>fJ e λx es=>P.top&&(decide (c<=1)&&(P.pQ x (.cls c)&&nW (C.e P) es ms))
 |.comp a it c=>oS (GW e) λq=>oS (KV q.2.1) λg=>Bh C P q.1 g.1 g.2.2.1 g.2.2.2 q.2.2.1 a it c
 |.kz ks ms=>oS (GU e) λq=>Fj (C.e P) q.2.1 ms q.1 ks
noncomputable def stepT(C:lJ)(P:Nm)(e:PySem.Expr)(m:ME):Bool:=match m with
 |.cmp o a b=>Di C P e o a b
 |.and ms=>oS (u9 e) λq=>decide (q.1=.And)&&mF (C.t P) q.2.1 ms
 |.or ms=>oS (u9 e) λq=>decide (q.1=.Or)&&mF (C.t P) q.2.1 ms
 |.not a=>oS (KR e) λq=>decide (q.1=.Not)&&C.t P q.2.1 a
 |m=>kI e&&C.e P e m
noncomputable def N5(C:lJ)(P:Nm)(e:Option PySem.Expr)(m:fm):Bool:=match m with
 |.no=>decide (e=none)
 |.yes m=>(match e with | some e=>C.e P e m | none=>false)
noncomputable def stepI(C:lJ)(P:Nm)(qD:Bool)(e:PySem.Expr)(m:MI):Bool:=match m with
 |.plain a=>C.e P e a
 |.enum a=>fJ e λx es=>qD&&(P.pQ x (.ty "enumerate")&&oS (one es) λy=>aS y&&C.e P y a)
 |.gA a=>fJ e λx es=>P.pQ x (.ty "range")&&oS (one es) λy=>aS y&&C.e P y a
 |.df a b=>fJ e λx es=>P.pQ x (.ty "range")&&(match es with | []=>false | y::es=>oS (one es) λz=>aS y&&(aS z&&(C.e P y a&&C.e P z b)))
noncomputable def nX:Nat->lJ
 |0=>⟨λO O O=>false,λO O O=>false,λO O O=>false,λO O O O=>false⟩
 |n+1=>⟨GX (nX n),stepT (nX n),N5 (nX n),stepI (nX n)⟩
structure Facts(G:Gx)(glob:Str->Option GV)(K:Frag):Prop where
 fn:∀x i,glob x=some (.fn i)->∃a,G.T.mg x=some (.ref a)/\k4 G.cf G.c.toBs (.ref a) i G.n/\∃o fd,G.c.hc.get? a=some o/\o.data=.func fd
 gv:∀x i,glob x=some (.gl i)->∃v,G.T.mg x=some v/\VR G.c.toBs G.c.hc [] (G.gl i) v
 bi:∀x s,glob x=some (.bi s)->G.T.mg x=none/\G.T.mb x=some (.builtin s)
 ty:∀x s,glob x=some (.ty s)->G.T.mg x=none/\G.T.mb x=some (.type s)
 cl:∀x c,glob x=some (.cls c)->G.T.mg x=some (.ref (bT c))
 X:K.In G.c.hc
 ok:∀c,c<=1->ik K c/\keepIn K (.ref (bT c))=true
 own:∀c f m,dW c m=some f->c<=1/\k4 G.cf G.c.toBs (.ref (ej f)) f G.n/\∃o fd,G.c.hc.get? (ej f)=some o/\o.data=.func fd
 tV:∀c,c<=1->∃f,lr c=some f/\k4 G.cf G.c.toBs (.ref (ej f)) f G.n
 ex:AY G.c.toBs
 Dj:nS G.c.toBs
structure ir(P:Nm)(K:Frag)(G:Gx):Prop where
 loc:G.c.locs=P.loc
 sc:G.env.scope=P.scope
 top:P.top=true->4<=G.k
 F:Facts G P.glob K
theorem not_of{a:Bool}(h:(!a)=true):a=false:=Bool.not_eq_true' a▸h
theorem dec{p:Prop}{_:Decidable p}{b:Bool}(h:(decide p&&b)=true):p/\b=true:=⟨of_decide_eq_true (aw h).1,(aw h).2⟩
section
variable{G:Gx}{P:Nm}{K:Frag}{C:lJ}{f:PySem.Expr->ME->Bool}
structure Sv(G:Gx)(P:Nm)(x:Str)(g:GV):Prop where
 k:G.env.kindOf x=some .globalImplicit
 g:P.glob x=some g
 d:(x == ("__debug__":Str))=false
theorem ir.g(N:ir P K G){x:Str}{g:GV}(h:P.pQ x g=true):Sv G P x g:=⟨(congrArg (λs:Scope=>s.names.lookup x) N.sc).trans (dec h).1,(dec (dec h).2).1,not_of (dec (dec h).2).2⟩
theorem f6(hf:∀e m,f e m=true->aJ G e m)(es:List PySem.Expr):∀{ms:bO},nW f es ms=true->iN G es ms/\es.all aS=true/\ms.len=es.length:=by
 induction es with
 |nil=>
  intro ms h
  cases ms with
  |nil=>exact⟨EL,rfl,rfl⟩
  |cons _ _=>exact ff h
 |cons e es ih=>
  intro ms h
  cases ms with
  |nil=>exact ff h
  |cons m ms=>
   have h1:=aw h
   have h2:=aw h1.2
   have i:=ih h2.2
   exact⟨Cr h1.1 (hf _ _ h2.1) i.1,Bool.and_eq_true_iff.mpr ⟨h1.1,i.2.1⟩,congrArg (· +1) i.2.2⟩
theorem jG{R:List PySem.Expr->bO->Prop}(h1:∀e m,f e m=true->R [e] (.cons m .nil))(h2:∀e m e' es m' ms,f e m=true->R (e'::es) (.cons m' ms)->R (e::e'::es) (.cons m (.cons m' ms)))(es:List PySem.Expr):∀{ms:bO},mF f es ms=true->R es ms:=by
 induction es with
 |nil=>exact λh=>ff h
 |cons e es ih=>
  intro ms h
  cases ms with
  |nil=>exact ff h
  |cons m ms=>
   have h:=aw h
   cases ms with
   |nil=>exact nil_inv h.2▸h1 e m h.1
   |cons m' ms=>
    cases es with
    |nil=>exact ff h.2
    |cons e' es=>exact h2 e m e' es m' ms h.1 (ih h.2)
theorem Bj(hf:∀e m,f e m=true->aJ G e m)(es:List PySem.Expr):∀{ms:bO}{ks:List (Option PySem.Expr)}{is:List Int},Fj f es ms ks is=true->∃l:List (Pr G),es=l.map (·.e)/\ms=wM l/\ks=l.map (λp=>some p.k)/\is=l.map (·.i):=by
 induction es with
 |nil=>
  intro ms ks is h
  cases ms with
  |nil=>exact⟨[],rfl,rfl,nil_inv (aw h).1,nil_inv (aw h).2⟩
  |cons _ _=>exact ff h
 |cons e es ih=>
  intro ms ks is h
  cases ms with
  |nil=>exact ff h
  |cons m ms=>
   refine oS.e h λq hq h=> ?_
   cases is with
   |nil=>exact ff h
   |cons i is=>
    have h:=aw h
    have h2:=aw h.2
    refine oS.e h.1 λr hr hc=>(ih h2.2).elim λl hl=> ?_
    have hk:∃a p,q.1=.Constant (.int i) a p:=by
     revert hc
     show rR r.1 (.int i)=true->_
     rw[hr]
     cases r.1 with
     |int j=>exact λhc=>⟨_,_,by rw[of_decide_eq_true hc]⟩
     |_=>exact λhc=>ff hc
    exact⟨⟨q.1,i,e,m,hk,hf _ _ h2.1⟩::l,congrArg _ hl.1,congrArg _ hl.2.1,hq.trans (congrArg _ hl.2.2.1),congrArg _ hl.2.2.2⟩
structure Sound(K:Frag)(C:lJ):Prop where
 e:∀{P:Nm}{G:Gx},ir P K G->∀{x:PySem.Expr}{y:ME},C.e P x y=true->aJ G x y
 t:∀{P:Nm}{G:Gx},ir P K G->∀{x:PySem.Expr}{y:ME},C.t P x y=true->dw G x y
 o:∀{P:Nm}{G:Gx},ir P K G->∀{x:Option PySem.Expr}{y:fm},C.o P x y=true->qn G x y
 i:∀{P:Nm}{G:Gx},ir P K G->∀{qD:Bool}{target x:PySem.Expr}{y:MI},C.i P qD x y=true->(qD=true->∃es kk p,target=.Tuple es kk p)->iq G target x y
structure N6(G:Gx)(elt iter:PySem.Expr)(y:Str)(ifs:List PySem.Expr)(scope:Scope)(me:ME)(mi:MI)(mc:fm):Prop where
 cell:∀z∈scope.names,z.2≠ .cell
 free:∀z∈scope.names,z.2≠ .free
 names:∀z∈scope.names,z.2=.local->scope.names.lookup z.1=some .local
 kind:scope.kind=.function
 hx:scope.names.lookup y=some .local
 hp:fI iter=true
 Si:∀py,iq G (.Name y py) iter mi
 B:rK G scope y elt me ifs mc
theorem pR(S:Sound K C)(N:ir P K G){x iter:PySem.Expr}{y:Str}{ifs:List PySem.Expr}{scope:Scope}{a:ME}{it:MI}{c:fm}(h:Bh C P x y iter ifs scope a it c=true):N6 G x iter y ifs scope a it c:=by
 have h1:=aw h
 have h2:=dec h1.2
 have h3:=dec h2.2
 have h4:=aw h3.2
 have h5:=aw h4.2
 have h6:=aw h5.2
 have n:=List.all_eq_true.mp h1.1
 refine⟨λz hz e=> ?_,λz hz e=> ?_,λz hz e=> ?_,h2.1,h3.1,h4.1,λpy=>S.i N h5.1 nofun,λL hn env hY e=> ?_⟩
 ·have q:=(aw (n z hz)).1;rw[e] at q;exact ff q
 ·have q:=(aw (aw (n z hz)).2).1;rw[e] at q;exact ff q
 ·have q:=(aw (aw (n z hz)).2).2;rw[e] at q;exact of_decide_eq_true q
 ·have N':ir ⟨[y],P.glob,scope,false⟩ K (G.comp L y hn env hY):=⟨rfl,e,nofun,N.F.fn,N.F.gv,N.F.bi,N.F.ty,N.F.cl,N.F.X,N.F.ok,N.F.own,N.F.tV,N.F.ex,N.F.Dj⟩
  refine⟨S.e N' h6.1,?_⟩
  have h7:=h6.2
  cases c with
  |no=>exact nil_inv h7▸IE
  |yes t=>exact oS.e h7 λq hq h=>hq▸E5 (S.t N' h)
theorem yX(S:Sound K C)(N:ir P K G){e:PySem.Expr}{m:ME}(h:GX C P e m=true):aJ G e m:=by
 have Ee:∀e m,C.e P e m=true->aJ G e m:=λe m q=>S.e N q
 cases m with
 |k v=>exact oS.e h λq x h=>x▸wX h
 |loc i=>exact oS.e h λq x h=>x▸Ig (N.loc.symm▸(dec h).1) (not_of (dec h).2)
 |gl i=>exact oS.e h λq x h=>have g:=N.g h;(N.F.gv _ _ g.g).elim λv y=>x▸J4 g.k y.1 g.d y.2
 |tup ms=>exact oS.e h λq x h=>x▸Il (f6 Ee _ h).1
 |list ms=>exact oS.e h λq x h=>x▸EM (f6 Ee _ h).1
 |dC kk=>exact oS.e h λq x h=>x▸nil_inv (aw h).1▸nil_inv (aw h).2▸Cu
 |bin o a b=>exact oS.e h λq x h=>x▸(dec h).1▸Ih (Ee _ _ (aw (dec h).2).1) (Ee _ _ (aw (dec h).2).2)
 |cmp o a b=>exact oS.e h λq x h=>oS.e h λr y h=>have h2:=aw (dec h).2;x▸y▸(dec h).1▸Ii (Ee _ _ (aw h2.2).1) (Ee _ _ (aw h2.2).2) (not_of h2.1)
 |and ms=>exact oS.e h λq x h=>x▸(dec h).1▸jG (R:=λes ms=>aJ G (.BoolOp .And es _) (.and ms)) (λO O h=>yG (Ee _ _ h)) (λO O O O O O h=>Ir (Ee _ _ h)) _ (dec h).2
 |or ms=>exact oS.e h λq x h=>x▸(dec h).1▸jG (R:=λes ms=>aJ G (.BoolOp .Or es _) (.or ms)) (λO O h=>AH (Ee _ _ h)) (λO O O O O O h=>J2 (Ee _ _ h)) _ (dec h).2
 |not a=>exact oS.e h λq x h=>x▸(dec h).1▸Ij (Ee _ _ (dec h).2)
 |neg a=>exact oS.e h λq x h=>x▸(dec h).1▸Ik (Ee _ _ (dec h).2)
 |ite t a b=>exact oS.e h λq x h=>have h:=aw h;x▸Iq (S.t N h.1) (Ee _ _ (aw h.2).1) (Ee _ _ (aw h.2).2)
 |idx a i=>exact oS.e h λq x h=>have h:=aw h;x▸Im h.1 (Ee _ _ (aw h.2).1) (Ee _ _ (aw h.2).2)
 |slice a lo hi=>exact oS.e h λq x h=>oS.e h λr y h=>have h2:=aw (dec h).2;x▸y▸(dec h).1▸Ct (Ee _ _ h2.1) (S.o N (aw h2.2).1) (S.o N (aw h2.2).2)
 |ax f ms=>exact fJ.e (M:=λe=>aJ G e (.ax f ms)) h λx p es p' h=>have h:=aw h;have g:=N.g h.1;have L:=f6 Ee _ h.2;(N.F.fn _ _ g.g).elim λa y=>Cz g.k y.1 g.d L.2.1 L.1 y.2.1 y.2.2
 |aF bb a=>
  refine fJ.e (M:=λe=>aJ G e (.aF bb a)) h λx p es p' h=>oS.e (aw h).2 λy hy h'=> ?_
  have h1:=(aw h').1
  have h3:=Ee _ _ (aw h').2
  have g:=N.g (aw h).1
  rw[hy]
  cases bb with
  |len=>exact Iu g.k (N.F.bi _ _ g.g).1 (N.F.bi _ _ g.g).2 g.d h1 h3
  |sorted=>exact Bc g.k (N.F.bi _ _ g.g).1 (N.F.bi _ _ g.g).2 g.d h1 h3
  |tuple=>exact yW g.k (N.F.ty _ _ g.g).1 (N.F.ty _ _ g.g).2 g.d h1 h3
  |list=>exact AL g.k (N.F.ty _ _ g.g).1 (N.F.ty _ _ g.g).2 g.d h1 h3
 |aK o mm ms=>
  refine oS.e h λq x h=>oS.e h λr y h=> ?_
  have h1:=aw h
  have h2:=dec h1.2
  have h3:=aw h2.2
  have h4:=dec h3.2
  have h5:=aw h4.2
  have h6:=aw h5.2
  have L:=f6 Ee _ h6.2
  rw[x,y,nil_inv h1.1]
  have e:=h2.1
  cases hb:Nat.ble mm 2 with
  |true=>rw[hb] at e;exact e▸yJ (Nat.le_of_ble_eq_true hb) (mE h3.1) h4.1 h5.1 L.2.1 (Ee _ _ h6.1) L.1
  |false=>rw[hb] at e;exact e▸wj N.F.X (λcl f m' hf=>(N.F.ok cl (N.F.own cl f m' hf).1).1) (λcl f m' hf=>(N.F.own cl f m' hf).2) (Nat.lt_of_not_le λz=>absurd ((Nat.ble_eq_true_of_le z).symm.trans hb) Bool.noConfusion) (mE h3.1) h4.1 h5.1 L.2.1 (Ee _ _ h6.1) L.1
 |attr o=>exact oS.e h λq x h=>have h2:=aw (dec h).2;x▸(dec h).1▸EX N.F.X (λcl Dk=>(N.F.ok cl Dk).1) (Ee _ _ h2.2) (mE h2.1)
 |new cl ms=>
  exact fJ.e (M:=λe=>aJ G e (.new cl ms)) h λx p es p' h=>have h1:=aw h;have h2:=dec h1.2;have h3:=aw h2.2;have g:=N.g h3.1;have L:=f6 Ee _ h3.2;have o:=N.F.ok cl h2.1
   (N.F.tV cl h2.1).elim λf hf=>Iw (N.top h1.1) N.F.X o.1 hf.1 hf.2 g.k (N.F.cl _ _ g.g) o.2 g.d L.2.1 L.1
 |comp a it cd=>exact oS.e h λq x h=>oS.e h λr y h=>have c:=pR S N h;x▸y▸E9 c.cell c.free c.names c.kind c.hx c.hp (c.Si _) c.B
 |kz ks ms=>exact oS.e h λq x h=>(Bj Ee _ h).elim λl y=>by rw[x,y.1,y.2.1,y.2.2.1,y.2.2.2];exact C7 l
theorem yY(S:Sound K C)(N:ir P K G){e:PySem.Expr}{m:ME}(h:stepT C P e m=true):dw G e m:=by
 have Ee:∀e m,C.e P e m=true->aJ G e m:=λe m q=>S.e N q
 have Et:∀e m,C.t P e m=true->dw G e m:=λe m q=>S.t N q
 have plain:∀{m:ME},(kI e&&C.e P e m)=true->dw G e m:=λq=>Ip (aw q).1 (Ee _ _ (aw q).2)
 cases m with
 |cmp o a b=>exact oS.e h λq x h=>oS.e h λr y h=>have h2:=aw (dec h).2;x▸y▸(dec h).1▸EP (Ee _ _ (aw h2.2).1) (Ee _ _ (aw h2.2).2) (not_of h2.1)
 |and ms=>exact oS.e h λq x h=>x▸(dec h).1▸jG (R:=λes ms=>dw G (.BoolOp .And es _) (.and ms)) (λO O h=>wc (Et _ _ h)) (λO O O O O O h=>ES (Et _ _ h)) _ (dec h).2
 |or ms=>exact oS.e h λq x h=>x▸(dec h).1▸jG (R:=λes ms=>dw G (.BoolOp .Or es _) (.or ms)) (λO O h=>yH (Et _ _ h)) (λO O O O O O h=>It (Et _ _ h)) _ (dec h).2
 |not a=>exact oS.e h λq x h=>x▸(dec h).1▸ER (Et _ _ (dec h).2)
 |_=>exact plain h
theorem yZ(S:Sound K C)(N:ir P K G){qD:Bool}{target e:PySem.Expr}{m:MI}(h:stepI C P qD e m=true)(ht:qD=true->∃es kk p,target=.Tuple es kk p):iq G target e m:=by
 cases m with
 |plain a=>exact AS (S.e N h)
 |enum a=>exact fJ.e (M:=λe=>iq G target e (.enum a)) h λx p es p' h=>have h:=aw h;have g:=N.g (aw h.2).1;oS.e (aw h.2).2 λy hy h'=>(ht h.1).elim λO t=>t.elim λO t=>t.elim λO t=>hy▸t▸CM g.k (N.F.ty _ _ g.g).1 (N.F.ty _ _ g.g).2 g.d (aw h').1 (S.e N (aw h').2)
 |gA a=>exact fJ.e (M:=λe=>iq G target e (.gA a)) h λx p es p' h=>have h:=aw h;have g:=N.g h.1;oS.e h.2 λy hy h'=>hy▸yQ g.k (N.F.ty _ _ g.g).1 (N.F.ty _ _ g.g).2 g.d (aw h').1 (S.e N (aw h').2)
 |df a b=>
  refine fJ.e (M:=λe=>iq G target e (.df a b)) h λx p es p' h=> ?_
  have h:=aw h
  have g:=N.g h.1
  have h1:=h.2
  cases es with
  |nil=>exact ff h1
  |cons y es=>exact oS.e h1 λz hz h'=>have h2:=aw h';have h3:=aw h2.2;have h4:=aw h3.2;hz▸yR g.k (N.F.ty _ _ g.g).1 (N.F.ty _ _ g.g).2 g.d h2.1 h3.1 (S.e N h4.1) (S.e N h4.2)
theorem Dl(n:Nat):Sound K (nX n):=by
 induction n with
 |zero=>exact⟨λO O O h=>ff h,λO O O h=>ff h,λO O O h=>ff h,λO O O O O h=>ff h⟩
 |succ n S=>
  refine⟨λN O O h=>yX S N h,λN O O h=>yY S N h,λ{P G} N x y h=> ?_,λN O O O O h ht=>yZ S N h ht⟩
  cases y with
  |no=>exact(of_decide_eq_true h:x=none)▸Io
  |yes m=>cases x with
   |none=>exact ff h
   |some e=>exact EN (S.e N h)
end
noncomputable def rS:PySem.Expr->Bool
 |.ListComp ..=>true
 |.SetComp ..=>true
 |.DictComp ..=>true
 |_=>false
theorem wY{e:PySem.Expr}(h:rS e=false)(t:Option PySem.Expr)(l:Nat)(env:Env):swapsWith e t l env=pure false:=by
 cases e<;>first | rfl | exact ff h.symm
noncomputable def mG(locs:List Str):List PySem.Expr->List Nat->Bool
 |[],is=>nil? is
 |e::es,is=>(match is with | []=>false | i::is=>oS (jF e) (λx=>decide (locs[i]? =some x.1))&&mG locs es is)
theorem wZ{locs:List Str}(es:List PySem.Expr):∀{is:List Nat},mG locs es is=true->gQ locs es is:=by
 induction es with
 |nil=>exact λh=>nil_inv h
 |cons e es ih=>
  intro is h
  cases is with
  |nil=>exact ff h
  |cons i is=>exact oS.e (aw h).1 λx hx h1=>⟨x.1,x.2,i,is,hx,rfl,of_decide_eq_true h1,ih (aw h).2⟩
noncomputable def Dm(locs:List Str)(e:PySem.Expr):iY->Bool
 |.one i=>oS (jF e) λx=>decide (locs[i]? =some x.1)
 |.many is=>oS (wV e) λq=>mG locs q.1 is
theorem KW{locs:List Str}{e:PySem.Expr}{t:iY}(h:Dm locs e t=true):u7 locs e t:=by
 cases t with
 |one i=>exact oS.e h λx hx h=>⟨x.1,x.2,hx,of_decide_eq_true h⟩
 |many is=>exact oS.e h λq hx h=>⟨q.1,q.2.1,q.2.2,hx,wZ _ h⟩
noncomputable def w4(k:PySem.Const):PV->Bool
 |.none=>(match k with | .none=>true | _=>false)
 |.bool b'=>(match k with | .bool b=>decide (b=b') | _=>false)
 |_=>false
theorem Fm{k:PySem.Const}{v:PV}(h:w4 k v=true):lG k v:=by
 cases v with
 |none=>cases k with
  |none=>exact .none
  |_=>exact ff h
 |bool b=>cases k with
  |bool i=>exact of_decide_eq_true h▸.bool _
  |_=>exact ff h
 |_=>exact ff h
noncomputable def N7(t:PySem.Stmt):Option {q:PySem.Expr×Pos // t=.Expr q.1 q.2}:=match t with
 |.Expr e p=>some ⟨(e,p),rfl⟩
 |_=>none
noncomputable def Qz(t:PySem.Stmt):Option {q:PySem.Expr×PySem.Operator×PySem.Expr×Pos // t=.AugAssign q.1 q.2.1 q.2.2.1 q.2.2.2}:=match t with
 |.AugAssign t o e p=>some ⟨(t,o,e,p),rfl⟩
 |_=>none
noncomputable def Sw(t:PySem.Stmt):Option {q:PySem.Expr×List PySem.Stmt×List PySem.Stmt×Pos // t=.If q.1 q.2.1 q.2.2.1 q.2.2.2}:=match t with
 |.If e x y p=>some ⟨(e,x,y,p),rfl⟩
 |_=>none
noncomputable def QA(t:PySem.Stmt):Option {q:PySem.Expr×PySem.Expr×List PySem.Stmt×List PySem.Stmt×Pos // t=.For q.1 q.2.1 q.2.2.1 q.2.2.2.1 q.2.2.2.2}:=match t with
 |.For t i b l p=>some ⟨(t,i,b,l,p),rfl⟩
 |_=>none
noncomputable def KX(t:PySem.Stmt):Option {q:PySem.Expr×List PySem.Stmt×List PySem.Stmt×Pos // t=.While q.1 q.2.1 q.2.2.1 q.2.2.2}:=match t with
 |.While e b l p=>some ⟨(e,b,l,p),rfl⟩
 |_=>none
noncomputable def KY(t:PySem.Stmt):Option {q:Option PySem.Expr×Pos // t=.Return q.1 q.2}:=match t with
 |.Return e p=>some ⟨(e,p),rfl⟩
 |_=>none
noncomputable def N8(t:PySem.Stmt):Option {q:Pos // t=.Continue q}:=match t with
 |.Continue p=>some ⟨p,rfl⟩
 |_=>none
noncomputable def KZ(t:PySem.Stmt):Option {q:Option PySem.Expr×Option PySem.Expr×Pos // t=.Raise q.1 q.2.1 q.2.2}:=match t with
 |.Raise e c p=>some ⟨(e,c,p),rfl⟩
 |_=>none
noncomputable def QB(t:PySem.Stmt):Option {q:List PySem.Stmt×List PySem.ExceptHandler×List PySem.Stmt×List PySem.Stmt×Pos // t=.Try q.1 q.2.1 q.2.2.1 q.2.2.2.1 q.2.2.2.2}:=match t with
 |.Try b h l m p=>some ⟨(b,h,l,m,p),rfl⟩
 |_=>none
noncomputable def QC(t:PySem.Stmt):Option {q:List PySem.Expr×PySem.Expr×Pos // t=.Assign q.1 q.2.1 q.2.2}:=match t with
 |.Assign x e p=>some ⟨(x,e,p),rfl⟩
 |_=>none
noncomputable def nY{α:Type}(o:Option α):Option {q:α // o=some q}:=match o with
 |some a=>some ⟨a,rfl⟩
 |none=>none
noncomputable def QD(h:PySem.ExceptHandler):Option {q:Option PySem.Expr×List PySem.Stmt×Pos // h=.ExceptHandler q.1 none q.2.1 q.2.2}:=match h with
 |.ExceptHandler e n b p=>match n with
  |none=>some ⟨(e,b,p),rfl⟩
  |some _=>none
@[irreducible] noncomputable def j1(t:PySem.Stmt)(f:PySem.Expr->PySem.Expr->Pos->Bool):Bool:=oS (QC t) λq=>oS (one q.1) λx=>f x q.2.1 q.2.2
@[elab_as_elim] theorem j1.e{M:PySem.Stmt->Prop}{t:PySem.Stmt}{f:PySem.Expr->PySem.Expr->Pos->Bool}(h:j1 t f=true)(k:∀x e p,f x e p=true->M (.Assign [x] e p)):M t:=by
 unfold j1 at h
 exact oS.e h λq hq h=>oS.e h λx hx h=>hq▸hx▸k _ _ _ h
noncomputable def N9(C:lJ)(P:Nm)(x:Str)(l:Nat)(e:PySem.Expr)(m:ME):Bool:=match m with
 |.comp a it c=>oS (GW e) λq=>oS (KV q.2.1) λg=>(l == q.2.2.2.line)&&(!(q.2.2.1.names.any λz=>z.1 == x&&(z.2 == .local||z.2 == .cell))&&Bh C P q.1 g.1 g.2.2.1 g.2.2.2 q.2.2.1 a it c)
 |_=>false
structure Bk where
 s:PySem.Stmt->MS->Bool
 ss:List PySem.Stmt->bq->Bool
noncomputable def eP(C:lJ)(P:Nm)(D:Bk)(t:PySem.Stmt)(s:MS):Bool:=match s with
 |.expr a=>oS (N7 t) λe=> !rS e.1&&C.e P e.1 a
 |.aA i a=>j1 t λx e O=>oS (jF x) λx=>decide (P.loc[i]? =some x.1)&&(N9 C P x.1 x.2.line e a|| !rS e&&C.e P e a)
 |.dD is a=>j1 t λx e O=>oS (wV x) λq=>mG P.loc q.1 is&&(!oW e&&C.e P e a)
 |.bP a i b=>j1 t λx e O=>oS (Be x) λr=> !oW e&&(C.e P r.1 a&&(C.e P r.2.1 i&&C.e P e b))
 |.setAttr o b=>j1 t λx e O=>oS (rQ x) λr=>decide (r.2.1="rows")&&(!rS e&&(C.e P r.1 o&&C.e P e b))
 |.aug i o a=>oS (Qz t) λq=>oS (jF q.1) λx=>decide (q.2.1=.Add)&&(decide (o=.add)&&(decide (P.loc[i]? =some x.1)&&C.e P q.2.2.1 a))
 |.aP c a b=>oS (Sw t) λq=>C.t P q.1 c&&(D.ss q.2.1 a&&D.ss q.2.2.1 b)
 |.ba tg it body=>oS (QA t) λq=>nil? q.2.2.2.1&&(Dm P.loc q.1 tg&&(fI q.2.1&&(C.i P (wV q.1).isSome q.2.1 it&&D.ss q.2.2.1 body)))
 |.ll c body=>oS (KX t) λq=>nil? q.2.2.1&&(C.t P q.1 c&&D.ss q.2.1 body)
 |.ret a=>oS (KY t) λq=>oS (nY q.1) λe=>C.e P e a
 |.cont=>oS (N8 t) λO=>true
 |.eR ms=>oS (KZ t) λq=>oS (nY q.1) λe=>decide (q.2.1=none)&&fJ e λx es=>P.pQ x (.cls 2)&&(decide (es.length=2)&&nW (C.e P) es ms)
 |.kX body h=>oS (QB t) λq=>nil? q.2.2.1&&(nil? q.2.2.2.1&&(D.ss q.1 body&&oS (one q.2.1) λw=>oS (QD w) λw=>oS (nY w.1) λx=>oS (jF x) λx=>P.pQ x.1 (.cls 2)&&oS (one w.2.1) λr=>oS (KY r) λr=>oS (nY r.1) λc=>oS (wW c) λc=>w4 c.1 h))
noncomputable def qE(C:lJ)(P:Nm):Nat->Bk
 |0=>⟨λO O=>false,λO O=>false⟩
 |f+1=>⟨eP C P (qE C P f),λts ss=>match ts,ss with
  |[],ss=>(match ss with | .nil=>true | .cons _ _=>false)
  |t::ts,ss=>(match ss with | .cons s ss=>(qE C P f).s t s&&(qE C P f).ss ts ss | .nil=>false)⟩
section
variable{G:Gx}{P:Nm}{K:Frag}{C:lJ}
structure Dn(G:Gx)(D:Bk):Prop where
 s:∀{t:PySem.Stmt}{y:MS},D.s t y=true->dS G t y
 ss:∀{t:List PySem.Stmt}{y:bq},D.ss t y=true->ig G t y
theorem y0(S:Sound K C)(N:ir P K G){D:Bk}(B:Dn G D)(ja:∃outer,G.c.fr=G.env::outer)(t7:G.env.frame=some G.c.L){t:PySem.Stmt}{s:MS}(h:eP C P D t s=true):dS G t s:=by
 have Ee:∀{e m},C.e P e m=true->aJ G e m:=λq=>S.e N q
 have Et:∀{e m},C.t P e m=true->dw G e m:=λq=>S.t N q
 have loc:∀{i:Nat}{x:Str},P.loc[i]? =some x->G.c.locs[i]? =some x:=λq=>N.loc.symm▸q
 cases s with
 |expr a=>
  have hi:interactive G.env=false:=by unfold interactive;rw[G.hY.kf];rfl
  exact oS.e h λq x h=>x▸EY (wY (not_of (aw h).1) _ _ _) hi (Ee (aw h).2)
 |aA i a=>
  refine j1.e (M:=λt=>dS G t (.aA i a)) h λx e p h=>oS.e h λy hy h=> ?_
  have hx:=loc (dec h).1
  rw[hy]
  refine(Bool.or_eq_true_iff.mp (dec h).2).elim (λh=> ?_) λh=>EZ hx (wY (not_of (aw h).1) _ _ _) (Ee (aw h).2)
  cases a with
  |comp a it c=>
   refine oS.e h λq hq h=>oS.e h λg hg h=> ?_
   have h2:=aw (aw h).2
   have c:=pR S N h2.2
   rw[hq,hg]
   refine uS hx ?_ c.cell c.free c.names c.kind c.hx c.hp (c.Si _) c.B
   have hb:G.env.blockKind=.function:=by unfold Env.blockKind;rw[G.hY.kf];rfl
   show (pure (G.env.blockKind == .function&&G.env.kindOf y.1 == some .local&&y.2.line == q.2.2.2.line&& !(q.2.2.1.names.any λ(n,k)=>n == y.1&&(k == .local||k == .cell))):Sem Bool)=pure true
   rw[hb,G.hY.kl i _ hx,(aw h).1,show (!(q.2.2.1.names.any λ(n,k)=>n == y.1&&(k == .local||k == .cell)))=true from h2.1]
   rfl
  |_=>exact ff h
 |dD is a=>exact j1.e (M:=λt=>dS G t (.dD is a)) h λx e p h=>oS.e h λq hq h=>hq▸CG (N.loc.symm▸wZ _ (aw h).1) (not_of (aw (aw h).2).1) (Ee (aw (aw h).2).2)
 |bP a i b=>exact j1.e (M:=λt=>dS G t (.bP a i b)) h λx e p h=>oS.e h λq hq h=>have h2:=aw (aw h).2;hq▸AO (not_of (aw h).1) (Ee h2.1) (Ee (aw h2.2).1) (Ee (aw h2.2).2)
 |setAttr o b=>
  refine j1.e (M:=λt=>dS G t (.setAttr o b)) h λx e p h=>oS.e h λq hq h=> ?_
  have h2:=aw (dec h).2
  rw[hq,(dec h).1]
  exact yM N.F.X (λcl Dk=>(N.F.ok cl Dk).1) (wY (not_of h2.1) _ _ _) (Ee (aw h2.2).1) (Ee (aw h2.2).2)
 |aug i o a=>
  refine oS.e h λq hq h=>oS.e h λx hx h=> ?_
  have h2:=dec (dec h).2
  rw[hq,hx,(dec h).1,h2.1]
  exact IB (loc (dec h2.2).1) (Ee (dec h2.2).2)
 |aP c a b=>exact oS.e h λq x h=>x▸Kb (Et (aw h).1) (B.ss (aw (aw h).2).1) (B.ss (aw (aw h).2).2)
 |ba tg it body=>
  refine oS.e h λq hq h=> ?_
  have h1:=aw (aw h).2
  have h2:=aw h1.2
  have h3:=aw h2.2
  rw[hq,nil_inv (aw h).1]
  refine ID (N.loc.symm▸KW h1.1) h2.1 (S.i N h3.1 λz=> ?_) (B.ss h3.2)
  cases hd:wV q.1 with
  |none=>rw[hd] at z;exact ff z
  |some r=>exact⟨_,_,_,r.2⟩
 |ll c body=>exact oS.e h λq x h=>x▸nil_inv (aw h).1▸CN (Et (aw (aw h).2).1) (B.ss (aw (aw h).2).2)
 |ret a=>exact oS.e h λq x h=>oS.e h λe y h=>x▸y▸IA (Ee h)
 |cont=>exact oS.e h λq x O=>x▸E0
 |eR ms=>
  refine oS.e h λq hq h=>oS.e h λe he h=> ?_
  rw[hq,he,(dec h).1]
  exact fJ.e (M:=λe=>dS G (.Raise (some e) none q.2.2) (.eR ms)) (dec h).2 λx p es p' h=>have g:=N.g (aw h).1;have L:=f6 (λO O h=>Ee h) _ (dec (aw h).2).2;C0 N.F.Dj g.k (N.F.cl _ _ g.g) g.d L.2.1 (L.2.2.trans (dec (aw h).2).1) L.1
 |kX body v=>
  refine oS.e h λq hq h=> ?_
  have h1:=aw (aw h).2
  have h2:=aw h1.2
  rw[hq,nil_inv (aw h).1,nil_inv h1.1]
  refine oS.e h2.2 λw hw h=>oS.e h λw' Sx h=>oS.e h λx hx h=>oS.e h λx' GO h=>oS.e (aw h).2 λr hr h'=>oS.e h' λr' pS h'=>oS.e h' λc hc h'=>oS.e h' λc' Sy h'=> ?_
  have g:=N.g (aw h).1
  rw[hw,Sx,hx,GO,hr,pS,hc,Sy]
  exact IF N.F.ex ja t7 g.k (N.F.cl _ _ g.g) g.d (Fm h') (B.ss h2.1)
theorem Bl(S:Sound K C)(N:ir P K G)(ja:∃outer,G.c.fr=G.env::outer)(t7:G.env.frame=some G.c.L)(f:Nat):Dn G (qE C P f):=by
 induction f with
 |zero=>exact⟨λh=>ff h,λh=>ff h⟩
 |succ f B=>
  refine⟨λh=>y0 S N B ja t7 h,λ{ts ss} h=> ?_⟩
  cases ts with
  |nil=>cases ss with
   |nil=>exact E1
   |cons _ _=>exact ff h
  |cons t ts=>cases ss with
   |nil=>exact ff h
   |cons s ss=>exact CE (B.s (aw h).1) (B.ss (aw h).2)
end
structure K0(b:Bs)(T:Tops b)(glob:Str->Option GV)(defs:Nat->Option aW)(gl:Nat->PV)(iG:Nat->Addr)(K:Frag):Prop where
 fn:∀x i,glob x=some (.fn i)->T.mg x=some (.ref (iG i))/\∃d,defs i=some d
 gv:∀x i,glob x=some (.gl i)->∃v,T.mg x=some v/\VR b b.hc [] (gl i) v
 bi:∀x s,glob x=some (.bi s)->T.mg x=none/\T.mb x=some (.builtin s)
 ty:∀x s,glob x=some (.ty s)->T.mg x=none/\T.mb x=some (.type s)
 cl:∀x c,glob x=some (.cls c)->T.mg x=some (.ref (bT c))
 X:K.In b.hc
 ok:∀c,c<=1->ik K c/\keepIn K (.ref (bT c))=true
 me:∀c f m,dW c m=some f->c<=1/\iG f=ej f/\∃d,defs f=some d
 tV:∀c,c<=1->∃f,lr c=some f/\iG f=ej f/\∃d,defs f=some d
 ex:AY b
 Dj:nS b
 defs:∀i d,defs i=some d->∃fd locs body m f,we b (iG i) fd locs d.params body/\(qE (nX m) ⟨locs,glob,fd.scope,true⟩ f).ss body d.body=true
theorem Dp{b:Bs}{T:Tops b}{glob:Str->Option GV}{defs:Nat->Option aW}{gl:Nat->PV}{iG:Nat->Addr}{K:Frag}(F:K0 b T glob defs gl iG K)(n:Nat):∀(i:Nat)(d:aW),defs i=some d->k4 (ar defs gl n) b (.ref (iG i)) i n:=by
 induction n with
 |zero=>exact λi d hd c A Cw J Z P Q E ps vs O O O O O O G=>G.elim
 |succ n ih=>
  intro i d hd
  have at_:∀{j},(∃d',defs j=some d')->k4 (ar defs gl n) b (.ref (iG j)) j n/\∃o fd,b.hc.get? (iG j)=some o/\o.data=.func fd:=λh=>h.elim λd' h=>⟨ih _ d' h,by
   obtain ⟨fd,_,_,_,_,FO,_⟩:=F.defs _ d' h
   exact FO.at_.imp λo e=>⟨fd,e⟩⟩
  obtain ⟨fd,locs,body,m,f,FO,ck⟩:=F.defs i d hd
  clear ih
  refine AJ FO T hd λG Cw hT CT Kv hn hk O3 GY ja t7=> ?_
  obtain ⟨c,A,env,cf,O4,n',k,T',hY⟩:=G
  dsimp only at Cw CT Kv hn hk O3 GY ja t7
  subst Cw CT Kv hn hk
  cases hT
  have N:ir ⟨locs,glob,fd.scope,true⟩ K ⟨c,A,env,ar defs O4 n',O4,n',4,T',hY⟩:=⟨GY,O3,λO=>Nat.le_refl 4,λx j h=>⟨_,(F.fn x j h).1,at_ (F.fn x j h).2⟩,F.gv,F.bi,F.ty,F.cl,F.X,F.ok,λcl g m h=>have q:=F.me cl g m h;⟨q.1,q.2.1▸at_ q.2.2⟩,λcl h=>(F.tV cl h).elim λf q=>⟨f,q.1,q.2.1▸(at_ q.2.2).1⟩,F.ex,F.Dj⟩
  exact(Bl (Dl m) N ja t7 f).ss ck
end FR
section
set_option maxRecDepth 100000
namespace FR
open PySem PySem.W PySem.Calls PyProof.Rows PySem.SeqAt
theorem Bm(fd:FuncData)(args:List Arg)(xs:List Str)(hx:args.map (·.arg)=xs)(vs:List Value)(hp:fd.params=⟨[],args,none,[],[],none,[]⟩)(hd:fd.defaults=.none):∃X jo f,bindArgs fd ⟨vs,[]⟩=
  if (decide (vs.length>xs.length)&&true)=true then X else
  if (!((xs.take (xs.length-(List.drop (0-xs.length) ([]:List Value)).length)).filter λn=>((xs.zip vs).lookup n).isNone).isEmpty)=true then jo else
   (forIn ((xs.drop (xs.length-(List.drop (0-xs.length) ([]:List Value)).length)).zip (List.drop (0-xs.length) ([]:List Value))) (xs.zip vs) f:Sem (List (Str×Value))) >>= λslots=>pure ((xs++[]).filterMap λn=>(slots.lookup n).map (n,·)):=by
 obtain ⟨a1,a2,a3,a4,a5,a6,a7,a8,a9,K2,K3,K4,K5⟩:=fd
 dsimp only at hp hd
 subst hp hd hx
 exact⟨_,_,_,rfl⟩
theorem Oa{α:Type}{g:α->Option α}{l:List α}(h:∀p∈l,g p=some p):l.filterMap g=l:=by
 induction l with
 |nil=>rfl
 |cons p l ih=>rw[List.filterMap_cons_some (h p List.mem_cons_self),ih λq hq=>h q (List.mem_cons_of_mem _ hq)]
theorem Dq{L:List (Str×Value)}(nd:(L.map (·.1)).Nodup):((L.map (·.1)).filterMap λn=>(L.lookup n).map (n,·))=L:=by
 rw[List.filterMap_map]
 refine Oa λp hp=> ?_
 show (L.lookup p.1).map (p.1,·)=some p
 rw[nP nd hp]
 rfl
theorem w5{L:List (Str×Value)}(nd:(L.map (·.1)).Nodup):((L.map (·.1)).filter λn=>(L.lookup n).isNone)=[]:=
 List.filter_eq_nil_iff.mpr λn hn=>(List.mem_map.mp hn).elim λp hp=>by
  rw[<-hp.2,nP nd hp.1]
  exact Bool.noConfusion
theorem rT(fd:FuncData)(args:List Arg)(vs:List Value)(hn:(args.map (·.arg)).Nodup)(hp:fd.params=⟨[],args,none,[],[],none,[]⟩)(hd:fd.defaults=.none)(hl:vs.length=args.length):bindArgs fd ⟨vs,[]⟩=pure ((args.map (·.arg)).zip vs):=by
 obtain ⟨X,jo,f,e⟩:=Bm fd args _ rfl vs hp hd
 rw[e]
 clear e hp hd
 have hl:vs.length=(args.map (·.arg)).length:=hl.trans (List.length_map ..).symm
 generalize args.map (·.arg)=xs at*
 have hx:(xs.zip vs).map (·.1)=xs:=List.map_fst_zip (Nat.le_of_eq hl.symm)
 have nd:((xs.zip vs).map (·.1)).Nodup:=hx.symm▸hn
 have m:=w5 nd
 have a:=Dq nd
 rw[hx] at m a
 rw[decide_eq_false (Nat.not_lt.mpr (Nat.le_of_eq hl)),List.drop_nil,List.length_nil,Nat.sub_zero,List.take_length,m,List.zip_nil_right,List.forIn_nil,List.append_nil,if_neg Bool.noConfusion,if_neg Bool.noConfusion,pure_bind,a]
end FR
end
section
set_option backward.match.sparseCases true
set_option maxRecDepth 100000
set_option maxHeartbeats 0
open PySem PySem.W PyProof.Rows
namespace FR
noncomputable def p0:Pos:=⟨0,0,0,0⟩
end FR
namespace FR
noncomputable abbrev pw:=PySem.Challenge.pw_sa0237_01
noncomputable def eB(l:List Stmt)(i:Nat):Stmt:=match l.drop i with
 |x::_=>x
 |[]=>.Pass p0
noncomputable def w6:Stmt->Arguments×List Stmt×Scope
 |.FunctionDef _ a b _ _ _ sc _ _ _=>(a,b,sc)
 |_=>default
noncomputable def cM:Stmt->List Stmt
 |.ClassDef _ _ _ b _ _ _ _ _ _ _=>b
 |_=>[]
noncomputable abbrev vi(n t:Nat):Value:=.int (.ofNat n) t
noncomputable abbrev vs(x:String)(t:Nat):Value:=.str (Str.ofString x) t
noncomputable abbrev vr(a:Nat):Value:=.ref a
noncomputable def ti(t:Nat):List Nat->List Value
 |[]=>[]
 |n::r=>.int (.ofNat n) t::ti (t+1) r
noncomputable abbrev tr(l:List Nat):List Value:=l.map .ref
noncomputable abbrev oT(l:List Value):Obj:=⟨.type "tuple",none,.seq l.toArray 0,#[]⟩
noncomputable abbrev oF(c:Value)(l:List Value):Obj:=⟨c,none,.fields l.toArray,#[]⟩
noncomputable abbrev de(P:Params)(x:String)(t:Nat)(v:Value):DictEntry:=⟨PyData.keyHash P (Str.ofString x),.str (Str.ofString x) t,v⟩
noncomputable def fd(q:Stmt)(nm qual:String)(pm code:Value)(gl:Nat:=3):FuncData:=⟨Str.ofString nm,Str.ofString qual,(w6 q).1,.stmts (w6 q).2.1,(w6 q).2.2,gl,[],.none,.none,.none,pm,none,code,.none,0⟩
noncomputable abbrev cp:String:="/claim/cut.py"
noncomputable abbrev co(n q:String)(t l a f A:Nat)(b:Bool)(x:Value):Obj:=oF (.type "code") [vs n t,vs q (t+1),vs cp (t+2),vi l 0,vi a 0,vi 0 0,vi 0 0,vi f 0,vr A,.bool b,vi 181 0,vr (A+1),.none,.none,.none,x,vi (t+3) 0,vi l 0,vs cp (t+4)]
noncomputable abbrev cq(n q:String)(t l a A k:Nat):Obj:=oF (.type "code") ([vs n t,vs q (t+1),vs cp (t+2),vi l 0,vi a 0,vi 0 0,vi 0 0,vi 3 0,vr A,.bool true,vi 181 0,vr (A+1),.none]++tr [A+2,A+3,A+4]++[vi k 0,vi l 0,vs cp (k+1)])
noncomputable abbrev sb(i:Nat):Stmt:=eB pw.main.body i
noncomputable abbrev nA:Value:=vs "framerune.metacheck" 527
noncomputable abbrev nB:Value:=vs "framerune.pages" 962
noncomputable abbrev nC:Value:=vs "law_sa0237_01" 1064
noncomputable abbrev oE:Obj:=oT []
noncomputable abbrev fz(q:Stmt)(nm ql:String):Obj:=⟨.none,none,.func (fd q nm ql .none .none 0),#[]⟩
noncomputable abbrev fo(q:Stmt)(nm ql:String)(m c:Value):Obj:=⟨.type "function",none,.func (fd q nm ql m c),#[]⟩
noncomputable def K6:Obj:=fo (eB (cM (sb 37)) 0) "__init__" "RuneError.__init__" (vs "framerune.faults" 259) (vr 27)
noncomputable def O5:Obj:=⟨.type "type",none,.cls ⟨Str.ofString "RuneError",[.type "Exception"],[vr 31,.type "Exception",.type "BaseException",.type "object"],30,Str.ofString "RuneError",true,[],[vr 44],false,none,false⟩,#[some (vr 15),none,some (vs "RuneError" 261),some (vs "RuneError" 269),some (.builtin "Exception.__new__"),some (.bool true)]⟩
noncomputable def O6:Obj:=⟨.type "type",none,.cls ⟨Str.ofString "BadImage",[vr 31],[vr 44,vr 31,.type "Exception",.type "BaseException",.type "object"],43,Str.ofString "BadImage",true,[],[],false,none,false⟩,#[some (vr 35),none,some (vs "BadImage" 292),some (vs "BadImage" 300),some (.builtin "Exception.__new__"),some (.bool true)]⟩
noncomputable def K7:Obj:=fo (eB (cM (sb 105)) 0) "__init__" "PlainHeap.__init__" nB (vr 460)
noncomputable def K8:Obj:=fo (eB (cM (sb 105)) 2) "get" "PlainHeap.get" nB (vr 474)
noncomputable def K9(P:Params):Obj:=⟨.type "dict",none,.dict #[de P "__module__" 971 nB,de P "__firstlineno__" 975 (vi 366 974),de P "__init__" 983 (vr 461),de P "put" 992 (vr 468),de P "get" 1000 (vr 475),de P "__static_attributes__" 1002 (vr 476),de P "__dict__" 1004 (vr 479),de P "__weakref__" 1006 (vr 480),de P "__doc__" 1007 (.none)] 4,#[]⟩
noncomputable def Lb:Obj:=⟨.type "type",none,.cls ⟨Str.ofString "PlainHeap",[.type "object"],[vr 478,.type "object"],477,Str.ofString "PlainHeap",true,[],[],false,none,false⟩,#[none,none,some (vs "PlainHeap" 964),some (vs "PlainHeap" 972),some (.builtin "object.__new__"),some (.bool true)]⟩
noncomputable def Lc:Obj:=fo (eB (cM (sb 106)) 0) "__init__" "PlainTables.__init__" nB (vr 495)
noncomputable def Ld:Obj:=fo (eB (cM (sb 106)) 1) "add" "PlainTables.add" nB (vr 502)
noncomputable def Le:Obj:=fo (eB (cM (sb 106)) 2) "get" "PlainTables.get" nB (vr 509)
noncomputable def Lf:Obj:=fo (eB (cM (sb 106)) 3) "count" "PlainTables.count" nB (vr 516)
noncomputable def Lg(P:Params):Obj:=⟨.type "dict",none,.dict #[de P "__module__" 1017 nB,de P "__firstlineno__" 1021 (vi 382 1020),de P "__init__" 1028 (vr 496),de P "add" 1037 (vr 503),de P "get" 1046 (vr 510),de P "count" 1054 (vr 517),de P "__static_attributes__" 1056 (vr 518),de P "__dict__" 1058 (vr 521),de P "__weakref__" 1060 (vr 522),de P "__doc__" 1061 (.none)] 4,#[]⟩
noncomputable def Lh:Obj:=⟨.type "type",none,.cls ⟨Str.ofString "PlainTables",[.type "object"],[vr 520,.type "object"],519,Str.ofString "PlainTables",true,[],[],false,none,false⟩,#[none,none,some (vs "PlainTables" 1010),some (vs "PlainTables" 1018),some (.builtin "object.__new__"),some (.bool true)]⟩
noncomputable def Ob(P:Params):List DictEntry:=[de P "__doc__" 166 (.none),de P "__package__" 167 (.none),de P "__loader__" 168 (.builtin "__main__.__loader__#opaque"),de P "__spec__" 169 (.none),de P "__annotations__" 170 (vr 6),de P "__builtins__" 171 (vr 4),de P "__file__" 173 (vs "/claim/cut.py" 172),de P "__cached__" 174 (.none),de P "TB_MODULE" 188 (vi 0 187),de P "TB_TYPEREF" 190 (vi 1 189),de P "TB_TYPEDEF" 192 (vi 2 191),de P "TB_FIELD" 194 (vi 4 193),de P "TB_METHODDEF" 196 (vi 6 195),de P "TB_PARAM" 198 (vi 8 197),de P "TB_INTERFACEIMPL" 200 (vi 9 199),de P "TB_MEMBERREF" 202 (vi 10 201),de P "TB_CONSTANT" 204 (vi 11 203),de P "TB_STANDALONESIG" 206 (vi 17 205),de P "TB_EVENTMAP" 208 (vi 18 207),de P "TB_EVENT" 210 (vi 20 209),de P "TB_PROPERTYMAP" 212 (vi 21 211),de P "TB_PROPERTY" 214 (vi 23 213),de P "TB_METHODSEMANTICS" 216 (vi 24 215),de P "TB_METHODIMPL" 218 (vi 25 217),de P "TB_TYPESPEC" 220 (vi 27 219),de P "TB_ASSEMBLY" 222 (vi 32 221),de P "TB_ASSEMBLYREF" 224 (vi 35 223),de P "TB_NESTEDCLASS" 226 (vi 41 225),de P "TB_GENERICPARAM" 228 (vi 42 227),de P "TB_METHODSPEC" 230 (vi 43 229),de P "TB_GENERICPARAMCONSTRAINT" 232 (vi 44 231),de P "TOKEN_BASE" 234 (vi 16777216 233),de P "E_VOID" 236 (vi 1 235),de P "TA_INTERFACE" 238 (vi 32 237),de P "FA_STATIC" 240 (vi 16 239),de P "FA_LITERAL" 242 (vi 64 241),de P "FA_HASDEFAULT" 244 (vi 32768 243),de P "MA_STATIC" 246 (vi 16 245),de P "MA_ABSTRACT" 248 (vi 1024 247),de P "MI_INTERNALCALL" 250 (vi 4096 249),de P "MS_SETTER" 252 (vi 1 251),de P "MS_GETTER" 254 (vi 2 253),de P "MS_ADDON" 256 (vi 8 255),de P "MS_REMOVEON" 258 (vi 16 257),de P "RuneError" 291 (vr 31),de P "BadImage" 307 (vr 44),de P "CS_U16" 311 (vi 1 310),de P "CS_U32" 313 (vi 2 312),de P "CS_U8PAD" 315 (vi 3 314),de P "CS_TEXT" 317 (vi 4 316),de P "CS_BLOB" 319 (vi 5 318),de P "CS_GUID" 321 (vi 6 320),de P "CS_ROW" 323 (vi 256 322),de P "CS_CODED" 325 (vi 512 324),de P "CD_TYPEDEFORREF" 327 (vi 0 326),de P "CD_HASCONSTANT" 329 (vi 1 328),de P "CD_MEMBERREFPARENT" 331 (vi 2 330),de P "CD_HASSEMANTICS" 333 (vi 3 332),de P "CD_METHODDEFORREF" 335 (vi 4 334),de P "CD_RESOLUTIONSCOPE" 337 (vi 5 336),de P "CD_TYPEORMETHODDEF" 339 (vi 6 338),de P "CODED" 358 (vr 47),de P "COLUMNS" 487 (vr 62),de P "need_row" 494 (vr 173),de P "make_coded" 506 (vr 180),de P "split_coded" 516 (vr 187),de P "column_place" 526 (vr 194),de P "LISTS" 534 (vr 200),de P "NAMED" 546 (vr 212),de P "MAY_BE_NONE" 549 (vr 215),de P "SIG_TABLES" 550 (vr 216),de P "SIG_COLUMNS" 554 (vr 217),de P "MODULE_NAME" 556 (vs "<Module>" 555),de P "CORE_NAME" 558 (vs "core" 557),de P "ROOT_NAME" 560 (vs "Object" 559),de P "CCTOR_SIG" 563 (vr 218),de P "check_tables" 573 (vr 225),de P "rows_of" 581 (vr 232),de P "table_text" 589 (vr 239),de P "table_blob" 597 (vr 246),de P "rule_heaps" 612 (vr 253),de P "right_place" 624 (vr 260),de P "rule_single" 635 (vr 267),de P "rule_maps" 647 (vr 274),de P "rule_tags" 660 (vr 281),de P "coded_pair" 668 (vr 288),de P "is_list_column" 677 (vr 295),de P "rule_parents" 691 (vr 302),de P "names_row" 702 (vr 309),de P "rule_lists" 718 (vr 316),de P "list_range" 730 (vr 323),de P "owner_row" 744 (vr 330),de P "rule_names" 758 (vr 337),de P "rule_twice" 773 (vr 344),de P "twice_members" 797 (vr 351),de P "is_interface" 804 (vr 358),de P "rule_iface" 817 (vr 365),de P "root_row" 823 (vr 370),de P "rule_base" 835 (vr 377),de P "rule_cctor" 847 (vr 384),de P "rule_bodies" 858 (vr 391),de P "rule_constants" 873 (vr 398),de P "rule_params" 887 (vr 405),de P "rule_generics" 902 (vr 412),de P "rule_semantics" 916 (vr 419),de P "right_meaning" 924 (vr 426),de P "association_type" 935 (vr 433),de P "rule_impls" 948 (vr 440),de P "rule_nested" 961 (vr 447),de P "PlainHeap" 1009 (vr 478),de P "PlainTables" 1063 (vr 520),de P "_law_WORDS" 1090 (vr 525),de P "_law_BLOBS" 1100 (vr 526),de P "_law_TAGS" 1133 (vr 535),de P "_law_PARENTS" 1254 (vr 566),de P "_law_LISTS" 1307 (vr 580),de P "_law_TEXTS" 1356 (vr 597),de P "_law_SIGS" 1378 (vr 605),de P "_law_OCTETS" 1391 (vr 610),de P "_law_NAMELESS" 1425 (vr 622),de P "_law_OTHERS" 2116 (vr 1076),de P "_law_sound" 2122 (vr 1081),de P "_law_breach" 2136 (vr 1088),de P "_law_nameless" 2142 (vr 1093),de P "_law_edit" 2154 (vr 1100),de P "law" 2160 (vr 1105)]
noncomputable def gR(P:Params)(m:Nat)(name:Value)(ep:Nat):Obj:=⟨.type "dict",none,.dict (⟨PyData.keyHash P (Str.ofString "__name__"),.str (Str.ofString "__name__") 165,name⟩::(Ob P).take m).toArray ep,#[]⟩
noncomputable def QE:List Value:=[vi 38 0,vi 0 0,vr 20,vi 43 0,vi 0 0,vr 40,vi 63 0,vi 0 0,vr 172,vi 66 0,vi 0 0,vr 179,vi 73 0,vi 0 0,vr 186,vi 79 0,vi 0 0,vr 193,vi 94 0,vi 0 0,vr 224,vi 117 0,vi 0 0,vr 231,vi 119 0,vi 0 0,vr 238,vi 121 0,vi 0 0,vr 245,vi 123 0,vi 0 0,vr 252,vi 129 0,vi 0 0,vr 259,vi 139 0,vi 0 0,vr 266,vi 146 0,vi 0 0,vr 273,vi 153 0,vi 0 0,vr 280,vi 160 0,vi 0 0,vr 287,vi 165 0,vi 0 0,vr 294,vi 170 0,vi 0 0,vr 301,vi 179 0,vi 0 0,vr 308,vi 188 0,vi 0 0,vr 315,vi 200 0,vi 0 0,vr 322,vi 205 0,vi 0 0,vr 329,vi 211 0,vi 0 0,vr 336,vi 217 0,vi 0 0,vr 343,vi 237 0,vi 0 0,vr 350,vi 249 0,vi 0 0,vr 357,vi 251 0,vi 0 0,vr 364,vi 261 0,vi 0 0,vr 369,vi 269 0,vi 0 0,vr 376,vi 275 0,vi 0 0,vr 383,vi 280 0,vi 0 0,vr 390,vi 285 0,vi 0 0,vr 397,vi 297 0,vi 0 0,vr 404,vi 306 0,vi 0 0,vr 411,vi 318 0,vi 0 0,vr 418,vi 331 0,vi 0 0,vr 425,vi 335 0,vi 0 0,vr 432,vi 341 0,vi 0 0,vr 439,vi 350 0,vi 0 0,vr 446,vi 366 0,vi 0 0,vr 453,vi 382 0,vi 0 0,vr 488,vi 409 0,vi 0 0,vr 1080,vi 431 0,vi 0 0,vr 1087,vi 463 0,vi 0 0,vr 1092,vi 478 0,vi 0 0,vr 1099,vi 490 0,vi 0 0,vr 1104]
noncomputable def gu(m:Nat):Obj:=oF .none (QE.take m)
noncomputable def QF:Obj:=⟨.type "type",none,.cls ⟨Str.ofString "RuneError",[.type "Exception"],[vr 31,.type "Exception",.type "BaseException",.type "object"],30,Str.ofString "RuneError",true,[],[],false,none,false⟩,#[some (vr 15),none,some (vs "RuneError" 261),some (vs "RuneError" 269),some (.builtin "Exception.__new__"),some (.bool true)]⟩
noncomputable def wK(P:Params):Obj:=⟨.type "dict",none,.dict #[de P "__module__" 268 (vs "framerune.faults" 259),de P "__qualname__" 270 (vs "RuneError" 269),de P "__firstlineno__" 272 (vi 38 271),de P "__init__" 281 (vr 28),de P "__static_attributes__" 284 (vr 29)] 5,#[]⟩
noncomputable abbrev tN(v:Obj)(l r:BT):BT:=.node v l r
noncomputable abbrev tL(v:Obj):BT:=.node v .nil .nil
noncomputable def hT(P:Params):BT:=tN (boot_o_0 P) (tN (boot_o_1 P) (tN (gR P 126 nC 127) (tN (boot_o_7 P) (tN (oT [.type "Exception"]) (tN O5 (tN (oT [vs "Generation" 359,vi 1 310]) (tN (oT [vs "MethodBody" 440,vi 516 441]) (tN (oF (.none) []) (tN oE (tL (oT (ti 2033 [2,3]))) .nil) (tL (oT [vr 766]))) (tN (cq "rule_cctor" "rule_cctor" 836 275 4 378 845) (tL (oT (tr [636,638]))) (tL (oT (tr [893,894]))))) (tN oE (tN (oT [vs "ts" 722,vs "table" 723,vs "place" 724,vs "other" 725,vs "number" 726,vs "first" 727]) (tN (oT ([vi 6 1287,vs "M" 1288]++ti 1289 [5,8])) (tL (cq "_law_breach" "_law_breach" 2123 431 4 1082 2134)) .nil) (tL (oT (tr [827,830])))) (tN (fo (sb 103) "rule_nested" "rule_nested" nA (vr 446)) (tL (oT (ti 1552 [4,2]++[vs "twice" 1554]))) (tL (oT [vr 958]))))) (tN (oT [vs "Class" 396,vi 258 397]) (tN (oT [vs "Name" 473,vi 4 316]) (tN (cq "coded_pair" "coded_pair" 661 160 2 282 666) (tN (oT (ti 1162 [24,1,2,7])) (tL (oT [vr 1054])) .nil) (tL (oT [vr 798]))) (tN (oT [vs "ts" 906,vs "told" 907,vs "seen" 908,vs "number" 909,vs "row" 910,vs "table" 911,vs "n" 912,vs "event" 913]) (tL (oT (tr [669,670]))) (tL (oT [vr 926])))) (tN (fz (sb 71) "check_tables" "check_tables") (tN (fo (sb 89) "twice_members" "twice_members" nA (vr 350)) (tL (oT (ti 1382 [32,1,6]))) (tL (oT (ti 1788 [4,3,0,32854])))) (tN (oF (.type "getset_descriptor") [vs "__dict__" 1003,vr 478,.builtin "function.__dict__",.builtin "function.__dict__#set"]) (tL (oT [vr 734])) (tL (oT [vr 990])))))) (tN (⟨.type "dict",none,.dict #[⟨0,vi 0 326,vr 49⟩,⟨1,vi 1 328,vr 51⟩,⟨2,vi 2 330,vr 53⟩,⟨3,vi 3 332,vr 55⟩,⟨4,vi 4 334,vr 57⟩,⟨5,vi 5 336,vr 59⟩,⟨6,vi 6 338,vr 61⟩] 7,#[]⟩) (tN (oT (tr [73,74,75,76,77,78])) (tN (oT [vs "MajorVersion" 456,vi 1 310]) (tN oE (tN (oT (ti 1101 [2,2,3,7])) (tL (oT (ti 2056 [41,1]++[.int (-1) 2059,vr 1038]))) .nil) (tL (oT (tr [780,782])))) (tN oE (tL (oT (ti 1487 [2,2]))) (tL (oT (tr [907,910]))))) (tN (oT [vi 20 209,vs "Name" 541]) (tN (fz (sb 87) "rule_names" "rule_names") (tN (oT (ti 1338 [23,2,1])) (tL (fz (sb 122) "law" "law")) .nil) (tL (oT (tr [844,846])))) (tN (oF (.none) []) (tL (oT [vr 718])) (tL (oT (ti 1958 [24,4]++[vs "semantics" 1960])))))) (tN (oT [vs "EventFlags" 418,vi 1 310]) (tN (oF (.none) []) (tN oE (tN (oT (ti 1226 [1,1,0,0])) (tL (oT (tr [1069,1070]))) .nil) (tL (oT (ti 1713 [11,1]++[vs "constant" 1715])))) (tN (fz (sb 101) "association_type" "association_type") (tL (oT [vr 686])) (tL (oT (ti 1909 [24,3]++[vs "semantics" 1911]))))) (tN (fo (sb 73) "table_text" "table_text" nA (vr 238)) (tN (oF (.none) []) (tL (oT (ti 1430 [0,1,1,0,0]))) (tL (oT [vr 878]))) (tN (cq "__init__" "PlainTables.__init__" 1022 384 1 490 1026) (tL (oT (ti 1625 [2,4]++[vs "base" 1627]))) (tL (oT (ti 2005 [41,2]++[vs "nested" 2007])))))))) (tN (oF (.none) []) (tN (oF (.none) []) (tN (oT [vs "TypeNamespace" 368,vi 4 316]) (tN (oT [vs "MinorVersion" 449,vi 1 310]) (tN (oT [vs "ts" 628,vs "texts" 629,vs "told" 630,vs "table" 631,vs "rows" 632]) (tN (Lg P) (tL (oT (tr [1028,1029,1030]))) .nil) (tL (oT [vr 774]))) (tN (fo (sb 95) "rule_bodies" "rule_bodies" nA (vr 390)) (tL (oT (ti 1473 [2,1]++[vs "module" 1475]))) (tL (oT (ti 1853 [42,3]++[vs "number" 1855]))))) (tN (oT [vi 21 211,vi 1 533,vi 23 213]) (tN oE (tN (oT (ti 1314 [1,1,2])) (tL (oF (.none) [])) .nil) (tL (oT [vr 838]))) (tN oE (tL (oT (tr [708,710]))) (tL (oT (tr [964,966])))))) (tN (oT [vs "Parent" 407,vi 513 408]) (tN oE (tN (fo (sb 81) "is_list_column" "is_list_column" nA (vr 294)) (tN (oT (ti 1194 [42,1,2,0])) (tL (oT (ti 2101 [1,2,0,4]))) .nil) (tL (oT (tr [804,806])))) (tN oE (tL (oT (ti 1519 [2,4]++[vs "twice" 1521]))) (tL (oT (tr [932,934]))))) (tN (cq "rows_of" "rows_of" 574 117 2 226 579) (tN oE (tL (oT (ti 1404 [6,6,3]))) (tL (oT (ti 1803 [11,1]++[.int (-1) 1806,vr 870])))) (tN (oF (.none) [vi 384 0,vi 4 0,vr 495,vi 387 0,vi 4 0,vr 502,vi 391 0,vi 4 0,vr 509,vi 396 0,vi 4 0,vr 516]) (tL (oT (tr [740,742]))) (tL (oT (ti 1996 [2,2,14]))))))) (tN (oT [vi 1 345,vr 54]) (tN (oT [vs "Name" 387,vi 4 316]) (tN (oT [vs "HashValue" 464,vi 5 318]) (tN (fz (sb 79) "rule_tags" "rule_tags") (tN (oT (tr [527,528,529,530,531,532,533,534])) (tL (oT (ti 2074 [18,1]++[.int (-2) 2077,vi 0 2078]))) .nil) (tL (oT (ti 1681 [6,8]++[vs "body" 1683])))) (tN (oF (.none) []) (tL (oT [vr 662])) (tL (oT (ti 1877 [42,3]++[vs "twice" 1879]))))) (tN (oT (tr [213,214])) (tN (cq "rule_twice" "rule_twice" 759 217 4 338 771) (tL (oT (ti 1360 [6,2,4]))) (tL (oT (ti 1778 [4,3]++[vs "constant" 1780])))) (tN (oT [vs "self" 996,vs "place" 997]) (tL (oT (tr [723,726]))) (tL (oT (ti 1968 [25,1,1,16])))))) (tN (oT [vs "Name" 429,vi 4 316]) (tN (oT [vs "coded" 510,vs "n" 511,vs "pair" 512,vs "tag" 513]) (tN (oF (.none) []) (tN (oT (ti 1255 [2,1,4,2])) (tL (fz (sb 118) "_law_sound" "_law_sound")) .nil) (tL (oT (ti 1729 [4,2]++[vs "constant" 1731])))) (tN (cq "rule_impls" "rule_impls" 936 341 2 434 946) (tL (oT (tr [693,694]))) (tL (oT (tr [949,950]))))) (tN oE (tN (fz (sb 93) "rule_base" "rule_base") (tL (oT (ti 1443 [0,0]++[vs "single" 1445]))) (tL (oT [vr 886]))) (tN Ld (tL (oT (ti 1635 [6,5,2,6]))) (tL (oT (tr [1013,1014]))))))))) (tN oE (tN (oF (.none) [vi 40 0,vi 4 0,vr 27]) (tN (oT [vr 31]) (tN (oT [vs "EncBaseId" 363,vi 6 320]) (tN (oT [vr 130]) (tN (cq "right_place" "right_place" 613 129 5 254 622) (tN (fz (eB (cM (sb 106)) 3) "count" "PlainTables.count") (tL (oT (tr [1024,1026]))) .nil) (tL (oT (ti 1653 [6,8]++[vs "cctor" 1655])))) (tN (oT [vs "ts" 851,vs "told" 852,vs "number" 853,vs "row" 854,vs "without" 855]) (tL (oT [vr 642])) (tL (oT [vr 898])))) (tN (oT [vi 2 191,vi 4 529,vi 4 193]) (tN (fo (sb 85) "list_range" "list_range" nA (vr 322)) (tN (oT (ti 1303 [6,1,5,2])) (tL (fz (sb 120) "_law_nameless" "_law_nameless")) .nil) (tL (oT (ti 1749 [11,2]++[vs "constant" 1751])))) (tN oE (tL (oT (ti 1559 [6,2,4,5]))) (tL (oT (ti 1940 [24,4,1,7])))))) (tN (oT [vs "Name" 403,vi 4 316]) (tN (oT (tr [161,162])) (tN (oT [vs "table" 672,vs "place" 673,vs "row" 674]) (tN (oT (ti 1178 [25,1,1,0])) (tL (oT [vr 1058])) .nil) (tL (oT (ti 1695 [6,2,2,1094])))) (tN (fo (sb 99) "rule_semantics" "rule_semantics" nA (vr 418)) (tL (oT [vr 674])) (tL (oT (ti 1891 [24,2,0,2]))))) (tN (oF (.none) []) (tN oE (tL (oT (ti 1392 [0,1,1]))) (tL oE)) (tN oE (tL (oT (ti 1607 [4,4,0,6]))) (tL (oT [vr 994])))))) (tN (oT [vi 2 341,vr 50]) (tN (oT (tr [80,81,82])) (tN (oT [vs "Flags" 460,vi 2 312]) (tN oE (tN (oT (ti 1117 [10,1,0,15])) (tL (oT (ti 2068 [41,2]++[vs "nested" 2070]))) .nil) (tL (oT [vr 786]))) (tN (fz (sb 97) "rule_params" "rule_params") (tL (oT [vr 658])) (tL (oT [vr 914])))) (tN (oT [vi 42 227,vs "Name" 545]) (tN (oF (.none) []) (tL (oT (ti 1350 [35,1,7]))) (tL (oT [vr 850]))) (tN (cq "put" "PlainHeap.put" 984 371 2 462 990) (tL (oT [vr 722])) (tL (oT [vr 978]))))) (tN (oT [vs "Parent" 423,vi 258 424]) (tN (cq "make_coded" "make_coded" 495 66 3 174 504) (tN (fz (sb 83) "names_row" "names_row") (tN (oT (ti 1242 [11,1,1,29])) (tL (oT (tr [1073,1074]))) .nil) (tL (oT (tr [814,818])))) (tN (oF (.none) []) (tL (oT (ti 1533 [1,2,1,17]))) (tL (oT (ti 1915 [24,4,0,8]))))) (tN oE (tN oE (tL (oT [vr 626])) (tL (oT (ti 1824 [8,6]++[vs "param" 1826])))) (tN (oT [vs "self" 1032,vs "table" 1033,vs "row" 1034]) (tL (oT [vr 754])) (tL (oT (ti 2008 [41,1]++[.int (-1) 2011,vr 1010])))))))) (tN (cq "__init__" "RuneError.__init__" 273 40 3 22 279) (tN (⟨.type "dict",none,.dict #[de P "__module__" 299 (vs "framerune.faults" 259),de P "__firstlineno__" 303 (vi 43 302),de P "__static_attributes__" 304 (vr 42),de P "__doc__" 305 (.none)] 2,#[]⟩) (tN (oT [vs "TypeNamespace" 372,vi 4 316]) (tN (oT [vs "PublicKey" 453,vi 5 318]) (tN (fo (sb 77) "rule_single" "rule_single" nA (vr 266)) (tN (oF (.type "super") (tr [520,520,520])) (tL (oT [vr 1034])) .nil) (tL (oT (ti 1663 [6,7,0,1])))) (tN oE (tL (oT [vr 650])) (tL (oT [vr 906])))) (tN (oT [vi 2 191,vs "TypeName" 537]) (tN oE (tN (oT (ti 1326 [6,8,3])) (tL (cq "_law_edit" "_law_edit" 2143 478 5 1094 2152)) .nil) (tL (oT (ti 1760 [4,2,0,86])))) (tN (fz (eB (cM (sb 105)) 0) "__init__" "PlainHeap.__init__") (tL (oT (tr [713,714]))) (tL (oT (tr [969,970])))))) (tN (oT [vr 106]) (tN (fz (sb 57) "need_row" "need_row") (tN oE (tN (oT (ti 1210 [44,1,0,0])) (tL (oT (ti 2109 [2,6,5]))) .nil) (tL (oT [vr 810]))) (tN oE (tL (oT [vr 682])) (tL (oT [vr 938])))) (tN (oT [vs "texts" 585,vs "offset" 586]) (tN (fz (sb 91) "rule_iface" "rule_iface") (tL (oT (ti 1416 [32,1,7]))) (tL (oT (tr [872,874])))) (tN (oF (.none) []) (tL (oT [vr 746])) (tL (oT (tr [1001,1002]))))))) (tN (oT [vi 2 347,vr 58]) (tN (oT [vs "Flags" 392,vi 1 310]) (tN (oT (tr [153,154])) (tN (oF (.none) []) (tN (oT (ti 1146 [18,1,0]++[vs "T" 1149])) (tL (oT (tr [1048,1050]))) .nil) (tL (oT [vr 794]))) (tN (cq "rule_generics" "rule_generics" 888 306 3 406 900) (tL (oT (ti 1505 [3,2]))) (tL (oT [vr 922])))) (tN oE (tN (oT [vs "ts" 777,vs "texts" 778,vs "blobs" 779,vs "told" 780,vs "lists" 781,vs "name_place" 782,vs "sig_place" 783,vs "table" 784,vs "place" 785,vs "other" 786,vs "number" 787,vs "first" 788,vs "end" 789,vs "seen" 790,vs "n" 791,vs "row" 792,vs "sig" 793,vs "key" 794]) (tL (oT (ti 1372 [27,1,0]))) (tL (oT [vr 858]))) (tN K8 (tL (oT (ti 1597 [20,2]++[vs "semantics" 1599]))) (tL (oT (tr [984,986])))))) (tN (oT [vs "Method" 433,vi 262 434]) (tN (fo (sb 59) "split_coded" "split_coded" (vs "framerune.schema" 308) (vr 186)) (tN (cq "rule_lists" "rule_lists" 703 188 2 310 716) (tN (oT [vi 2 1271,vs "T" 1272,vi 4 1273,vs "F" 1274]) (tL (oF (.none) [])) .nil) (tL (oT [vr 826]))) (tN (oT [vs "ts" 952,vs "told" 953,vs "outer" 954,vs "number" 955,vs "row" 956,vs "at" 957,vs "steps" 958]) (tL (oT [vr 698])) (tL (oT (ti 1930 [20,1]++[vs "semantics" 1932]))))) (tN (fz (sb 75) "rule_heaps" "rule_heaps") (tN (oF (.none) []) (tL (oT (ti 1446 [32,1]++[.int (-1) 1449,vr 634]))) (tL (oT (ti 1834 [8,5,1,0])))) (tN oE (tL (oT (tr [760,762]))) (tL (oT [vr 1018]))))))))) (tN (boot_o_5 P) (tN (boot_o_9 P) (tN (wK P) (tN (oF (.type "super") (tr [31,31,31])) (tN (oT [vs "Mvid" 361,vi 6 320]) (tN (oT (tr [126,127,128])) (tN oE (tN (oT [vs "self" 1050,vs "table" 1051]) (tL (oT (ti 2039 [3,4]))) .nil) (tL (oT (ti 1649 [6,8,3,10])))) (tN oE (tL (oT [vr 640])) (tL (oT [vr 896])))) (tN (cq "column_place" "column_place" 517 79 2 188 524) (tN (fz (sb 85) "list_range" "list_range") (tN (oT (ti 1295 [21,1,1,2])) (tL oE) .nil) (tL (oT (ti 1742 [11,1]++[.int (-1) 1745,vr 832])))) (tN (oF (.type "builtin_function_or_method") [.builtin "type.__prepare__",.type "type"]) (tL (oT (tr [702,704]))) (tL (oT [vr 960]))))) (tN (oT (tr [95,96])) (tN (oT [vs "Method" 474,vi 516 475]) (tN oE (tN (oT (ti 1170 [24,3,2,0])) (tL (oT (ti 2094 [4,16,3]))) .nil) (tL (oT [vr 800]))) (tN (fz (sb 99) "rule_semantics" "rule_semantics") (tL (oT [vr 672])) (tL (oT [vr 928])))) (tN (fo (sb 71) "check_tables" "check_tables" nA (vr 224)) (tN (oF (.none) []) (tL (oT (ti 1388 [35,1,8]))) (tL (oT (ti 1792 [11,1]++[.int (-1) 1795,vr 864])))) (tN (oF (.type "super") (tr [478,478,478])) (tL (oT [vr 736])) (tL (oT (ti 1986 [2,4,3]))))))) (tN (oT [vi 2 340,vr 48]) (tN (oT [vs "Name" 381,vi 4 316]) (tN (oT [vs "BuildNumber" 458,vi 1 310]) (tN (cq "rule_maps" "rule_maps" 636 146 2 268 645) (tN (oT (ti 1109 [11,1,1,11])) (tL (oT (ti 2062 [41,1]++[.int (-1) 2065,vr 1040]))) .nil) (tL (oT [vr 784]))) (tN (oT [vs "ts" 877,vs "told" 878,vs "number" 879,vs "first" 880,vs "end" 881,vs "last" 882,vs "n" 883,vs "sequence" 884]) (tL (oT [vr 656])) (tL (oT [vr 912])))) (tN (oT [vi 32 221,vs "Name" 543]) (tN (fo (sb 87) "rule_names" "rule_names" nA (vr 336)) (tN (oT (ti 1344 [32,1,8])) (tL (fo (sb 122) "law" "law" nC (vr 1104))) .nil) (tL (oT [vr 848]))) (tN oE (tL (oT (ti 1581 [0,14,5]))) (tL (oT (tr [973,976])))))) (tN (oT [vs "EventType" 420,vi 512 421]) (tN oE (tN (oT [vs "ts" 695,vs "sort" 696,vs "n" 697,vs "may_none" 698,vs "pair" 699]) (tN (oT (ti 1234 [2,3,3,10])) (tL (oT [vr 1072])) .nil) (tL (oT (ti 1719 [4,2]++[vs "constant" 1721])))) (tN (fo (sb 101) "association_type" "association_type" nA (vr 432)) (tL (oT [vr 688])) (tL (oT (tr [943,944]))))) (tN (oF (.none) []) (tN (co "root_row" "root_row" 818 261 2 3 366 true (vr 368)) (tL (oT [vr 624])) (tL (oT (ti 1820 [8,6,1,1])))) (tN oE (tL (oT (tr [750,752]))) (tL (oT (tr [1006,1008])))))))) (tN oE (tN (⟨.type "frame",none,.plain,#[some (vr 40),some (vr 3),some (vr 37),none,some (vs "framerune.faults" 259),none,some (vr 0)]⟩) (tN (oT [vs "Flags" 370,vi 2 312]) (tN (oT [vs "RevisionNumber" 451,vi 1 310]) (tN (fz (sb 77) "rule_single" "rule_single") (tN (oF (.type "getset_descriptor") [vs "__dict__" 1057,vr 520,.builtin "function.__dict__",.builtin "function.__dict__#set"]) (tL (oT (ti 2054 [3,2]))) .nil) (tL (oT [vr 776]))) (tN (oF (.none) []) (tL (oT (tr [646,648]))) (tL (oT (tr [902,904]))))) (tN (oT [vi 0 187,vs "Name" 535]) (tN (cq "owner_row" "owner_row" 731 205 5 324 742) (tN (oT (ti 1320 [2,2,2])) (tL oE) .nil) (tL (oT [vr 840]))) (tN (oT [vs "self" 979,vs "zero" 980]) (tL (oT [vr 712])) (tL (oT [vr 968]))))) (tN (oT (tr [102,103,104])) (tN (oT [vs "row" 491]) (tN (oF (.none) []) (tN (oT (ti 1202 [43,1,0,5])) (tL oE) .nil) (tL (oT [vr 808]))) (tN (cq "right_meaning" "right_meaning" 917 331 2 420 922) (tL (oT (tr [678,680]))) (tL (oT [vr 936])))) (tN oE (tN (oT [vs "ts" 808,vs "told" 809,vs "number" 810,vs "row" 811,vs "first" 812,vs "end" 813,vs "n" 814]) (tL (oT (ti 1410 [20,1,1]))) (tL (oT (ti 1810 [4,3]++[vs "constant" 1812])))) (tN (⟨.type "frame",none,.plain,#[some (vr 488),some (vr 3),some (vr 485),none,some nB,none,some (vr 0)]⟩) (tL (oT [vr 744])) (tL (oT [vr 1000])))))) (tN (oT [vi 1 346,vr 56]) (tN (oT [vs "ParamList" 389,vi 264 390]) (tN (oT [vs "NestedClass" 465,vi 258 466]) (tN (fo (sb 79) "rule_tags" "rule_tags" nA (vr 280)) (tN (oT (ti 1138 [9,1,0,0])) (tL (oT (ti 2079 [20,1]++[vs "list" 2081]))) .nil) (tL (oT (tr [790,792])))) (tN oE (tL (oT [vr 664])) (tL (oT (tr [918,920]))))) (tN (oT [vs "Signature" 551,vs "Type" 552,vs "Instantiation" 553]) (tN oE (tL (oT (ti 1366 [17,1,0]))) (tL (oT (tr [854,856])))) (tN (fz (eB (cM (sb 105)) 2) "get" "PlainHeap.get") (tL (oT (ti 1590 [20,1]++[.int (-1) 1593,vr 728]))) (tL (oT (ti 1972 [25,1]++[vs "impl" 1974])))))) (tN (oT (tr [118,119,120])) (tN (fz (sb 59) "split_coded" "split_coded") (tN oE (tN (oT (ti 1263 [2,3,4,0])) (tL (fo (sb 118) "_law_sound" "_law_sound" nC (vr 1080))) .nil) (tL (oT (tr [821,824])))) (tN oE (tL (oT [vr 696])) (tL (oT (ti 1925 [24,4]++[.int (-2) 1928,vi 0 1929]))))) (tN (oT [vs "ts" 601,vs "texts" 602,vs "blobs" 603,vs "told" 604,vs "table" 605,vs "place" 606,vs "column" 607,vs "number" 608,vs "row" 609]) (tN (fo (sb 93) "rule_base" "rule_base" nA (vr 376)) (tL (oT (tr [630,632]))) (tL (oT [vr 888]))) (tN (oF (.none) []) (tL (oT (ti 1639 [6,5]++[vs "cctor" 1641]))) (tL (oT (ti 2024 [3,3]))))))))) (tN (co "<module>" "<module>" 182 1 0 0 11 false .none) (tN (⟨.type "frame",none,.plain,#[some (vr 20),some (vr 3),some (vr 17),none,some (vs "framerune.faults" 259),none,some (vr 0)]⟩) (tN (⟨.type "dict",none,.dict #[de P "__module__" 299 (vs "framerune.faults" 259),de P "__qualname__" 301 (vs "BadImage" 300),de P "__firstlineno__" 303 (vi 43 302),de P "__static_attributes__" 304 (vr 42)] 4,#[]⟩) (tN (oT [vs "ResolutionScope" 365,vi 517 366]) (tN (oT [vs "HashAlgId" 447,vi 2 312]) (tN oE (tN Lf (tL (oT (ti 2044 [41,2]++[vs "nested" 2046]))) .nil) (tL (oT (tr [770,772])))) (tN (fz (sb 95) "rule_bodies" "rule_bodies") (tL (oT (ti 1469 [2,1,0,32]))) (tL (oT (ti 1849 [42,3,0,0]))))) (tN (oT [vi 6 195,vi 5 531,vi 8 197]) (tN (oF (.none) []) (tN (oT (ti 1308 [0,1,1])) (tL (fo (sb 120) "_law_nameless" "_law_nameless" nC (vr 1092))) .nil) (tL (oT (tr [834,836])))) (tN (co "PlainHeap" "PlainHeap" 966 366 0 0 451 false .none) (tL (oT (ti 1563 [6,2]++[vs "twice" 1565]))) (tL (oT (ti 1944 [24,4]++[vs "semantics" 1946])))))) (tN (oT (tr [98,99,100])) (tN (oT [vs "Constraint" 479,vi 512 480]) (tN (fz (sb 81) "is_list_column" "is_list_column") (tN (oT (ti 1186 [41,1,1]++[vs "T" 1189])) (tL (oT (tr [1059,1060]))) .nil) (tL (oT (ti 1699 [6,2]++[vs "body" 1701])))) (tN (oF (.none) []) (tL (oT (ti 1514 [41,1]++[.int (-2) 1517,vi 0 1518]))) (tL (oT (ti 1895 [24,2]++[vs "semantics" 1897]))))) (tN oE (tN (cq "is_interface" "is_interface" 798 249 1 352 802) (tL (oT (ti 1398 [2,2,1]))) (tL (oT (ti 1799 [4,3,0,32838])))) (tN (⟨.type "dict",none,.dict #[de P "__module__" 1017 nB,de P "__qualname__" 1019 (vs "PlainTables" 1018),de P "__firstlineno__" 1021 (vi 382 1020),de P "__init__" 1028 (vr 496),de P "add" 1037 (vr 503),de P "get" 1046 (vr 510),de P "count" 1054 (vr 517),de P "__static_attributes__" 1056 (vr 518)] 8,#[]⟩) (tL (oT (ti 1611 [4,4]++[vs "iface" 1613]))) (tL (oT [vr 996])))))) (tN (oT [vi 3 342,vr 52]) (tN (oT [vs "ImplFlags" 385,vi 1 310]) (tN (oT [vs "Name" 462,vi 4 316]) (tN (oT [vs "ts" 651,vs "told" 652,vs "table" 653,vs "place" 654,vs "column" 655,vs "number" 656,vs "row" 657]) (tN (oT (ti 1125 [44,1,1,7])) (tL (oT (tr [1043,1044]))) .nil) (tL (oT (ti 1677 [6,8,1,4096])))) (tN (fo (sb 97) "rule_params" "rule_params" nA (vr 404)) (tL (oT (ti 1496 [2,3]))) (tL (oT (ti 1873 [42,3,3,15]))))) (tN (oT [vi 2 191,vs "Extends" 547]) (tN oE (tL (oT (tr [581,582,583,584,585,586,587,588,589,590,591,592,593,594,595,596]))) (tL (oT (ti 1774 [4,3,0,32774])))) (tN oE (tL (oT (ti 1587 [20,2]++[vs "semantics" 1589]))) (tL (oT [vr 980]))))) (tN (oT (tr [115,116])) (tN oE (tN (fo (sb 83) "names_row" "names_row" nA (vr 308)) (tN (oT (ti 1250 [44,1,1,10])) (tL oE) .nil) (tL (oT [vr 820]))) (tN oE (tL (oT (tr [691,692]))) (tL (oT (ti 1919 [24,4]++[vs "semantics" 1921]))))) (tN (cq "table_blob" "table_blob" 590 121 2 240 595) (tN (oT [vs "ts" 827,vs "texts" 828,vs "told" 829,vs "root" 830,vs "number" 831,vs "row" 832]) (tL (oT (ti 1438 [0,1]++[.int (-2) 1441,vi 0 1442]))) (tL (oT (tr [882,884])))) (tN (fz (eB (cM (sb 106)) 1) "add" "PlainTables.add") (tL (oT [vr 756])) (tL (oT (ti 2014 [41,1]++[vs "nested" 2016])))))))) (tN (oT [vs "at" 282,vs "code" 283]) (tN (oF (.type "super") (tr [44,44,44])) (tN (oT [vs "FieldList" 375,vi 260 376]) (tN (oT [vs "Culture" 455,vi 4 316]) (tN (oF (.none) []) (tN (oT [vs "" 1066,vs "<Module>" 1067,vs "A" 1068,vs "I" 1069,vs "f" 1070,vs "g" 1071,vs "get_P" 1072,vs "set_P" 1073,vs "add_E" 1074,vs "remove_E" 1075,vs ".cctor" 1076,vs "m" 1077,vs "M" 1078,vs "P" 1079,vs "E" 1080,vs "T" 1081,vs "U" 1082,vs "Object" 1083,vs "R" 1084,vs "s" 1085,vs "C" 1086,vs "D" 1087,vs "h" 1088,vs "core" 1089]) (tL (oT (tr [1035,1036]))) .nil) (tL (oT (ti 1667 [6,7]++[vs "body" 1669])))) (tN (cq "rule_constants" "rule_constants" 859 285 2 392 871) (tL (oT [vr 652])) (tL (oT (ti 1863 [42,3]++[vs "number" 1865]))))) (tN (oT [vi 6 195,vs "Name" 539]) (tN (oT [vs "ts" 748,vs "texts" 749,vs "told" 750,vs "table" 751,vs "word" 752,vs "place" 753,vs "number" 754,vs "row" 755]) (tN (oT (ti 1332 [10,1,1])) (tL oE) .nil) (tL (oT (ti 1764 [4,2]++[vs "constant" 1766])))) (tN K7 (tL (oT [vr 716])) (tL (oT [vr 972]))))) (tN (oT [vs "EventList" 415,vi 276 416]) (tN (fo (sb 57) "need_row" "need_row" (vs "framerune.schema" 308) (vr 172)) (tN (cq "rule_parents" "rule_parents" 678 170 2 296 689) (tN (oT (ti 1218 [10,1,0,20])) (tL (oT [vr 1068])) .nil) (tL (oT (ti 1709 [11,1,1,4])))) (tN (oT [vs "ts" 928,vs "table" 929,vs "n" 930,vs "maps" 931,vs "number" 932]) (tL (oT (tr [683,684]))) (tL (oT (ti 1905 [24,3,0,2]))))) (tN (fz (sb 73) "table_text" "table_text") (tN (fo (sb 91) "rule_iface" "rule_iface" nA (vr 364)) (tL (oT (ti 1422 [42,1,3]))) (tL (oT [vr 876]))) (tN oE (tL (oT (ti 1621 [2,4,3,0]))) (tL (oT (ti 1999 [41,1]++[.int (-1) 2002,vr 1004]))))))) (tN (oT [vi 1 350,vr 60]) (tN (oT [vs "Name" 394,vi 4 316]) (tN (oT [vs "Flags" 470,vi 1 310]) (tN oE (tN (oT (ti 1154 [24,1,1]++[vs "M" 1157])) (tL (oT [vr 1052])) .nil) (tL (oT (tr [795,796])))) (tN oE (tL (oT [vr 668])) (tL (oT (tr [923,924]))))) (tN (oT [vs "ts" 567,vs "texts" 568,vs "blobs" 569,vs "told" 570]) (tN (fz (sb 89) "twice_members" "twice_members") (tL (oT (tr [598,599,600,601,602,603,604]))) (tL (oT [vr 860]))) (tN (K9 P) (tL (oT (tr [730,732]))) (tL (oT [vr 988]))))) (tN (oT (tr [122,123,124])) (tN (oF (.none) []) (tN oE (tN (oT (ti 1279 [6,3,5,0])) (tL oE) .nil) (tL (oT (ti 1739 [4,2]++[vs "constant" 1741])))) (tN (fz (sb 103) "rule_nested" "rule_nested") (tL (oT (ti 1548 [4,2,2,1]))) (tL (oT (tr [954,956]))))) (tN (fo (sb 75) "rule_heaps" "rule_heaps" nA (vr 252)) (tN oE (tL (oT (ti 1459 [32,2]++[vs "single" 1461]))) (tL (oT (tr [891,892])))) (tN (cq "get" "PlainTables.get" 1038 391 3 504 1044) (tL (oT [vr 764])) (tL (oT [vr 1020])))))))))) (tN (⟨.none,none,.dict #[de P "type.__subclasses__.Exception.0" 288 (vi 31 0),de P "type.__subclasses__.Exception.n" 289 (vi 1 0)] 2,#[]⟩) (tN (boot_o_4 P) (tN (boot_o_8 P) (tN (oF (.type "builtin_function_or_method") [.builtin "type.__prepare__",.type "type"]) (tN (oF (.type "getset_descriptor") [vs "__weakref__" 285,vr 31,.builtin "ExceptionGroup.__weakref__",.none]) (tN (oT [vs "Name" 360,vi 4 316]) (tN (oT [vs "MethodDeclaration" 442,vi 516 443]) (tN (oT [vs "texts" 616,vs "blobs" 617,vs "table" 618,vs "column" 619,vs "offset" 620,vs "count" 621]) (tN (oF (.none) []) (tL (oT (ti 2029 [41,1]++[.int (-1) 2032,vr 1023]))) .nil) (tL (oT (tr [765,767])))) (tN (fo (sb 94) "rule_cctor" "rule_cctor" nA (vr 383)) (tL (oT (ti 1462 [2,1,1,19]))) (tL (oT (ti 1842 [42,3,0,2]))))) (tN (fz (sb 60) "column_place" "column_place") (tN oE (tN (oT (ti 1291 [18,1,1,2])) (tL (fo (sb 119) "_law_breach" "_law_breach" nC (vr 1087))) .nil) (tL (oT (ti 1746 [8,8,8])))) (tN oE (tL (oT [vr 703])) (tL (oT (ti 1937 [24,1]++[vs "semantics" 1939])))))) (tN (oT [vs "Interface" 398,vi 512 399]) (tN (oT (tr [156,157,158,159])) (tN (fo (sb 80) "coded_pair" "coded_pair" nA (vr 287)) (tN (oT (ti 1166 [24,3,2,4])) (tL (oT (tr [1053,1055]))) .nil) (tL (oT (ti 1692 [6,7]++[vs "body" 1694])))) (tN oE (tL (oT (ti 1507 [2,3,1,2]))) (tL (oT (ti 1888 [24,1]++[vs "semantics" 1890]))))) (tN (cq "check_tables" "check_tables" 564 94 3 219 571) (tN oE (tL (oT (ti 1385 [35,1,5]))) (tL (oT (ti 1796 [8,12,8])))) (tN (oF (.type "getset_descriptor") [vs "__weakref__" 1005,vr 478,.builtin "ExceptionGroup.__weakref__",.none]) (tL (oT (ti 1604 [2,3]++[vs "iface" 1606]))) (tL (oT (tr [989,991]))))))) (tN (oT [vi 2 191,vi 1 189,vi 27 219]) (tN (oT [vs "Flags" 380,vi 1 310]) (tN (oT [vs "MinorVersion" 457,vi 1 310]) (tN (fz (sb 78) "rule_maps" "rule_maps") (tN (oT (ti 1105 [1,1,0,5])) (tL (oT (ti 2066 [3,2]))) .nil) (tL (oT (ti 1670 [6,8,0,9])))) (tN (oF (.none) []) (tL (oT (ti 1483 [18,1]++[.int (-1) 1486,vr 655]))) (tL (oT (ti 1866 [42,1,0,1]))))) (tN (oT [vi 23 213,vs "Name" 542]) (tN (cq "rule_names" "rule_names" 745 211 3 331 756) (tN (oT (ti 1341 [32,1,7])) (tL (co "law" "law" 2155 490 1 3 1101 true (vr 1103))) .nil) (tL (oT (ti 1767 [4,2,0,32790])))) (tN (oT [vs "self" 987,vs "value" 988,vs "place" 989]) (tL (oT (tr [717,719]))) (tL (oT (tr [974,975])))))) (tN (oT [vs "Name" 419,vi 4 316]) (tN (oT [vs "coded" 498,vs "table" 499,vs "row" 500,vs "pair" 501,vs "tag" 502,vs "named" 503]) (tN (oF (.none) []) (tN (oT (ti 1230 [2,2,3,13])) (tL (oT (ti 2112 [2,4,1,17]))) .nil) (tL (oT (ti 1716 [4,1]++[vs "constant" 1718])))) (tN (cq "association_type" "association_type" 925 335 3 427 933) (tL (oT (ti 1530 [1,2]++[vs "twice" 1532]))) (tL (oT (ti 1912 [20,1]++[vs "semantics" 1914]))))) (tN oE (tN (fz (sb 92) "root_row" "root_row") (tL (oT (ti 1426 [0,1]++[.int (-1) 1429,vr 623]))) (tL (oT (tr [877,879])))) (tN Lc (tL (oT [vr 751])) (tL (oT [vr 1007]))))))) (tN (oT [vs "self" 276,vs "code" 277,vs "at" 278]) (tN (co "BadImage" "BadImage" 294 43 0 0 38 false .none) (tN (oT (tr [69,70,71])) (tN (oT [vs "BuildNumber" 450,vi 1 310]) (tN oE (tN Lh (tL (oT (tr [1027,1031]))) .nil) (tL (oT (ti 1660 [6,1]++[vs "body" 1662])))) (tN oE (tL (oT [vr 647])) (tL (oT [vr 903])))) (tN (oT (tr [195,196,197,198,199])) (tN (fz (sb 86) "owner_row" "owner_row") (tN (oT (ti 1317 [2,3,1])) (tL (oT [vs "rows" 2146,vs "table" 2147,vs "row" 2148,vs "place" 2149,vs "value" 2150,vs "old" 2151])) .nil) (tL (oT (ti 1757 [4,2]++[vs "constant" 1759])))) (tN (oF (.none) []) (tL (oT (ti 1566 [6,2,3,6]))) (tL (oT (ti 1947 [24,1,2,5])))))) (tN (oT [vs "Value" 409,vi 5 318]) (tN (oF (.none) []) (tN oE (tN (oT (ti 1198 [42,1,2,1])) (tL (oT (tr [1062,1063]))) .nil) (tL (oT (ti 1702 [6,2,1,4098])))) (tN (fz (sb 100) "right_meaning" "right_meaning") (tL (oT [vr 679])) (tL (oT (ti 1898 [24,2,0,3]))))) (tN (fo (sb 72) "rows_of" "rows_of" nA (vr 231)) (tN (oF (.none) []) (tL (oT (ti 1407 [10,1,1]))) (tL (oT (tr [869,871])))) (tN (co "PlainTables" "PlainTables" 1012 382 0 0 486 false .none) (tL (oT (ti 1614 [2,2,3,0]))) (tL (oT (ti 1992 [25,1]++[.int (-1) 1995,vr 999]))))))) (tN (oT [vi 6 195,vi 10 201]) (tN (oT [vs "Signature" 388,vi 5 318]) (tN (oT (tr [143,144,145,146,147,148,149,150,151])) (tN (cq "rule_tags" "rule_tags" 648 153 2 275 658) (tN (oT (ti 1134 [9,1,0]++[vs "T" 1137])) (tL (oT [vr 1047])) .nil) (tL (oT [vr 791]))) (tN (oT [vs "ts" 891,vs "texts" 892,vs "told" 893,vs "counts" 894,vs "seen" 895,vs "number" 896,vs "row" 897,vs "due" 898,vs "key" 899]) (tL (oT (ti 1498 [21,2]++[vs "map" 1500]))) (tL (oT [vr 919])))) (tN (oT [vi 4 193,vi 6 195,vi 10 201,vi 17 205,vi 23 213,vi 27 219,vi 43 229]) (tN (fo (sb 88) "rule_twice" "rule_twice" nA (vr 343)) (tL (oT (ti 1363 [10,1,2]))) (tL (oT [vr 855]))) (tN oE (tL (oT (ti 1594 [0,13,0]))) (tL (oT [vr 983]))))) (tN (oT [vs "Type" 430,vi 5 318]) (tN oE (tN (oT [vs "ts" 706,vs "told" 707,vs "table" 708,vs "place" 709,vs "other" 710,vs "rows" 711,vs "last" 712,vs "number" 713,vs "row" 714,vs "n" 715]) (tN (oT (ti 1259 [2,1,5,0])) (tL (co "_law_sound" "_law_sound" 2117 409 2 3 1077 true (vr 1079))) .nil) (tL (oT (tr [822,823])))) (tN (fo (sb 102) "rule_impls" "rule_impls" nA (vr 439)) (tL (oT (ti 1541 [4,3,1,4]))) (tL (oT (tr [948,951]))))) (tN (oF (.none) []) (tN (cq "rule_base" "rule_base" 824 269 3 371 833) (tL (oT [vr 631])) (tL (oT (ti 1831 [8,2]++[vs "param" 1833])))) (tN oE (tL (oT [vr 759])) (tL (oT (tr [1012,1015]))))))))) (tN (gu 138) (tN (co "RuneError" "RuneError" 263 38 0 0 18 false .none) (tN (oF (.type "builtin_function_or_method") [.builtin "type.__prepare__",.type "type"]) (tN (oT (tr [63,64,65,66,67])) (tN (⟨.type "dict",none,.dict #[⟨32,vi 32 221,vr 142⟩,⟨35,vi 35 223,vr 152⟩,⟨41,vi 41 225,vr 155⟩,⟨42,vi 42 227,vr 160⟩,⟨43,vi 43 229,vr 163⟩,⟨44,vi 44 231,vr 166⟩] 6,#[]⟩) (tN (fo (sb 76) "right_place" "right_place" nA (vr 259)) (tN (cq "count" "PlainTables.count" 1047 396 2 511 1052) (tL (oT (ti 2041 [41,1]++[vs "nested" 2043]))) .nil) (tL (oT [vr 771]))) (tN oE (tL (oT (tr [641,643]))) (tL (oT (tr [897,899]))))) (tN (oT [vi 2 191,vi 5 530,vi 6 195]) (tN oE (tN (oT (tr [567,568,569,570,571,572,573,574,575,576,577,578,579])) (tL (co "_law_nameless" "_law_nameless" 2137 463 2 3 1089 true (vr 1091))) .nil) (tL (oT [vr 835]))) (tN (oF (.none) [vi 368 0,vi 4 0,vr 460,vi 371 0,vi 4 0,vr 467,vi 378 0,vi 4 0,vr 474]) (tL (oT (tr [706,707]))) (tL (oT [vr 963]))))) (tN (oT [vs "Signature" 404,vi 5 318]) (tN (oT [vs "Owner" 477,vi 298 478]) (tN oE (tN (oT (ti 1182 [25,1,2,5])) (tL oE) .nil) (tL (oT [vr 803]))) (tN oE (tL (oT (tr [673,675]))) (tL (oT [vr 931])))) (tN (oT [vs "ts" 577,vs "table" 578]) (tN (fz (sb 90) "is_interface" "is_interface") (tL (oT (ti 1395 [1,2,1]))) (tL (oT (tr [866,867])))) (tN (oF (.type "builtin_function_or_method") [.builtin "type.__prepare__",.type "type"]) (tL (oT [vr 739])) (tL (oT (ti 1989 [25,2]++[vs "impl" 1991]))))))) (tN (oT [vi 2 191,vi 1 189,.int (-1) 344,vi 6 195,vi 27 219]) (tN (oT [vs "RVA" 384,vi 2 312]) (tN (oT [vs "PublicKeyOrToken" 461,vi 5 318]) (tN (oF (.none) []) (tN (oT (ti 1121 [9,1,1,7])) (tL (oT (ti 2071 [41,3]++[vs "nested" 2073]))) .nil) (tL (oT (tr [785,787])))) (tN (cq "rule_params" "rule_params" 874 297 2 399 885) (tL (oT (tr [657,659]))) (tL (oT (tr [913,915]))))) (tN (oT (tr [201,202,203,204,205,206,207,208,209,210,211])) (tN (oT [vs "ts" 762,vs "texts" 763,vs "blobs" 764,vs "told" 765,vs "enclosed" 766,vs "row" 767,vs "seen" 768,vs "number" 769,vs "key" 770]) (tL (oT (ti 1353 [42,3,3]))) (tL (oT (tr [849,851])))) (tN (fo (eB (cM (sb 105)) 1) "put" "PlainHeap.put" nB (vr 467)) (tL (oT (ti 1584 [20,2]++[vs "twice" 1586]))) (tL (oT (ti 1965 [25,1]++[vs "impl" 1967])))))) (tN (oT [vs "PropertyList" 425,vi 279 426]) (tN (fo (sb 58) "make_coded" "make_coded" (vs "framerune.schema" 308) (vr 179)) (tN (cq "names_row" "names_row" 692 179 4 303 700) (tN (oT (ti 1246 [20,1,2,13])) (tL (oT (tr [628,633,639,644,649,654,660,666,671,676,681,685,690,695,700,705,711,715,720,727,733,738,743,748,753,758,763,768,773,778,783,788,793,797,802,807,812,819,825,831,837,842,847,852,857,862,868,875,880,885,890,895,900,905,911,916,921,925,930,935,940,946,952,957,962,967,971,977,982,987,992,998,1003,1009,1016,1022,1032,1037,1046,1051,1056,1061,1066,1071,1075]))) .nil) (tL (oT (ti 1722 [11,1,1,5])))) (tN (oT [vs "ts" 939,vs "told" 940,vs "seen" 941,vs "number" 942,vs "row" 943,vs "table" 944,vs "n" 945]) (tL (oT (ti 1537 [1,2,2,19]))) (tL (oT [vr 947])))) (tN (fz (sb 74) "table_blob" "table_blob") (tN (oF (.none) []) (tL (oT (tr [625,627]))) (tL (oT [vr 883]))) (tN oE (tL (oT (ti 1632 [2,3]++[vs "base" 1634]))) (tL (oT [vr 1011]))))))) (tN K6 (tN O6 (tN (oT [vs "Extends" 373,vi 512 374]) (tN (oT [vs "Name" 454,vi 4 316]) (tN oE (tN (oF (.type "builtin_function_or_method") [.builtin "object.__init_subclass__",vr 520]) (tL oE) .nil) (tL (oT [vr 779]))) (tN (fz (sb 96) "rule_constants" "rule_constants") (tL (oT (ti 1480 [2,1]++[vs "module" 1482]))) (tL (oT (ti 1860 [42,2]++[vs "number" 1862]))))) (tN (oT [vi 4 193,vs "Name" 538]) (tN (oF (.none) []) (tN (oT (ti 1329 [8,2,2])) (tL (fo (sb 121) "_law_edit" "_law_edit" nC (vr 1099))) .nil) (tL (oT [vr 843]))) (tN (cq "__init__" "PlainHeap.__init__" 976 368 2 455 981) (tL (oT (ti 1570 [23,2,2,6]))) (tL (oT (ti 1951 [18,1,0,4])))))) (tN (oT [vs "Parent" 413,vi 258 414]) (tN (cq "need_row" "need_row" 488 63 1 167 492) (tN (fz (sb 82) "rule_parents" "rule_parents") (tN (oT (ti 1214 [10,1,0,25])) (tL (oT (ti 2105 [24,1]++[.int (-1) 2108,vr 1067]))) .nil) (tL (oT (tr [809,811])))) (tN (oF (.none) []) (tL oE) (tL (oT (tr [937,939]))))) (tN oE (tN (cq "rule_iface" "rule_iface" 805 251 2 359 815) (tL (oT (ti 1419 [35,1,6]))) (tL (oT (ti 1813 [8,2,1,0])))) (tN (oT [vs "self" 1025]) (tL (oT (tr [745,747]))) (tL (oT (ti 2003 [4,3]))))))) (tN (oT [vi 2 191,vi 6 195]) (tN (oT [vs "Sequence" 393,vi 1 310]) (tN (oT [vs "Number" 469,vi 1 310]) (tN (oT [vs "sort" 664,vs "n" 665]) (tN (oT (ti 1150 [21,1,0,0])) (tL (oT (ti 2082 [21,1]++[.int (-2) 2085,vi 0 2086]))) .nil) (tL oE)) (tN (fo (sb 98) "rule_generics" "rule_generics" nA (vr 411)) (tL (oT (ti 1501 [18,1]++[.int (-1) 1504,vr 667]))) (tL oE))) (tN (oF (.none) []) (tN oE (tL (oT (ti 1375 [43,1,1]))) (tL (oT (ti 1785 [4,3]++[vs "constant" 1787])))) (tN (oT [vs "rows" 1001]) (tL (oT [vr 731])) (tL (oT (ti 1975 [25,1,0,4])))))) (tN (oT [vs "Association" 435,vi 515 436]) (tN oE (tN (fo (sb 84) "rule_lists" "rule_lists" nA (vr 315)) (tN (oT [vi 2 1275,vs "T" 1276,vi 5 1277,vs "M" 1278]) (tL (oT [vs "way" 2126,vs "x" 2127,vs "y" 2128,vs "rows" 2129,vs "edit" 2130,vs "row" 2131,vs "value" 2132,vs "spots" 2133])) .nil) (tL (oT (ti 1736 [11,1]++[vs "constant" 1738])))) (tN oE (tL (oT (tr [697,699]))) (tL (oT [vr 955])))) (tN (cq "rule_heaps" "rule_heaps" 598 123 4 247 610) (tN (oT [vs "ts" 839,vs "texts" 840,vs "blobs" 841,vs "told" 842,vs "number" 843,vs "row" 844]) (tL (oT [vr 635])) (tL (oT (ti 1838 [8,6,1,9])))) (tN (fz (eB (cM (sb 106)) 2) "get" "PlainTables.get") (tL (oT (ti 1642 [6,5,4,4]))) (tL (oT (ti 2026 [41,2]++[vs "nested" 2028])))))))))) (tN (boot_o_6 P) (tN (boot_o_10 P) (tN oE (tN (oF (.type "builtin_function_or_method") [.builtin "object.__init_subclass__",vr 31]) (tN (oT [vs "EncId" 362,vi 6 320]) (tN (oT [vs "Signature" 445,vi 5 318]) (tN (fz (sb 76) "right_place" "right_place") (tN oE (tL (oT (ti 2035 [41,1]++[.int (-1) 2038,vr 1025]))) .nil) (tL (oT [vr 769]))) (tN (oF (.none) []) (tL (oT (ti 1466 [2,1]++[vs "module" 1468]))) (tL (oT (ti 1846 [42,3]++[vs "number" 1848]))))) (tN (fo (sb 60) "column_place" "column_place" (vs "framerune.schema" 308) (vr 193)) (tN (cq "list_range" "list_range" 719 200 5 317 728) (tN (oT (ti 1299 [21,1,1,0])) (tL (oF (.none) [])) .nil) (tL (oT [vr 833]))) (tN (⟨.type "dict",none,.dict #[de P "__module__" 971 nB,de P "__qualname__" 973 (vs "PlainHeap" 972),de P "__firstlineno__" 975 (vi 366 974),de P "__init__" 983 (vr 461),de P "put" 992 (vr 468),de P "get" 1000 (vr 475),de P "__static_attributes__" 1002 (vr 476)] 7,#[]⟩) (tL (oT (ti 1555 [6,2,3,6]))) (tL (oT (tr [959,961])))))) (tN (oT [vs "Class" 401,vi 514 402]) (tN (oT [vs "Instantiation" 476,vi 5 318]) (tN (oF (.none) []) (tN (oT (ti 1174 [25,1,0]++[vs "T" 1177])) (tL (oT (ti 2090 [25,1]++[.int (-1) 2093,vr 1057]))) .nil) (tL (oT (tr [799,801])))) (tN (cq "rule_semantics" "rule_semantics" 903 318 2 413 914) (tL (oT (ti 1511 [2,3]++[vs "twice" 1513]))) (tL (oT (tr [927,929]))))) (tN oE (tN (oT [vs "row" 801]) (tL (oT (tr [606,607,608,609]))) (tL (oT (tr [863,865])))) (tN (oF (.type "builtin_function_or_method") [.builtin "object.__init_subclass__",vr 478]) (tL (oT (tr [735,737]))) (tL (oT (ti 1982 [25,1]++[.int (-1) 1985,vr 993]))))))) (tN (oT [vi 4 193,vi 8 197,vi 23 213]) (tN (oT [vs "Signature" 382,vi 5 318]) (tN (oT [vs "RevisionNumber" 459,vi 1 310]) (tN (fo (sb 78) "rule_maps" "rule_maps" nA (vr 273)) (tN (oT (ti 1113 [10,1,0,10])) (tL (oT (tr [1039,1041]))) .nil) (tL (oT (ti 1674 [6,8]++[vs "body" 1676])))) (tN oE (tL (oT (ti 1489 [18,2]++[vs "map" 1491]))) (tL (oT (ti 1870 [42,1]++[vs "number" 1872]))))) (tN (oT [vi 35 223,vs "Name" 544]) (tN oE (tL (oT (ti 1347 [35,1,6]))) (tL (oT (ti 1771 [11,1]++[vs "constant" 1773])))) (tN (fz (eB (cM (sb 105)) 1) "put" "PlainHeap.put") (tL (oT (ti 1577 [20,1]++[.int (-1) 1580,vr 721]))) (tL (oT (ti 1961 [25,1,1,3])))))) (tN (oT (tr [111,112,113])) (tN (fz (sb 58) "make_coded" "make_coded") (tN oE (tN (oT (ti 1238 [11,1,1,0])) (tL oE) .nil) (tL (oT (tr [815,816,817])))) (tN oE (tL (oT (tr [687,689]))) (tL (oT (tr [942,945]))))) (tN (oT [vs "blobs" 593,vs "offset" 594]) (tN (fo (sb 92) "root_row" "root_row" nA (vr 369)) (tL (oT (ti 1435 [0,2]++[vs "single" 1437]))) (tL (oT [vr 881]))) (tN (oF (.none) []) (tL (oT (ti 1628 [2,3,0,129]))) (tL (oT (ti 2012 [2,4])))))))) (tN (fz (eB (cM (sb 37)) 0) "__init__" "RuneError.__init__") (tN oE (tN (oT [vs "TypeName" 371,vi 4 316]) (tN (oT [vs "Flags" 452,vi 2 312]) (tN (cq "rule_single" "rule_single" 625 139 3 261 633) (tN (oF (.type "getset_descriptor") [vs "__weakref__" 1059,vr 520,.builtin "ExceptionGroup.__weakref__",.none]) (tL (oT (ti 2050 [41,1]++[.int (-1) 2053,vr 1033]))) .nil) (tL (oT (tr [775,777])))) (tN (oT [vs "ts" 862,vs "told" 863,vs "seen" 864,vs "number" 865,vs "row" 866,vs "table" 867,vs "n" 868,vs "given" 869,vs "unfit" 870]) (tL (oT (ti 1476 [2,1,3,5]))) (tL (oT (ti 1856 [42,2,0,1]))))) (tN (oT [vi 1 189,vs "TypeName" 536]) (tN (fo (sb 86) "owner_row" "owner_row" nA (vr 329)) (tN (oT (ti 1323 [4,3,1])) (tL (fz (sb 121) "_law_edit" "_law_edit")) .nil) (tL (oT (tr [839,841])))) (tN oE (tL oE) (tL oE)))) (tN (oT [vs "Signature" 411,vi 5 318]) (tN oE (tN (oT [vs "ts" 681,vs "told" 682,vs "table" 683,vs "place" 684,vs "column" 685,vs "may_none" 686,vs "number" 687,vs "row" 688]) (tN (oT (ti 1206 [44,1,0,4])) (tL (oT (tr [1064,1065]))) .nil) (tL (oT (ti 1706 [6,2]++[vs "body" 1708])))) (tN (fo (sb 100) "right_meaning" "right_meaning" nA (vr 425)) (tL (oT (ti 1522 [41,1,1,3]))) (tL (oT (ti 1902 [24,2]++[vs "semantics" 1904]))))) (tN (oF (.none) []) (tN oE (tL (oT (ti 1413 [23,1,1]))) (tL (oT [vr 873]))) (tN oE (tL (oT (ti 1618 [2,2]++[vs "base" 1620]))) (tL oE))))) (tN (oT [vi 0 187,.int (-1) 349,vi 35 223,vi 1 189]) (tN (oT (tr [84,85,86,87,88,89])) (tN (oT [vs "EnclosingClass" 467,vi 258 468]) (tN oE (tN (oT (ti 1142 [9,1,1,0])) (tL (oT [vr 1049])) .nil) (tL (oT (ti 1684 [6,8,1,4097])))) (tN (fz (sb 98) "rule_generics" "rule_generics") (tL (oT (tr [663,665]))) (tL (oT (ti 1880 [42,3,2,6]))))) (tN (oT (ti 561 [0,0]++[vi 1 235])) (tN (oF (.none) []) (tL (oT (ti 1369 [23,1,2]))) (tL (oT (ti 1781 [4,3,0,86])))) (tN (cq "get" "PlainHeap.get" 993 378 2 469 998) (tL (oT [vr 729])) (tL (oT [vr 985]))))) (tN (oT [vs "Semantics" 432,vi 1 310]) (tN (cq "split_coded" "split_coded" 507 73 2 181 514) (tN (fz (sb 84) "rule_lists" "rule_lists") (tN (oT (ti 1267 [2,4,5,6])) (tL oE) .nil) (tL (oT (ti 1732 [11,1,1,6])))) (tN (oF (.none) []) (tL (oT (ti 1545 [4,3]++[vs "twice" 1547]))) (tL (oT [vr 953])))) (tN oE (tN oE (tL (oT (ti 1450 [0,0,0,0,0,0,0,2,0]))) (tL (oT (tr [887,889])))) (tN (oT [vs "self" 1041,vs "table" 1042,vs "n" 1043]) (tL (oT [vr 761])) (tL (oT (ti 2020 [41,1]++[.int (-1) 2023,vr 1017]))))))))) (tN (⟨.type "frame",none,.plain,#[some (vr 13),some (vr 3),some (vr 3),none,some (vs "__main__" 164),none,some (vr 0)]⟩) (tN oE (tN oE (tN (oT [vs "TypeName" 367,vi 4 316]) (tN (oT [vs "MajorVersion" 448,vi 1 310]) (tN (oF (.none) []) (tN (oT [vs "rows" 1055]) (tL (oT (ti 2047 [41,3]++[vs "nested" 2049]))) .nil) (tL (oT (ti 1656 [6,1,0,0])))) (tN (cq "rule_bodies" "rule_bodies" 848 280 2 385 856) (tL (oT [vr 645])) (tL (oT [vr 901])))) (tN (oT [vi 18 207,vi 1 532,vi 20 209]) (tN (oT [vs "ts" 734,vs "table" 735,vs "place" 736,vs "other" 737,vs "n" 738,vs "number" 739,vs "first" 740,vs "end" 741]) (tN (oT (ti 1311 [1,2,1])) (tL oE) .nil) (tL (oT (ti 1752 [11,1]++[.int (-2) 1755,vi 0 1756])))) (tN (⟨.type "frame",none,.plain,#[some (vr 453),some (vr 3),some (vr 450),none,some nB,none,some (vr 0)]⟩) (tL (oT [vr 709])) (tL (oT [vr 965]))))) (tN (oT [vs "Type" 406,vi 3 314]) (tN (oT (tr [164,165])) (tN (cq "is_list_column" "is_list_column" 669 165 2 289 675) (tN (oT (ti 1190 [41,1,0,0])) (tL (oT (ti 2097 [1,2,1,17]))) .nil) (tL (oT [vr 805]))) (tN (oT [vs "meaning" 920,vs "table" 921]) (tL (oT [vr 677])) (tL (oT [vr 933])))) (tN (fz (sb 72) "rows_of" "rows_of") (tN (fo (sb 90) "is_interface" "is_interface" nA (vr 357)) (tL (oT (ti 1401 [4,3,1]))) (tL (oT (ti 1807 [8,12,8])))) (tN oE (tL (oT [vr 741])) (tL (oT (tr [995,997]))))))) (tN (oT [vi 20 209,vi 23 213]) (tN (oT [vs "Flags" 386,vi 1 310]) (tN (oT [vs "Culture" 463,vi 4 316]) (tN oE (tN (oT (ti 1129 [20,1,2,11])) (tL (oT (tr [1042,1045]))) .nil) (tL (oT [vr 789]))) (tN oE (tL (oT (ti 1492 [21,1]++[.int (-1) 1495,vr 661]))) (tL (oT [vr 917])))) (tN (oT [vi 20 209,vs "EventType" 548]) (tN (fz (sb 88) "rule_twice" "rule_twice") (tL (oT (ti 1357 [4,1,2]))) (tL (oT [vr 853]))) (tN (oF (.none) []) (tL (oT (tr [724,725]))) (tL (oT (tr [979,981])))))) (tN (oT [vs "Flags" 428,vi 1 310]) (tN (oF (.none) []) (tN oE (tN (oT (tr [536,537,538,539,540,541,542,543,544,545,546,547,548,549,550,551,552,553,554,555,556,557,558,559,560,561,562,563,564,565])) (tL (oF (.none) [])) .nil) (tL (oT (ti 1726 [11,1]++[vs "constant" 1728])))) (tN (fz (sb 102) "rule_impls" "rule_impls") (tL oE) (tL (oT (ti 1922 [20,1]++[vs "semantics" 1924]))))) (tN (fo (sb 74) "table_blob" "table_blob" nA (vr 245)) (tN oE (tL (oT [vr 629])) (tL (oT (ti 1827 [8,1,1,3])))) (tN (cq "add" "PlainTables.add" 1029 387 3 497 1035) (tL (oT (tr [755,757]))) (tL (oT (ti 2017 [41,2]++[vs "nested" 2019])))))))) (tN (⟨.type "dict",none,.dict #[de P "__module__" 268 (vs "framerune.faults" 259),de P "__firstlineno__" 272 (vi 38 271),de P "__init__" 281 (vr 28),de P "__static_attributes__" 284 (vr 29),de P "__weakref__" 286 (vr 32),de P "__doc__" 287 (.none)] 3,#[]⟩) (tN (oF (.type "builtin_function_or_method") [.builtin "object.__init_subclass__",vr 44]) (tN (oT [vs "MethodList" 377,vi 262 378]) (tN (oT (tr [133,134,135,136,137,138,139,140,141])) (tN (oT [vs "ts" 639,vs "told" 640,vs "table" 641,vs "seen" 642,vs "number" 643,vs "row" 644]) (tN (oT [.bytes #[] 1091,.bytes #[6,8] 1092,.bytes #[6,2] 1093,.bytes #[0,0,1] 1094,.bytes #[32,0,1] 1095,.bytes #[32,0,8] 1096,.bytes #[40,0,8] 1097,.bytes #[40,0,2] 1098,.bytes #[1] 1099]) (tL (oT (ti 2060 [2,3]))) .nil) (tL (oT [vr 781]))) (tN (fo (sb 96) "rule_constants" "rule_constants" nA (vr 397)) (tL (oT (tr [651,653]))) (tL (oT (tr [908,909]))))) (tN (oT [vi 10 201,vs "Name" 540]) (tN oE (tN (oT (ti 1335 [20,1,1])) (tL (oF (.none) [])) .nil) (tL (oT [vr 845]))) (tN oE (tL (oT (ti 1574 [23,2]++[vs "twice" 1576]))) (tL (oT (ti 1955 [24,3]++[vs "semantics" 1957])))))) (tN (oT (tr [108,109])) (tN oE (tN (fo (sb 82) "rule_parents" "rule_parents" nA (vr 301)) (tN (oT (ti 1222 [1,1,0,10])) (tL oE) .nil) (tL (oT [vr 813]))) (tN oE (tL (oT (ti 1526 [1,2,1,17]))) (tL (oT [vr 941])))) (tN (cq "table_text" "table_text" 582 119 2 233 587) (tN oE (tL (oT (tr [611,612,613,614,615,616,617,618,619,620,621]))) (tL (oT (ti 1817 [8,2]++[vs "param" 1819])))) (tN (fz (eB (cM (sb 106)) 0) "__init__" "PlainTables.__init__") (tL (oT [vr 749])) (tL (oT [vr 1005])))))) (tN (⟨.type "dict",none,.dict #[⟨0,vi 0 187,vr 68⟩,⟨1,vi 1 189,vr 72⟩,⟨2,vi 2 191,vr 79⟩,⟨4,vi 4 193,vr 83⟩,⟨6,vi 6 195,vr 90⟩,⟨8,vi 8 197,vr 94⟩,⟨9,vi 9 199,vr 97⟩,⟨10,vi 10 201,vr 101⟩,⟨11,vi 11 203,vr 105⟩,⟨17,vi 17 205,vr 107⟩,⟨18,vi 18 207,vr 110⟩,⟨20,vi 20 209,vr 114⟩,⟨21,vi 21 211,vr 117⟩,⟨23,vi 23 213,vr 121⟩,⟨24,vi 24 215,vr 125⟩,⟨25,vi 25 217,vr 129⟩,⟨27,vi 27 219,vr 131⟩,⟨32,vi 32 221,vr 142⟩,⟨35,vi 35 223,vr 152⟩,⟨41,vi 41 225,vr 155⟩,⟨42,vi 42 227,vr 160⟩,⟨43,vi 43 229,vr 163⟩,⟨44,vi 44 231,vr 166⟩] 23,#[]⟩) (tN (oT (tr [91,92,93])) (tN (oT [vs "Owner" 471,vi 518 472]) (tN (fz (sb 80) "coded_pair" "coded_pair") (tN (oT (ti 1158 [24,1,1,0])) (tL (oT (ti 2087 [23,1]++[vs "list" 2089]))) .nil) (tL (oT (ti 1688 [6,7,2,70])))) (tN (oF (.none) []) (tL oE) (tL (oT (ti 1884 [24,1,0,8]))))) (tN oE (tN (cq "twice_members" "twice_members" 774 237 7 345 795) (tL (oT (ti 1379 [11,1,2]))) (tL (oT (tr [859,861])))) (tN Lb (tL (oT (ti 1600 [2,3,3,5]))) (tL (oT (ti 1979 [25,1]++[vs "impl" 1981])))))) (tN (oT [vs "Class" 438,vi 258 439]) (tN (oT [vs "table" 520,vs "name" 521,vs "place" 522,vs "column" 523]) (tN (oF (.none) []) (tN (oT (ti 1283 [6,6,5,4])) (tL (fz (sb 119) "_law_breach" "_law_breach")) .nil) (tL (oT (tr [828,829])))) (tN (cq "rule_nested" "rule_nested" 949 350 2 441 959) (tL (oT [vr 701])) (tL (oT (ti 1933 [24,1,1,8]))))) (tN oE (tN (fz (sb 94) "rule_cctor" "rule_cctor") (tL (oT [vr 637])) (tL oE)) (tN Le (tL (oT (ti 1646 [6,5]++[vs "cctor" 1648]))) (tL (oT (tr [1019,1021])))))))))))
noncomputable def Bn(n:Nat):BT->Nat->Nat->BT
 |.nil,_,_=>.nil
 |.node v l r,o,s=>match Nat.blt o n with
  |true=>.node v (Bn n l (o+s) (2*s)) (Bn n r (o+2*s) (2*s))
  |false=>.nil
noncomputable def kP(P:Params)(n:Nat)(g c:Obj):BT:=((Bn n (hT P) 0 1).set 3 λO=>g).set 12 λO=>c
noncomputable def t4(P:Params):BT:=((Bn 15 (hT P) 0 1).set 2 λO=>boot_o_2 P).set 3 (λO=>boot_o_3 P) |>.set 12 λO=>gu 0
noncomputable def t5(P:Params):BT:=(kP P 15 (gR P 44 (vs "framerune.faults" 259) 45) (gu 0)).set 2 λO=>boot_o_2 P
noncomputable def O7(P:Params):BT:=(kP P 35 (gR P 45 (vs "framerune.faults" 259) 46) (gu 3)).set 31 λO=>QF
noncomputable def Dr(P:Params):BT:=kP P 47 (gR P 61 (vs "framerune.schema" 308) 62) (gu 6)
noncomputable def uc(P:Params):BT:=kP P 62 (gR P 62 (vs "framerune.schema" 308) 63) (gu 6)
noncomputable def w7(P:Params):BT:=kP P 167 (gR P 63 (vs "framerune.schema" 308) 64) (gu 6)
noncomputable def Li(P:Params):BT:=kP P 226 (gR P 77 nA 78) (gu 21)
noncomputable def Lj(P:Params):BT:=kP P 310 (gR P 89 nA 90) (gu 57)
noncomputable def Ll(P:Params):BT:=kP P 385 (gR P 100 nA 101) (gu 90)
noncomputable def Lm(P:Params):BT:=kP P 448 (gR P 109 nB 110) (gu 117)
noncomputable def Ln(P:Params):BT:=kP P 483 (gR P 110 nB 111) (gu 120)
noncomputable def Lo(P:Params):BT:=kP P 527 (gR P 113 nC 114) (gu 123)
noncomputable def Lp(P:Params):BT:=kP P 581 (gR P 116 nC 117) (gu 123)
noncomputable def Lq(P:Params):BT:=kP P 623 (gR P 120 nC 121) (gu 123)
noncomputable def GZ(P:Params):BT:=kP P 1077 (gR P 121 nC 122) (gu 123)
end FR
end
section
set_option backward.match.sparseCases true
set_option maxRecDepth 100000
set_option maxHeartbeats 0
open PySem PySem.W PyProof.Rows
namespace FR
noncomputable abbrev L0:Life:=Life.mk [] [] [] 0 [] [] Bool.false #[] [] 0 Bool.false Bool.false Bool.false 0 [2000,10,10] Bool.false 0 Bool.true [] [] 0 Bool.false
noncomputable def gS:Env:={scope:=pw.main.scope,locals:=mainNs,globals:=mainNs,cells:=[],code:=.ref 13,frame:=some 14}
noncomputable abbrev d0(b:List Stmt):Code:=.body b gS
noncomputable abbrev cz(t:Params->BT)(n k:Nat)(w:World)(os:OsState):SharedT:=⟨t w.params,n,L0,#[],⟨0,0,0,0⟩,k,os⟩
noncomputable abbrev F0:List Frame:=[topFrame p0]
noncomputable abbrev dm(i j:Nat):List Stmt:=(pw.main.body.drop i).take j
noncomputable abbrev fK(i j:Nat)(b:List Stmt)(p:Pos):Thread:=piecesOf (dm i j) gS (d0 b) p F0
noncomputable abbrev fM:=Fast.tw10110043849684766642 Fast.tw14364793385576792824
theorem Oc:segRunT treeTable=fM:=congr Fast.te10110043849684766642 Fast.te14364793385576792824
theorem O8(r:String){P:World->Prop}(h:∀(w:World) (f:Bool),P (w.withFollow r f))(w:World):P w:=by
 have e:w=w.withFollow r (w.params.followText r):=by
  cases w with | mk d q=>cases q;simp only [World.withFollow];congr;funext x;split<;>simp_all
 rw[e];exact h w _
theorem Sz(w:World)(p:Program)(b:List Stmt)(os:OsState):fM p w 11 (some (.ref 6)) 1 334 (cz t4 15 187 w os) (fK 0 37 b ⟨0,0,0,0⟩)=some (.next,cz t5 15 261 w os,d0 b,⟨37,0,37,8⟩):=by kernel_rfl
theorem SA(w:World)(p:Program)(b:List Stmt)(os:OsState):fM p w 11 (some (.ref 6)) 1 231 (cz t5 15 261 w os) (fK 37 1 b ⟨37,0,37,8⟩)=some (.next,cz O7 35 292 w os,d0 b,⟨38,0,42,20⟩):=by kernel_rfl
theorem SD(w:World)(p:Program)(b:List Stmt)(os:OsState):fM p w 11 (some (.ref 6)) 1 358 (cz O7 35 292 w os) (fK 38 17 b ⟨38,0,42,20⟩)=some (.next,cz Dr 47 340 w os,d0 b,⟨60,0,60,18⟩):=by kernel_rfl
theorem QG(w:World)(p:Program)(b:List Stmt)(os:OsState):fM p (w.withFollow "special-get-raises" false) 11 (some (.ref 6)) 1 187 (cz Dr 47 340 (w.withFollow "special-get-raises" false) os) (fK 55 1 b ⟨60,0,60,18⟩)=some (.next,cz uc 62 359 (w.withFollow "special-get-raises" false) os,d0 b,⟨61,0,61,5⟩):=by kernel_rfl
theorem QH(w:World)(p:Program)(b:List Stmt)(os:OsState):fM p (w.withFollow "special-get-raises" true) 11 (some (.ref 6)) 1 187 (cz Dr 47 340 (w.withFollow "special-get-raises" true) os) (fK 55 1 b ⟨60,0,60,18⟩)=some (.next,cz uc 62 359 (w.withFollow "special-get-raises" true) os,d0 b,⟨61,0,61,5⟩):=by kernel_rfl
theorem SE(w:World):∀(p:Program)(b:List Stmt)(os:OsState),fM p w 11 (some (.ref 6)) 1 187 (cz Dr 47 340 w os) (fK 55 1 b ⟨60,0,60,18⟩)=some (.next,cz uc 62 359 w os,d0 b,⟨61,0,61,5⟩):=O8 "special-get-raises" (P:=λw=>∀(p:Program) (b:List Stmt) (os:OsState),fM p w 11 (some (.ref 6)) 1 187 (cz Dr 47 340 w os) (fK 55 1 b ⟨60,0,60,18⟩)=some (.next,cz uc 62 359 w os,d0 b,⟨61,0,61,5⟩)) (λw f=>match f with | false=>QG w | true=>QH w) w
theorem QI(w:World)(p:Program)(b:List Stmt)(os:OsState):fM p (w.withFollow "special-get-raises" false) 11 (some (.ref 6)) 1 974 (cz uc 62 359 (w.withFollow "special-get-raises" false) os) (fK 56 1 b ⟨61,0,61,5⟩)=some (.next,cz w7 167 488 (w.withFollow "special-get-raises" false) os,d0 b,⟨62,0,62,7⟩):=by kernel_rfl
theorem QJ(w:World)(p:Program)(b:List Stmt)(os:OsState):fM p (w.withFollow "special-get-raises" true) 11 (some (.ref 6)) 1 974 (cz uc 62 359 (w.withFollow "special-get-raises" true) os) (fK 56 1 b ⟨61,0,61,5⟩)=some (.next,cz w7 167 488 (w.withFollow "special-get-raises" true) os,d0 b,⟨62,0,62,7⟩):=by kernel_rfl
theorem SG(w:World):∀(p:Program)(b:List Stmt)(os:OsState),fM p w 11 (some (.ref 6)) 1 974 (cz uc 62 359 w os) (fK 56 1 b ⟨61,0,61,5⟩)=some (.next,cz w7 167 488 w os,d0 b,⟨62,0,62,7⟩):=O8 "special-get-raises" (P:=λw=>∀(p:Program) (b:List Stmt) (os:OsState),fM p w 11 (some (.ref 6)) 1 974 (cz uc 62 359 w os) (fK 56 1 b ⟨61,0,61,5⟩)=some (.next,cz w7 167 488 w os,d0 b,⟨62,0,62,7⟩)) (λw f=>match f with | false=>QI w | true=>QJ w) w
theorem SH(w:World)(p:Program)(b:List Stmt)(os:OsState):fM p w 11 (some (.ref 6)) 1 377 (cz w7 167 488 w os) (fK 57 15 b ⟨62,0,62,7⟩)=some (.next,cz Li 226 574 w os,d0 b,⟨94,0,116,15⟩):=by kernel_rfl
theorem SI(w:World)(p:Program)(b:List Stmt)(os:OsState):fM p w 11 (some (.ref 6)) 1 394 (cz Li 226 574 w os) (fK 72 12 b ⟨94,0,116,15⟩)=some (.next,cz Lj 310 703 w os,d0 b,⟨179,0,187,56⟩):=by kernel_rfl
theorem SJ(w:World)(p:Program)(b:List Stmt)(os:OsState):fM p w 11 (some (.ref 6)) 1 386 (cz Lj 310 703 w os) (fK 84 11 b ⟨179,0,187,56⟩)=some (.next,cz Ll 385 848 w os,d0 b,⟨275,0,279,64⟩):=by kernel_rfl
theorem SK(w:World)(p:Program)(b:List Stmt)(os:OsState):fM p w 11 (some (.ref 6)) 1 322 (cz Ll 385 848 w os) (fK 95 10 b ⟨275,0,279,64⟩)=some (.next,cz Lm 448 964 w os,d0 b,⟨365,0,365,8⟩):=by kernel_rfl
theorem SM(w:World)(p:Program)(b:List Stmt)(os:OsState):fM p w 11 (some (.ref 6)) 1 288 (cz Lm 448 964 w os) (fK 105 1 b ⟨365,0,365,8⟩)=some (.next,cz Ln 483 1010 w os,d0 b,⟨366,0,381,31⟩):=by kernel_rfl
theorem QK(w:World)(p:Program)(b:List Stmt)(os:OsState):fM p w 11 (some (.ref 6)) 1 382 (cz Ln 483 1010 w os) (fK 106 4 b ⟨366,0,381,31⟩)=some (.next,cz Lo 527 1101 w os,d0 b,⟨400,0,400,10⟩):=by kernel_rfl
theorem QL(w:World)(p:Program)(b:List Stmt)(os:OsState):fM p w 11 (some (.ref 6)) 1 337 (cz Lo 527 1101 w os) (fK 110 3 b ⟨400,0,400,10⟩)=some (.next,cz Lp 581 1308 w os,d0 b,⟨403,0,403,10⟩):=by kernel_rfl
theorem QM(w:World)(p:Program)(b:List Stmt)(os:OsState):fM p w 11 (some (.ref 6)) 1 231 (cz Lp 581 1308 w os) (fK 113 4 b ⟨403,0,403,10⟩)=some (.next,cz Lq 623 1426 w os,d0 b,⟨407,0,407,13⟩):=by kernel_rfl
theorem QN(w:World)(p:Program)(b:List Stmt)(os:OsState):fM p w 11 (some (.ref 6)) 1 149 (cz GZ 1077 2117 w os) (fK 118 5 b ⟨408,0,408,11⟩)=some (.next,cz hT 1106 2161 w os,d0 b,⟨490,0,507,65⟩):=by kernel_rfl
end FR
end
section
set_option backward.match.sparseCases true
set_option maxRecDepth 100000
set_option maxHeartbeats 0
open PySem PySem.W PyProof.Rows
namespace FR
theorem hV{α β γ:Type}(m:Sem α)(f:α->Sem β)(K:β->Sem γ)(H:Value->Sem γ)(gd lv):(m >>= f).wrap K H gd lv=m.wrap (λa=>(f a).wrap K H gd lv) H gd lv:=by
 rw[Sem.bind_eq_wrap',Sem.wrap_wrap]
 rfl
noncomputable def Bo:Value->Bool
 |.ref _=>true
 |_=>false
theorem Bp{α:Type}(vs:List Value)(m:Sem α):holding vs m=match vs.filter Bo with
  |[]=>m
  |refs=>m.keep refs:=by
 have:(λv=>match v with | Value.ref _=>true | _=>false)=Bo:=by funext v;cases v<;>rfl
 rw[<-this]
 rfl
noncomputable def Fn(vs:List Value)(lv:List Value->List Value):List Value->List Value:=match vs.filter Bo with
 |[]=>lv
 |refs=>λl=>lv (refs++l)
theorem w8{α γ:Type}(vs:List Value)(m:Sem α)(K:α->Sem γ)(H:Value->Sem γ)(gd lv):(holding vs m).wrap K H gd lv=m.wrap K H gd (Fn vs lv):=by
 rw[Bp,Fn]
 cases vs.filter Bo with
 |nil=>rfl
 |cons r rs=>
  show (m.keep (r::rs)).wrap K H gd lv=_
  rw[Sem.keep_eq_wrap,Sem.wrap_wrap]
  rfl
noncomputable def Fp(e:PySem.Expr):Option {q:List PySem.Expr×Nat×Pos // e=.Tuple q.1 q.2.1 q.2.2}:=match e with
 |.Tuple es k p=>some ⟨(es,k,p),rfl⟩
 |_=>none
section
variable{γ:Type}(env:Env)(H:Value->Sem γ)(gd:Bool->Bool)
noncomputable def cS(f:PySem.Expr->(Value->Sem γ)->(List Value->List Value)->Sem γ):List PySem.Expr->(List Value->Sem γ)->(List Value->List Value)->Sem γ
 |[],K,_=>K []
 |e::es,K,lv=>f e (λv=>cS f es (λvs=>K (v::vs)) (Fn [v] lv)) lv
noncomputable def cE:Nat->PySem.Expr->(Value->Sem γ)->(List Value->List Value)->Sem γ
 |0,e,K,lv=>(eval e env).wrap K H gd lv
 |n+1,e,K,lv=>match Fp e with
  |some q=>bif q.1.1.all aS then .at q.1.2.2 λO=>cS (cE n) q.1.1 (λvs=>(newTuple vs).wrap K H gd lv) lv else (eval e env).wrap K H gd lv
  |none=>(eval e env).wrap K H gd lv
variable{env H gd}
theorem ud(pos:Pos):∀{es:List PySem.Expr},es.all aS=true->backTo pos (starEach es env)=es.map λe=>(false,eval e env)
 |[],_=>rfl
 |e::es,h=>by
  have h:=Bool.and_eq_true_iff.mp h
  rw[e9 h.1,List.map_cons,<-ud pos h.2]
  rfl
theorem G0{f:PySem.Expr->(Value->Sem γ)->(List Value->List Value)->Sem γ}(hf:∀e K lv,f e K lv=(eval e env).wrap K H gd lv):∀(es:List PySem.Expr)(K:List Value->Sem γ)(lv),cS f es K lv=(spliced (es.map λe=>(false,eval e env))).wrap K H gd lv
 |[],K,lv=>rfl
 |e::es,K,lv=>by
  show f e _ lv=((eval e env >>= _:Sem (List Value))).wrap K H gd lv
  rw[hf,hV]
  refine congrArg (λk=>(eval e env).wrap k H gd lv) (funext λv=> ?_)
  show _=((holding [v] (spliced (es.map λe=>(false,eval e env))) >>= λvs=>pure ([v]++vs):Sem (List Value))).wrap K H gd lv
  rw[hV,w8]
  exact G0 hf es _ _
theorem G1:∀(n:Nat)(e:PySem.Expr)(K:Value->Sem γ)(lv),cE env H gd n e K lv=(eval e env).wrap K H gd lv
 |0,_,_,_=>rfl
 |n+1,e,K,lv=>by
  show (match Fp e with
  |some q=>bif q.1.1.all aS then Sem.at q.1.2.2 λO=>cS (cE env H gd n) q.1.1 (λvs=>(newTuple vs).wrap K H gd lv) lv else (eval e env).wrap K H gd lv
  |none=>(eval e env).wrap K H gd lv)=_
  cases Fp e with
  |none=>rfl
  |some q=>
   obtain ⟨⟨es,kk,pos⟩,rfl⟩:=q
   show (bif es.all aS then Sem.at pos λO=>cS (cE env H gd n) es (λvs=>(newTuple vs).wrap K H gd lv) lv else (eval (.Tuple es kk pos) env).wrap K H gd lv)=_
   cases h:es.all aS with
   |false=>rfl
   |true=>
    show (Sem.at pos λO=>cS (cE env H gd n) es (λvs=>(newTuple vs).wrap K H gd lv) lv)=_
    rw[G0 (G1 n),arm_eval_Tuple,ud pos h,hV]
    refine congrArg (Sem.at pos) (funext λO=> ?_)
    show _=((spliced _ >>= _:Sem Value)).wrap K H gd lv
    rw[hV]
end
end FR
end
section
set_option backward.match.sparseCases true
set_option maxRecDepth 100000
set_option maxHeartbeats 0
open PySem PySem.W PyProof.Rows
namespace FR
theorem y3{γ:Type}{env:Env}{H:Value->Sem γ}{gd}{K:Flow->Sem γ}{lv}{targets:List Expr}{value:Expr}{pos:Pos}(n:Nat)(hs:swapsWithSole targets value pos.line env=pure false):
  (exec (.Assign targets value pos) env).wrap K H gd lv=Sem.at pos λO=>cE env H gd n value (λv=>(swappedStores targets value env >>= λst=>assignStores env v st ((assignEach targets env).map (·.2))).wrap K H gd lv) lv:=by
 rw[arm_exec_Assign,hs,hV]
 show Sem.at pos _=_
 congr 1
 funext _
 show ((eval value env >>= _:Sem Flow)).wrap K H gd lv=_
 rw[hV,G1]
noncomputable def G2:Stmt->List Expr
 |.Assign t _ _=>t
 |_=>[]
noncomputable def G3:Stmt->Expr
 |.Assign _ v _=>v
 |_=>.Constant .none 0 p0
noncomputable def Lr:Stmt->Pos
 |.Assign _ _ p=>p
 |_=>p0
noncomputable abbrev nZ:Stmt:=eB pw.main.body 117
noncomputable def QO(f:Flow):Sem Fin:=match f with
 |.next=>(execs [] gS).wrap doneF deadEnd id id
 |f=>doneF f
noncomputable def QP:Sem Fin:=Sem.at (Lr nZ) λO=>cE gS deadEnd id 8 (G3 nZ) (λv=>(swappedStores (G2 nZ) (G3 nZ) gS >>= λst=>assignStores gS v st ((assignEach (G2 nZ) gS).map (·.2))).wrap QO deadEnd id id) id
theorem Lu(b:List Stmt):fK 117 1 b ⟨407,0,407,13⟩=⟨QP,d0 b,⟨407,0,407,13⟩,F0⟩:=by
 have e1:dm 117 1=[.Assign (G2 nZ) (G3 nZ) (Lr nZ)]:=by kernel_rfl
 have e2:swapsWithSole (G2 nZ) (G3 nZ) (Lr nZ).line gS=pure false:=by kernel_rfl
 show Thread.mk ((execs (dm 117 1) gS).wrap doneF deadEnd id id) _ _ _=_
 rw[e1,execs_cons_wrap,y3 8 e2]
 rfl
theorem QQ(w:World)(p:Program)(b:List Stmt)(os:OsState):fM p w 11 (some (.ref 6)) 1 1719 (cz Lq 623 1426 w os) (fK 117 1 b ⟨407,0,407,13⟩)=some (.next,cz GZ 1077 2117 w os,d0 b,⟨408,0,408,11⟩):=by
 rw[Lu]
 kernel_rfl
end FR
end
section
set_option backward.match.sparseCases true
set_option maxRecDepth 100000
set_option maxHeartbeats 0
open PySem PySem.W PyProof.Rows
namespace FR
theorem j2{w:World}{p:Program}{b:List Stmt}{i j N:Nat}{S S':SharedT}{q q':Pos}(h:fM p w 11 (some (.ref 6)) 1 N S (fK i j b q)=some (.next,S',d0 b,q')):
  segRun treeTable p w 11 (some (.ref 6)) 1 N S.abs (piecesOf (dm i j) gS (d0 b) q F0)=some (.next,S'.abs,d0 b,q'):=segRun_of (by rw[Oc];exact h)
theorem IK:pw.main.body=dm 0 37++(dm 37 1++(dm 38 17++(dm 55 1++(dm 56 1++(dm 57 15++(dm 72 12++(dm 84 11++(dm 95 10++(dm 105 1++(dm 106 4++(dm 110 3++(dm 113 4++(dm 117 1++(dm 118 5++[])))))))))))))):=by kernel_rfl
noncomputable def fN(w:World)(os:OsState):Shared:=(cz hT 1106 2161 w os).abs
noncomputable abbrev bE:Code:=d0 pw.main.body
theorem fin(w:World)(os:OsState):topRun treeTable pw w 11 (some (.ref 6)) 2 (fN w os) (restOf [] gS bE ⟨490,0,507,65⟩ F0)=some (fN w os):=by kernel_rfl
theorem chain(w:World)(os:OsState):topRun treeTable pw w 11 (some (.ref 6)) (334+(231+(358+(187+(974+(377+(394+(386+(322+(288+(382+(337+(231+(1719+(149+2))))))))))))))) (cz t4 15 187 w os).abs (restOf pw.main.body gS bE p0 F0)=some (fN w os):=by
 have h:∀b:List Stmt,topRun treeTable pw w 11 (some (.ref 6)) 2 (fN w os) (restOf [] gS (d0 b) ⟨490,0,507,65⟩ F0)=some (fN w os)->topRun treeTable pw w 11 (some (.ref 6)) (334+(231+(358+(187+(974+(377+(394+(386+(322+(288+(382+(337+(231+(1719+(149+2))))))))))))))) (cz t4 15 187 w os).abs (restOf (dm 0 37++(dm 37 1++(dm 38 17++(dm 55 1++(dm 56 1++(dm 57 15++(dm 72 12++(dm 84 11++(dm 95 10++(dm 105 1++(dm 106 4++(dm 110 3++(dm 113 4++(dm 117 1++(dm 118 5++[]))))))))))))))) gS (d0 b) p0 F0)=some (fN w os):=
  λb k=>piece_app (j2 (Sz w pw b os)) (piece_app (j2 (SA w pw b os)) (piece_app (j2 (SD w pw b os)) (piece_app (j2 (SE w pw b os)) (piece_app (j2 (SG w pw b os)) (piece_app (j2 (SH w pw b os)) (piece_app (j2 (SI w pw b os)) (piece_app (j2 (SJ w pw b os)) (piece_app (j2 (SK w pw b os)) (piece_app (j2 (SM w pw b os)) (piece_app (j2 (QK w pw b os)) (piece_app (j2 (QL w pw b os)) (piece_app (j2 (QM w pw b os)) (piece_app (j2 (QQ w pw b os)) (piece_app (j2 (QN w pw b os)) (k)))))))))))))))
 have e:=h pw.main.body (fin w os)
 rw[<-IK] at e
 exact e
noncomputable def S0(w:World)(os:OsState):Shared:=⟨boot_heap w.params,#[],boot_drawn,boot_toks,os⟩
noncomputable def pre(w:World)(os:OsState):=topGo treeTable pw w 11 (some (.ref 6)) 12 (S0 w os) (topStub pw)
theorem qF(w:World)(os:OsState):(pre w os).isSome=true:=by kernel_rfl
noncomputable def Lw(w:World)(os:OsState):=((pre w os).get (qF w os)).1
noncomputable def Lx(w:World)(os:OsState):=((pre w os).get (qF w os)).2
theorem IL(w:World)(os:OsState):Lx w os={cur:=denote treeTable bE,code:=bE,pos:=p0,stack:=F0}:=by kernel_rfl
theorem block(w:World)(os:OsState):segRun treeTable pw w 11 (some (.ref 6)) 1 1 (Lw w os) (blockOf pw.main.body gS bE p0 F0)=
  some (Flow.next,(cz t4 15 187 w os).abs,bE,p0):=by kernel_rfl
theorem run(w:World)(os:OsState):topRun treeTable pw w 11 (some (.ref 6)) (12+(1+(334+(231+(358+(187+(974+(377+(394+(386+(322+(288+(382+(337+(231+(1719+(149+2))))))))))))))))) (S0 w os) (topStub pw)=some (fN w os):=by
 refine go_top (s':=Lw w os) (t':=Lx w os) (Option.some_get (qF w os)).symm ?_
 rw[IL]
 exact piece_block (block w os) (chain w os)
end FR
end
section
set_option backward.match.sparseCases true
set_option maxRecDepth 100000
set_option maxHeartbeats 0
open PySem PySem.W PyProof.Rows
namespace FR
noncomputable def q0:Program:={pw with main:={pw.main with body:=pw.main.body.drop 122}}
noncomputable def eW:List Str:=(["TB_MODULE","TB_TYPEREF","TB_TYPEDEF","TB_FIELD","TB_METHODDEF","TB_PARAM","TB_INTERFACEIMPL","TB_MEMBERREF","TB_CONSTANT","TB_STANDALONESIG","TB_EVENTMAP","TB_EVENT","TB_PROPERTYMAP","TB_PROPERTY","TB_METHODSEMANTICS","TB_METHODIMPL","TB_TYPESPEC","TB_ASSEMBLY","TB_ASSEMBLYREF","TB_NESTEDCLASS","TB_GENERICPARAM","TB_METHODSPEC","TB_GENERICPARAMCONSTRAINT","TOKEN_BASE","E_VOID","TA_INTERFACE","FA_STATIC","FA_LITERAL","FA_HASDEFAULT","MA_STATIC","MA_ABSTRACT","MI_INTERNALCALL","MS_SETTER","MS_GETTER","MS_ADDON","MS_REMOVEON","RuneError","BadImage","CS_U16","CS_U32","CS_U8PAD","CS_TEXT","CS_BLOB","CS_GUID","CS_ROW","CS_CODED","CD_TYPEDEFORREF","CD_HASCONSTANT","CD_MEMBERREFPARENT","CD_HASSEMANTICS","CD_METHODDEFORREF","CD_RESOLUTIONSCOPE","CD_TYPEORMETHODDEF","CODED","COLUMNS","need_row","make_coded","split_coded","column_place","LISTS","NAMED","MAY_BE_NONE","SIG_TABLES","SIG_COLUMNS","MODULE_NAME","CORE_NAME","ROOT_NAME","CCTOR_SIG","check_tables","rows_of","table_text","table_blob","rule_heaps","right_place","rule_single","rule_maps","rule_tags","coded_pair","is_list_column","rule_parents","names_row","rule_lists","list_range","owner_row","rule_names","rule_twice","twice_members","is_interface","rule_iface","root_row","rule_base","rule_cctor","rule_bodies","rule_constants","rule_params","rule_generics","rule_semantics","right_meaning","association_type","rule_impls","rule_nested","PlainHeap","PlainTables","_law_WORDS","_law_BLOBS","_law_TAGS","_law_PARENTS","_law_LISTS","_law_TEXTS","_law_SIGS","_law_OCTETS","_law_NAMELESS","_law_OTHERS","_law_sound","_law_breach","_law_nameless","_law_edit"]:List String).map Str.ofString
noncomputable abbrev H0(w:World):Heap:=boot_heap w.params
noncomputable abbrev H1(w:World):Heap:=absHeap (hT w.params) 1106 L0
theorem SN(w:World):namesBound pw (H1 w)=true:=by kernel_rfl
theorem SO(w:World):laidKept (H0 w) (H1 w)=true:=by kernel_rfl
theorem SP(w:World):staticsOk (importedModules pw.main.body) (H0 w) (H1 w)=true:=by kernel_rfl
end FR
end
section
set_option backward.match.sparseCases true
set_option maxRecDepth 100000
set_option maxHeartbeats 0
open PySem PySem.W PyProof.Rows
namespace FR
noncomputable abbrev Ly:Shared->Bool:=λs=>recOk [] s
noncomputable abbrev G4:=importedModules pw.main.body
theorem s1(w:World)(os:OsState):seen ((recsOf q0).map (·.name)) (ownsOf q0) [] {fN w os with gens:= #[]}=expectedOf q0:=by kernel_rfl
theorem s2(w:World):(H1 w).bltView=bltViewBooted:=by kernel_rfl
theorem SQ(w:World):(H1 w).keysOk (looseW q0 eW) ((recsOf q0).map (·.name)) ((litsOf q0).map (·.1)) ((clssOf q0 (looseW q0 eW)).map (·.name))=true:=by kernel_rfl
theorem SR(w:World):(H1 w).accountedOkI G4=true:=by kernel_rfl
theorem s4(w:World)(os:OsState):tabsOk q0 (fN w os)=true:=by kernel_rfl
theorem s5(w:World)(os:OsState):pinSeenD q0 (drecsOf q0) (fN w os)=pinGoodD (drecsOf q0):=by kernel_rfl
theorem s6(w:World)(os:OsState):plainSeenE q0 (looseW q0 eW) (fN w os)=plainGoodE q0 (looseW q0 eW):=by kernel_rfl
theorem s7(w:World)(os:OsState):plainSeenD q0 eW (fN w os)=plainGoodD q0 eW:=by kernel_rfl
theorem s8(w:World)(os:OsState):wideSeen q0 (fN w os)=wideGood q0:=by kernel_rfl
theorem s9(w:World)(os:OsState):clsSeenW q0 eW (fN w os)=clsGoodW q0 eW:=by kernel_rfl
end FR
end
section
set_option backward.match.sparseCases true
set_option maxRecDepth 100000
set_option maxHeartbeats 0
open PySem PySem.W PyProof.Rows
namespace FR
theorem size(w:World):((H0 w).isNs mainGlobals&&(#[]:Array GenState).size == 0,(H0 w).objs.size,(H0 w).nsMap mainGlobals (Str.ofString "__annotations__"))=(true,11,some (.ref 6)):=by kernel_rfl
theorem Od(w:World):(fencedOpening treeTable pw w 7000).map (λs=>(s.heap,s.gens,s.drawn,s.toks))=some (boot_heap w.params,Array.mk [],boot_drawn,boot_toks):=
 boot_open (p:=pw) (N:=7000) rfl (by decide) (λs=>rfl) w
theorem left{α:Type}{Yf:Shared->α}{Ya:World->α}(h:∀w os,Yf (fN w os)=Ya w):LeftO pw q0 eW Ly Yf Ya 7000 true:=
 LeftO.of_pieces (H₀:=boot_heap) (H₁:=λP=>absHeap (hT P) 1106 L0) (gs₀:= #[]) (gs₁:= #[]) (d₀:=boot_drawn) (d₁:={}) (k₀:=boot_toks) (k₁:=2161) (m₀:=11) (ann:=some (.ref 6)) Od size run (by decide)
  λw=>by
   funext os
   have e1:(staticsOk (importedModules pw.main.body) (H0 w) (H1 w)&&namesBound pw (H1 w)&&gensDone (fN w os)&&laidKept (H0 w) (H1 w))=true:=by
    rw[SP,SN,SO];rfl
   have e2:openSeen q0 eW (importedModules pw.main.body) Ly true (fN w os)=openGood q0 eW:=by
    refine Prod.ext (s1 w os) (Prod.ext (s2 w) (Prod.ext ?_ (Prod.ext (s4 w os) (Prod.ext (s5 w os) (Prod.ext (s6 w os) (Prod.ext (s7 w os) (Prod.ext (s8 w os) (s9 w os))))))))
    show ((H1 w).keysOk _ _ _ _&&(H1 w).accountedOkI G4&&(H1 w).isNs mainGlobals&&(H1 w).isNs builtinsNs&&tablesOk q0 (H1 w)&&_&&_)=true
    rw[SQ,SR]
    kernel_rfl
   exact Prod.ext e1 (Prod.ext e2 (h w os))
theorem lk(p:Program):looksOpen p=Fast.tw12908688711261696721 p:=congrFun Fast.te12908688711261696721 p
theorem Lz:looksOpen PySem.Challenge.rw_sa0237_01.row.prog=true:=(lk _).trans (by kernel_rfl)
theorem LA:PySem.Challenge.rw_sa0237_01.wellSaid=true:=by
 unfold OpenLaw.wellSaid OpenRow.wellSaid OpenRow.partSaid
 repeat' with_reducible (refine look_both ?_ ?_)
 all_goals first | with_reducible exact Lz | kernel_rfl
end FR
end
section
set_option maxRecDepth 100000
namespace FR
open PySem PySem.W PySem.Calls PyProof.Rows PySem.SeqAt
noncomputable def pT(P:Params)(a:Nat):Option Obj:=bif Nat.blt a 1106&& !(Nat.beq a 17) then (hT P).get a else none
noncomputable def j3(w:World)(hp:Heap):Prop:=∀a o,pT w.params a=some o->alive o=some o->hp.get? a=some o
theorem QR{w:World}{hp:Heap}(H:j3 w hp):∃o,hp.get? sysModules=some o:=⟨_,H 1 (boot_o_1 w.params) (by kernel_rfl) rfl⟩
noncomputable def n3{w:World}{hp:Heap}(H:j3 w hp):Bs:=⟨pw,w,hp,QR H⟩
noncomputable def Fq(v:Value):Option {a:Addr // v=.ref a}:=match v with
 |.ref a=>some ⟨a,rfl⟩
 |_=>none
noncomputable def noDict(d:Option Addr):Option {_q:Unit // d=none}:=match d with
 |none=>some ⟨(),rfl⟩
 |some _=>none
noncomputable def LB(s:Array (Option Value)):Option {_q:Unit // s= #[]}:=match s with
 |⟨l⟩=>match l with
  |[]=>some ⟨(),rfl⟩
  |_::_=>none
noncomputable def LC(v:Value)(s:String):Bool:=match v with
 |.type t=>decide (t=s)
 |_=>false
theorem IP{v:Value}{s:String}(h:LC v s=true):v=.type s:=by
 cases v with
 |type t=>exact congrArg _ (of_decide_eq_true h)
 |_=>exact ff h
noncomputable def QS(d:Data):Option {q:Array Value×Nat // d=.seq q.1 q.2}:=match d with
 |.seq xs n=>some ⟨(xs,n),rfl⟩
 |_=>none
noncomputable def LD(d:Data):Option {q:Array DictEntry×Nat // d=.dict q.1 q.2}:=match d with
 |.dict es n=>some ⟨(es,n),rfl⟩
 |_=>none
noncomputable def IQ(d:Data):Option {q:Array Value // d=.fields q}:=match d with
 |.fields vs=>some ⟨vs,rfl⟩
 |_=>none
noncomputable def Of(d:Data):Option {q:FuncData // d=.func q}:=match d with
 |.func f=>some ⟨f,rfl⟩
 |_=>none
@[irreducible] noncomputable def j4(P:Params)(a:Nat)(T:String)(f:Data->Bool):Bool:=oS (nY (pT P a)) λo=>LC o.cls T&&oS (noDict o.dict) λO=>oS (LB o.slots) λO=>f o.data
theorem j4.e{M:Prop}{P:Params}{a:Nat}{T:String}{f:Data->Bool}(h:j4 P a T f=true)(k:∀d,pT P a=some ⟨.type T,none,d,#[]⟩->f d=true->M):M:=by
 unfold j4 at h
 refine oS.e h λo ho h=>oS.e (aw h).2 λO hd h'=>oS.e h' λO hs h'=>k o.data ?_ h'
 rw[ho,<-IP (aw h).1,<-hd,<-hs]
theorem LF{P:Params}{a:Nat}{T:String}{d d':Data}(ho:pT P a=some ⟨.type T,none,d,#[]⟩)(hd:d=d'):pT P a=some ⟨.type T,none,d',#[]⟩:=hd▸ho
noncomputable def all2(f:PV->Value->Bool):List PV->List Value->Bool
 |[],vs=>nil? vs
 |p::l,vs=>match vs with
  |[]=>false
  |v::vs=>f p v&&all2 f l vs
noncomputable def G5(P:Params):Nat->PV->Value->Bool
 |0,_,_=>false
 |n+1,p,v=>match p with
  |.none=>decide (v=.none)
  |.bool x=>decide (v=.bool x)
  |.int i=>(match v with | .int j _=>decide (j=i) | _=>false)
  |.str x=>(match v with | .str y _=>decide (y.cps.toList=x) | _=>false)
  |.bytes x=>(match v with | .bytes y _=>decide (y.toList.map (·.toNat)=x) | _=>false)
  |.tup l=>oS (Fq v) λa=>j4 P a "tuple" λd=>oS (QS d) λxs=>all2 (G5 P n) l xs.1.toList
  |_=>false
section
variable{w:World}{hp:Heap}(H:j3 w hp)
include H
theorem IS{f:PV->Value->Bool}(hf:∀p v,f p v=true->VR (n3 H) hp [] p v)(l:List PV):∀{vs:List Value},all2 f l vs=true->ay (n3 H) hp [] l vs:=by
 induction l with
 |nil=>exact λh=>nil_inv h▸trivial
 |cons p l ih=>
  intro vs h
  cases vs with
  |nil=>exact ff h
  |cons v vs=>exact⟨hf _ _ (aw h).1,ih (aw h).2⟩
theorem G6(n:Nat):∀(p:PV)(v:Value),G5 w.params n p v=true->VR (n3 H) hp [] p v:=by
 induction n with
 |zero=>exact λp v h=>ff h
 |succ n ih=>
  intro p v h
  cases p with
  |none=>exact(of_decide_eq_true h:v=.none)
  |bool x=>exact(of_decide_eq_true h:v=.bool x)
  |int i=>cases v with
   |int j t=>exact⟨t,congrArg (Value.int · t) (of_decide_eq_true h)⟩
   |_=>exact ff h
  |str x=>cases v with
   |str y t=>exact⟨t,congrArg (λl:List Nat=>Value.str ⟨l.toArray⟩ t) (of_decide_eq_true h)⟩
   |_=>exact ff h
  |bytes x=>cases v with
   |bytes y t=>exact⟨y,t,rfl,of_decide_eq_true h⟩
   |_=>exact ff h
  |tup l=>exact oS.e h λa ha h=>j4.e h λd ho h=>oS.e h λxs hd h=>⟨a,xs.1,xs.2,ha,H _ _ (LF ho hd) rfl,IS H ih _ h⟩
  |_=>exact ff h
end
noncomputable def Og(P:Params)(n:Nat)(k:Int)(p:PV)(e:DictEntry):Bool:=decide (e.hash=hashInt k)&&((match e.key with | .int i _=>decide (i=k) | _=>false)&&G5 P n p e.val)
noncomputable def Bq(P:Params)(n:Nat):List Int->List PV->List DictEntry->Bool
 |[],ps,es=>nil? ps&&nil? es
 |k::ks,ps,es=>match ps with
  |[]=>false
  |p::ps=>match es with
   |[]=>false
   |e::es=>Og P n k p e&&Bq P n ks ps es
theorem Fs{w:World}{hp:Heap}(H:j3 w hp){n:Nat}(ks:List Int):∀{ps:List PV}{es:List DictEntry},Bq w.params n ks ps es=true->∃aM:List (Int×Value),aM.map (·.1)=ks/\Pairs (intKind pw w) es aM/\ay (n3 H) hp [] ps (aM.map (·.2))/\∀e∈es,∃k,(intKind pw w).is k e.key=true/\e.hash=(intKind pw w).hash k:=by
 induction ks with
 |nil=>exact λq=>nil_inv (aw q).1▸nil_inv (aw q).2▸⟨[],rfl,.nil,trivial,λO m=>absurd m List.not_mem_nil⟩
 |cons k ks ih=>
  intro ps es q
  cases ps with
  |nil=>exact ff q
  |cons p ps=>cases es with
   |nil=>exact ff q
   |cons e es=>
    have q1:=dec (aw q).1
    have q2:=aw q1.2
    refine(ih (aw q).2).elim λaM x=> ?_
    have hk:(intKind pw w).is k e.key=true:=by
     have q3:=q2.1
     cases hk:e.key with
     |int i t=>rw[hk] at q3;exact of_decide_eq_true q3▸isInt_self i t
     |_=>rw[hk] at q3;exact ff q3
    exact⟨(k,e.val)::aM,congrArg (k:: ·) x.1,.cons hk rfl x.2.1,⟨G6 H n _ _ q2.2,x.2.2.1⟩,λy hy=>(List.mem_cons.mp hy).elim (λh=>h▸⟨k,hk,q1.1⟩) (x.2.2.2 y)⟩
noncomputable def O9(P:Params)(p:PV)(v:Value):Bool:=match p with
 |.eM ks ps=>oS (Fq v) λa=> !(Nat.beq a 1)&&(decide ks.Nodup&&j4 P a "dict" λd=>oS (LD d) λes=>Bq P 400 ks ps es.1.toList)
 |p=>G5 P 400 p v
theorem LG{w:World}{hp:Heap}(H:j3 w hp){p:PV}{v:Value}(h:O9 w.params p v=true):VR (n3 H) hp [] p v:=by
 cases p with
 |eM ks ps=>
  refine oS.e h λa ha h=>j4.e (dec (aw h).2).2 λd ho h'=>oS.e h' λes hd h'=>(Fs H _ h').elim λaM x=>⟨a,aM,ha,⟨_,es.1,es.2,H _ _ (LF ho hd) rfl,⟨rfl,rfl,rfl⟩,rfl,λy hy=>x.2.2.2 y (Array.mem_toList_iff.mpr hy),x.2.1,?_⟩,?_,x.1,x.2.2.1⟩
  ·rw[x.1];exact(dec (aw h).2).1
  ·exact beq_eq_false_iff_ne.mpr (Nat.ne_of_beq_eq_false (not_of (aw h).1))
 |_=>exact G6 H 400 _ _ h
end FR
end
section
set_option maxRecDepth 100000
namespace FR
open PySem PySem.W PySem.Calls PyProof.Rows PySem.SeqAt
noncomputable def qG:List (Str×GV):=List.map (λp=>(Str.ofString p.1,p.2)) ([
 ("need_row",GV.fn 0),
 ("make_coded",GV.fn 1),
 ("split_coded",GV.fn 2),
 ("column_place",GV.fn 3),
 ("check_tables",GV.fn 4),
 ("rows_of",GV.fn 5),
 ("table_text",GV.fn 6),
 ("table_blob",GV.fn 7),
 ("rule_heaps",GV.fn 8),
 ("right_place",GV.fn 9),
 ("rule_single",GV.fn 10),
 ("rule_maps",GV.fn 11),
 ("rule_tags",GV.fn 12),
 ("coded_pair",GV.fn 13),
 ("is_list_column",GV.fn 14),
 ("rule_parents",GV.fn 15),
 ("names_row",GV.fn 16),
 ("rule_lists",GV.fn 17),
 ("list_range",GV.fn 18),
 ("owner_row",GV.fn 19),
 ("rule_names",GV.fn 20),
 ("rule_twice",GV.fn 21),
 ("twice_members",GV.fn 22),
 ("is_interface",GV.fn 23),
 ("rule_iface",GV.fn 24),
 ("root_row",GV.fn 25),
 ("rule_base",GV.fn 26),
 ("rule_cctor",GV.fn 27),
 ("rule_bodies",GV.fn 28),
 ("rule_constants",GV.fn 29),
 ("rule_params",GV.fn 30),
 ("rule_generics",GV.fn 31),
 ("rule_semantics",GV.fn 32),
 ("right_meaning",GV.fn 33),
 ("association_type",GV.fn 34),
 ("rule_impls",GV.fn 35),
 ("rule_nested",GV.fn 36),
 ("_law_sound",GV.fn 37),
 ("_law_breach",GV.fn 38),
 ("_law_nameless",GV.fn 39),
 ("_law_edit",GV.fn 40),
 ("law",GV.fn 41),
 ("TOKEN_BASE",GV.gl 0),
 ("CODED",GV.gl 1),
 ("COLUMNS",GV.gl 2),
 ("CS_TEXT",GV.gl 3),
 ("CS_BLOB",GV.gl 4),
 ("SIG_COLUMNS",GV.gl 5),
 ("SIG_TABLES",GV.gl 6),
 ("MODULE_NAME",GV.gl 7),
 ("TB_TYPEDEF",GV.gl 8),
 ("TB_ASSEMBLY",GV.gl 9),
 ("TB_MODULE",GV.gl 10),
 ("TB_PROPERTYMAP",GV.gl 11),
 ("TB_EVENTMAP",GV.gl 12),
 ("CS_CODED",GV.gl 13),
 ("LISTS",GV.gl 14),
 ("MAY_BE_NONE",GV.gl 15),
 ("CS_ROW",GV.gl 16),
 ("NAMED",GV.gl 17),
 ("TB_EVENT",GV.gl 18),
 ("TB_PROPERTY",GV.gl 19),
 ("TB_METHODDEF",GV.gl 20),
 ("TB_FIELD",GV.gl 21),
 ("TB_TYPEREF",GV.gl 22),
 ("TB_NESTEDCLASS",GV.gl 23),
 ("TA_INTERFACE",GV.gl 24),
 ("FA_STATIC",GV.gl 25),
 ("ROOT_NAME",GV.gl 26),
 ("CORE_NAME",GV.gl 27),
 ("CCTOR_SIG",GV.gl 28),
 ("MA_STATIC",GV.gl 29),
 ("MI_INTERNALCALL",GV.gl 30),
 ("MA_ABSTRACT",GV.gl 31),
 ("FA_HASDEFAULT",GV.gl 32),
 ("FA_LITERAL",GV.gl 33),
 ("TB_CONSTANT",GV.gl 34),
 ("CD_HASCONSTANT",GV.gl 35),
 ("TB_PARAM",GV.gl 36),
 ("TB_GENERICPARAM",GV.gl 37),
 ("MS_REMOVEON",GV.gl 38),
 ("MS_ADDON",GV.gl 39),
 ("CD_HASSEMANTICS",GV.gl 40),
 ("TB_METHODSEMANTICS",GV.gl 41),
 ("MS_GETTER",GV.gl 42),
 ("MS_SETTER",GV.gl 43),
 ("TB_METHODIMPL",GV.gl 44),
 ("CD_METHODDEFORREF",GV.gl 45),
 ("_law_OTHERS",GV.gl 46),
 ("_law_SIGS",GV.gl 47),
 ("_law_BLOBS",GV.gl 48),
 ("_law_WORDS",GV.gl 49),
 ("_law_TEXTS",GV.gl 50),
 ("_law_OCTETS",GV.gl 51),
 ("_law_LISTS",GV.gl 52),
 ("_law_PARENTS",GV.gl 53),
 ("_law_TAGS",GV.gl 54),
 ("_law_NAMELESS",GV.gl 55),
 ("PlainHeap",GV.cls 0),
 ("PlainTables",GV.cls 1),
 ("BadImage",GV.cls 2),
 ("len",GV.bi "len"),
 ("sorted",GV.bi "sorted"),
 ("range",GV.ty "range"),
 ("enumerate",GV.ty "enumerate"),
 ("list",GV.ty "list"),
 ("tuple",GV.ty "tuple")]:List (String×GV))
noncomputable def glob(x:Str):Option GV:=qG.lookup x
noncomputable def zr:List (Nat×Addr×List Str):=List.map (λp=>(p.1,p.2.1,p.2.2.map Str.ofString)) ([
 (0,173,["row"]),
 (1,180,["coded","table","row","pair","tag","named"]),
 (2,187,["coded","n","pair","tag"]),
 (3,194,["table","name","place","column"]),
 (4,225,["ts","texts","blobs","told"]),
 (5,232,["ts","table"]),
 (6,239,["texts","offset"]),
 (7,246,["blobs","offset"]),
 (8,253,["ts","texts","blobs","told","table","place","column","number","row"]),
 (9,260,["texts","blobs","table","column","offset","count"]),
 (10,267,["ts","texts","told","table","rows"]),
 (11,274,["ts","told","table","seen","number","row"]),
 (12,281,["ts","told","table","place","column","number","row"]),
 (13,288,["sort","n"]),
 (14,295,["table","place","row"]),
 (15,302,["ts","told","table","place","column","may_none","number","row"]),
 (16,309,["ts","sort","n","may_none","pair"]),
 (17,316,["ts","told","table","place","other","rows","last","number","row","n"]),
 (18,323,["ts","table","place","other","number","first"]),
 (19,330,["ts","table","place","other","n","number","first","end"]),
 (20,337,["ts","texts","told","table","word","place","number","row"]),
 (21,344,["ts","texts","blobs","told","enclosed","row","seen","number","key"]),
 (22,351,["ts","texts","blobs","told","lists","name_place","sig_place","table","place","other","number","first","end","seen","n","row","sig","key"]),
 (23,358,["row"]),
 (24,365,["ts","told","number","row","first","end","n"]),
 (25,370,["ts","texts","nested","number","row"]),
 (26,377,["ts","texts","told","root","number","row"]),
 (27,384,["ts","texts","blobs","told","number","row"]),
 (28,391,["ts","told","number","row","without"]),
 (29,398,["ts","told","seen","number","row","table","n","given","unfit"]),
 (30,405,["ts","told","number","first","end","last","n","sequence"]),
 (31,412,["ts","texts","told","counts","seen","number","row","due","key"]),
 (32,419,["ts","told","seen","number","row","table","n","event"]),
 (33,426,["meaning","table"]),
 (34,433,["ts","table","n","maps","number"]),
 (35,440,["ts","told","seen","number","row","table","n"]),
 (36,447,["ts","told","outer","number","row","at","steps"]),
 (37,1081,["core","extras","rows","spot","x","field","method","name","space","extends"]),
 (38,1088,["way","x","y","rows","edit","row","value","spots"]),
 (39,1093,["x","rows","also","want","spots"]),
 (40,1100,["rows","table","row","place","value","old"]),
 (41,1105,["script","drawn","head","texts","blobs","rows","want","edits","edit","ts","table","row"]),
 (101,461,["self","zero"]),
 (102,475,["self","place"]),
 (103,496,["self"]),
 (104,503,["self","table","row"]),
 (105,510,["self","table","n"]),
 (106,517,["self","table"])]:List (Nat×Nat×List String))
noncomputable def mH:List (Nat×Addr×List Str)->Nat->Addr×List Str
 |[],_=>(0,[])
 |p::l,i=>bif Nat.beq p.1 i then p.2 else mH l i
noncomputable def iG(i:Nat):Addr:=(mH zr i).1
theorem Ft{i:Nat}{d:aW}(l:List (Nat×aW)):u3 l i=some d->i∈l.map (·.1):=by
 induction l with
 |nil=>exact λh=>nomatch h
 |cons p l ih=>
  intro h
  have h:(bif Nat.beq p.1 i then some p.2 else u3 l i)=some d:=h
  cases hb:Nat.beq p.1 i with
  |true=>exact Nat.eq_of_beq_eq_true hb▸List.mem_cons_self
  |false=>rw[hb] at h;exact List.mem_cons_of_mem _ (ih h)
noncomputable def LH(b:FuncBody):Option {q:List PySem.Stmt // b=.stmts q}:=match b with
 |.stmts l=>some ⟨l,rfl⟩
 |.expr _=>none
noncomputable def Oh(p:Arguments):Option {q:List Arg // p=⟨[],q,none,[],[],none,[]⟩}:=match p with
 |⟨[],args,none,[],[],none,[]⟩=>some ⟨args,rfl⟩
 |_=>none
noncomputable def LI(v:Value):Option {q:Str×Tok // v=.str q.1 q.2}:=match v with
 |.str x t=>some ⟨(x,t),rfl⟩
 |_=>none
noncomputable def Rz:Value->Bool
 |.none=>true
 |_=>false
noncomputable def codeB(P:Params)(v:Value)(q:Str):Bool:=oS (Fq v) λc=>oS (nY (pT P c)) λo=>oS (IQ o.data) λvs=>oS (nY ((vs:Array Value)[1]?)) λx=>oS (LI x) λy=>decide (y.1=q)
noncomputable def Dt(P:Params)(i:Nat):Bool:=oS (nY (ah i)) λd=>oS (nY (pT P (iG i))) λo=>oS (Of o.data) λfd=>oS (LH fd.body) λbody=>oS (Oh fd.params) λargs=>
 decide (fd.globals=3)&&(decide (fd.builtins=0)&&(decide (fd.defaults=.none)&&(decide ((mH zr i).2.take d.params=args.map (·.arg))&&(decide (args.length=d.params)&&(decide (mH zr i).2.Nodup&&
   ((mH zr i).2.all (λx=>decide (fd.scope.names.lookup x=some .local))&&(fd.scope.names.all (λx=>decide (x.2≠ .cell))&&(decide (d.params<=(mH zr i).2.length)&&
   (!fd.scope.isCoroutine&&(!fd.scope.isGenerator&&(decide (fd.scope.kind=.function)&&(codeB P fd.code fd.qualname&&(qE (nX 60) ⟨(mH zr i).2,glob,fd.scope,true⟩ 60).ss body d.body))))))))))))
noncomputable def fO(P:Params)(a:Nat)(x:Str):Option Value:=match pT P a with
 |some o=>match o.data with
  |.dict es _=>nsFind es x
  |_=>none
 |none=>none
noncomputable def o5(P:Params)(a:Nat):Bool:=oS (nY (pT P a)) λo=>oS (LD o.data) λes=>es.1.toList.all λe=>oS (LI e.key) λO=>true
theorem qH{o:Obj}{d:Data}(h:o.data=d)(k:∀c e s,alive ⟨c,e,d,s⟩=some ⟨c,e,d,s⟩):alive o=some o:=by
 cases h
 exact k o.cls o.dict o.slots
section
variable{w:World}{hp:Heap}(H:j3 w hp)
include H
theorem w9{v:Value}{q:Str}(h:codeB w.params v q=true):hp.CodeRec v q:=
 oS.e h λc hc h=>oS.e h λo ho h=>oS.e h λvs hv h=>oS.e h λx hx h=>oS.e h λy hy h=>⟨c,_,vs,y.2,hc,H _ _ ho (qH hv λO O O=>rfl),hv,by rw[hx,hy,of_decide_eq_true h]⟩
theorem iP{a:Nat}(h:o5 w.params a=true):hp.Ns a (fO w.params a):=
 oS.e h λo ho h=>oS.e h λes he h=>⟨o,es.1,es.2,H _ _ ho (qH he λO O O=>rfl),he,λe m=>oS.e (List.all_eq_true.mp h e (Array.mem_toList_iff.mpr m)) λy hy O=>⟨y.1,y.2,hy⟩,λx=>by unfold fO;rw[ho];dsimp only;rw[he]⟩
theorem IT(h:o5 w.params 2=true)(e:fO w.params 2 "sys.recursionlimit"=none):hp.NoLimit:=⟨_,iP H h,e⟩
theorem LJ(hl:hp.NoLimit){i:Nat}{d:aW}(hd:ah i=some d)(h:Dt w.params i=true):∃fd locs body m f,we (n3 H) (iG i) fd locs d.params body/\(qE (nX m) ⟨locs,glob,fd.scope,true⟩ f).ss body d.body=true:=
 oS.e h λd' JP h=>oS.e h λo ho h=>oS.e h λfd hf h=>oS.e h λbody hb h=>oS.e h λargs ha h=>by
  cases bp hd JP
  have a1:=dec h
  have a2:=dec a1.2
  have a3:=dec a2.2
  have a4:=dec a3.2
  have a5:=dec a4.2
  have a6:=dec a5.2
  have a7:=aw a6.2
  have a8:=aw a7.2
  have a9:=dec a8.2
  have K2:=aw a9.2
  have K3:=aw K2.2
  have K4:=dec K3.2
  have K5:=aw K4.2
  exact⟨fd,_,body,60,60,⟨⟨o,H _ _ ho (qH hf λO O O=>rfl),hf⟩,hb,a1.1,a2.1,w9 H K5.1,hl,λvs hv=>a4.1▸rT fd args vs (a4.1▸a6.1.sublist (List.take_sublist _ _)) ha a3.1 (hv.trans a5.1.symm),λx hx=>of_decide_eq_true (List.all_eq_true.mp a7.1 x hx),λx hx=>of_decide_eq_true (List.all_eq_true.mp a8.1 x hx),a6.1,a9.1,not_of K2.1,not_of K3.1,K4.1⟩,K5.2⟩
end
end FR
end
section
set_option maxRecDepth 100000
set_option maxHeartbeats 0
namespace FR
open PySem PySem.W PySem.Calls PyProof.Rows PySem.SeqAt
noncomputable abbrev ids:List Nat:=Al.map (·.1)
theorem IU(w:World):(ids.take 16).all (Dt w.params)=true:=by kernel_rfl
theorem IV(w:World):((ids.drop 16).take 16).all (Dt w.params)=true:=by kernel_rfl
theorem IW(w:World):((ids.drop 16).drop 16).all (Dt w.params)=true:=by kernel_rfl
theorem LK(w:World){i:Nat}{d:aW}(h:ah i=some d):Dt w.params i=true:=
 have hi:=Ft Al h
 (List.mem_append.mp ((List.take_append_drop 16 ids).symm▸hi)).elim (List.all_eq_true.mp (IU w) i) λq=>(List.mem_append.mp ((List.take_append_drop 16 (ids.drop 16)).symm▸q)).elim (List.all_eq_true.mp (IV w) i) (List.all_eq_true.mp (IW w) i)
theorem LL(w:World):o5 w.params 3=true:=by kernel_rfl
theorem QT(w:World):o5 w.params 0=true:=by kernel_rfl
theorem Oi(w:World):o5 w.params 43=true:=by kernel_rfl
theorem Oj(w:World):o5 w.params 30=true:=by kernel_rfl
theorem Du{w:World}{hp:Heap}(H:j3 w hp):hp.NoLimit:=IT H (by kernel_rfl) (by kernel_rfl)
noncomputable def Ol{w:World}{hp:Heap}(H:j3 w hp):Tops (n3 H):=⟨fO w.params 3,fO w.params 0,iP H (LL w),iP H (QT w)⟩
noncomputable def Pa(P:Params)(p:Str×GV):Bool:=match p.2 with
 |.fn i=>decide (fO P 3 p.1=some (.ref (iG i)))&&(ah i).isSome
 |.gl i=>oS (nY (fO P 3 p.1)) λv=>O9 P (aa i) v
 |.bi s=>decide (fO P 3 p.1=none)&&decide (fO P 0 p.1=some (.builtin s))
 |.ty s=>decide (fO P 3 p.1=none)&&decide (fO P 0 p.1=some (.type s))
 |.cls c=>decide (fO P 3 p.1=some (.ref (bT c)))
theorem LM(w:World):qG.all (Pa w.params)=true:=by kernel_rfl
theorem lookup_mem{x:Str}{g:GV}{l:List (Str×GV)}:l.lookup x=some g->(x,g)∈l:=by
 induction l with
 |nil=>exact λh=>nomatch h
 |cons p l ih=>
  intro h
  rw[List.lookup_cons] at h
  cases hb:x == p.1 with
  |true=>rw[hb] at h;cases h;exact eq_of_beq hb▸List.mem_cons_self
  |false=>rw[hb] at h;exact List.mem_cons_of_mem _ (ih h)
theorem kQ(w:World){x:Str}{g:GV}(h:glob x=some g):Pa w.params (x,g)=true:=List.all_eq_true.mp (LM w) _ (lookup_mem h)
noncomputable def j5(P:Params):Frag:=[(478,Lb),(520,Lh),(477,K9 P),(519,Lg P),(461,K7),(475,K8),(496,Lc),(503,Ld),(510,Le),(517,Lf),(28,K6)]
theorem IX(w:World):(j5 w.params).map (λp=>pT w.params p.1)=(j5 w.params).map λp=>some p.2:=by kernel_rfl
theorem Bt(w:World):(j5 w.params).map (λp=>alive p.2)=(j5 w.params).map λp=>some p.2:=by kernel_rfl
theorem zu{w:World}{hp:Heap}(H:j3 w hp):(j5 w.params).In hp:=
 Frag.in_of rfl (List.map_map.trans (List.map_congr_left λp m=>H p.1 p.2 (List.map_inj_left.mp (IX w) p m) (List.map_inj_left.mp (Bt w) p m)))
theorem Bu{m f:Nat}(h:dW 0 m=some f):m=3/\f=102:=by
 match m,h with
 |3,h=>cases h;exact⟨rfl,rfl⟩
theorem G7{m f:Nat}(h:dW 1 m=some f):(m=3/\f=105)\/(m=4/\f=106)\/(m=5/\f=104):=by
 match m,h with
 |3,h=>cases h;exact .inl ⟨rfl,rfl⟩
 |4,h=>cases h;exact .inr (.inl ⟨rfl,rfl⟩)
 |5,h=>cases h;exact .inr (.inr ⟨rfl,rfl⟩)
theorem IY(P:Params):ik (j5 P) 0/\keepIn (j5 P) (.ref (bT 0))=true:=
 ⟨⟨by kernel_rfl,by kernel_rfl,λm f h=>(Bu h).1▸(Bu h).2▸⟨by kernel_rfl,by kernel_rfl⟩,λhs t v n hv=>by kernel_rfl,by kernel_rfl,by kernel_rfl,by kernel_rfl,by kernel_rfl,by kernel_rfl,λf h=>by
   cases h;exact⟨by kernel_rfl,by kernel_rfl⟩⟩,by kernel_rfl⟩
theorem IZ(P:Params):ik (j5 P) 1/\keepIn (j5 P) (.ref (bT 1))=true:=
 ⟨⟨by kernel_rfl,by kernel_rfl,λm f h=>(G7 h).elim (λx=>x.1▸x.2▸⟨by kernel_rfl,by kernel_rfl⟩) λy=>y.elim (λx=>x.1▸x.2▸⟨by kernel_rfl,by kernel_rfl⟩) λx=>x.1▸x.2▸⟨by kernel_rfl,by kernel_rfl⟩,λhs t v n hv=>by kernel_rfl,by kernel_rfl,by kernel_rfl,by kernel_rfl,by kernel_rfl,by kernel_rfl,λf h=>by
   cases h;exact⟨by kernel_rfl,by kernel_rfl⟩⟩,by kernel_rfl⟩
theorem tf{M:Nat->Prop}(h0:M 0)(h1:M 1)(c:Nat)(h:c<=1):M c:=by
 cases c with
 |zero=>exact h0
 |succ c=>cases c with
  |zero=>exact h1
  |succ c=>exact absurd (Nat.le_of_succ_le_succ h) (Nat.not_succ_le_zero c)
theorem zv{c m f:Nat}(h:dW c m=some f):c<=1:=by
 cases c with
 |zero=>exact Nat.zero_le 1
 |succ c=>cases c with
  |zero=>exact Nat.le_refl 1
  |succ c=>exact nomatch h
noncomputable abbrev zw:FuncData:=fd (eB (cM (eB pw.main.body 37)) 0) "__init__" "RuneError.__init__" (vs "framerune.faults" 259) (vr 27)
theorem LO{w:World}{hp:Heap}(H:j3 w hp):we (n3 H) 28 zw ["self","code","at"] 3 [.Assign [.Attribute (.Name "self" ⟨41,8,41,12⟩) "code" ⟨41,8,41,17⟩] (.Name "code" ⟨41,20,41,24⟩) ⟨41,8,41,24⟩,.Assign [.Attribute (.Name "self" ⟨42,8,42,12⟩) "at" ⟨42,8,42,15⟩] (.Name "at" ⟨42,18,42,20⟩) ⟨42,8,42,20⟩] where
 at_:=⟨K6,H _ _ (by kernel_rfl) rfl,rfl⟩
 hb:=by kernel_rfl
 gl:=rfl
 bi:=rfl
 cd:=w9 H (by kernel_rfl)
 lim:=Du H
 bind:=λvs hv=>by
  have e:zw.params.args.map (·.arg)=(["self","code","at"]:List Str):=by kernel_rfl
  exact(rT zw zw.params.args vs (by rw[e];decide+kernel) (by kernel_rfl) rfl (hv.trans (by kernel_rfl))).trans (by rw[e];rfl)
 loc:=λx hx=>of_decide_eq_true (List.all_eq_true.mp (show (["self","code","at"]:List Str).all (λx=>decide (zw.scope.names.lookup x=some .local))=true by kernel_rfl) x hx)
 Cv:=λx hx=>of_decide_eq_true (List.all_eq_true.mp (show zw.scope.names.all (λx=>decide (x.2≠ .cell))=true by kernel_rfl) x hx)
 nd:=by decide+kernel
 np:=Nat.le_refl 3
 co:=by kernel_rfl
 ge:=by kernel_rfl
 kf:=by kernel_rfl
theorem LP{w:World}{hp:Heap}(H:j3 w hp):hp.get? 44=some O6:=H _ _ (by kernel_rfl) rfl
theorem I0{w:World}{hp:Heap}(H:j3 w hp):nS (n3 H) where
 two:=⟨fO w.params 43,fO w.params 30,⟨⟨_,_,_,_,_,_,_,_,_,_,_,_,_,_,LP H,iP H (Oi w)⟩,_,_,_,_,H _ O5 (by kernel_rfl) rfl,iP H (Oj w)⟩,
  by kernel_rfl,by kernel_rfl,λn hn=>by
   have e:(["__setattr__","code","at"]:List Str).all (λn=>decide (fO w.params 43 n=none)&&decide (fO w.params 30 n=none))=true:=by kernel_rfl
   have q:=dec (List.all_eq_true.mp e n hn)
   exact⟨q.1,of_decide_eq_true q.2⟩⟩
 fn:=⟨_,_,_,_,_,_,_,_,_,LO H⟩
 bf:=λh self k=>bind_fn (K:=j5 w.params) (λa o e=>k a o (zu H a o e)) self (by kernel_rfl)
theorem QU{w:World}{hp:Heap}(H:j3 w hp):K0 (n3 H) (Ol H) glob ah aa iG (j5 w.params) where
 fn:=λx i h=>⟨(dec (kQ w h)).1,Option.isSome_iff_exists.mp (dec (kQ w h)).2⟩
 gv:=λx i h=>oS.e (kQ w h) λv e q=>⟨v,e,LG H q⟩
 bi:=λx s h=>⟨(dec (kQ w h)).1,of_decide_eq_true (dec (kQ w h)).2⟩
 ty:=λx s h=>⟨(dec (kQ w h)).1,of_decide_eq_true (dec (kQ w h)).2⟩
 cl:=λx c h=>of_decide_eq_true (kQ w h)
 X:=zu H
 ok:=tf (IY _) (IZ _)
 me:=λc f m h=>⟨zv h,tf (M:=λc=>dW c m=some f->iG f=ej f/\∃d,ah f=some d) (λh=>(Bu h).2▸⟨rfl,_,rfl⟩) (λh=>(G7 h).elim (λx=>x.2▸⟨rfl,_,rfl⟩) λy=>y.elim (λx=>x.2▸⟨rfl,_,rfl⟩) λx=>x.2▸⟨rfl,_,rfl⟩) c (zv h) h⟩
 tV:=tf ⟨101,rfl,rfl,_,rfl⟩ ⟨103,rfl,rfl,_,rfl⟩
 ex:=⟨_,_,_,_,_,_,_,_,_,_,_,_,_,_,_,_,_,LP H,by decide+kernel⟩
 Dj:=I0 H
 defs:=λi d h=>LJ H (Du H) h (LK w h)
end FR
end
section
set_option maxRecDepth 100000
set_option maxHeartbeats 0
namespace FR
open PySem PySem.W PySem.Calls PyProof.Rows PySem.SeqAt
noncomputable def zx:Prop:=∀ns:List Int,ns.length<=63->∃af,ar ah aa 12 41 [.cQ (ns.map .int)] []=some (.ok (.bool true),af)
noncomputable def Pb(s:Shared):Heap:=hideAll s.heap [17]
theorem Dv{w:World}{s:Shared}(jo:Sub (H1 w) s.heap):j3 w (Pb s):=by
 intro a o h ho
 have h:(bif Nat.blt a 1106&& !(Nat.beq a 17) then (hT w.params).get a else none)=some o:=h
 cases q:Nat.blt a 1106&& !(Nat.beq a 17) with
 |false=>rw[q] at h;exact nomatch h
 |true=>
  rw[q] at h
  have q:=aw q
  exact hideAll_get _ (jo a o ((abs_get (Nat.blt_eq.mp q.1) h).trans ho)) λm=>Nat.ne_of_beq_eq_false (not_of q.2) (List.mem_singleton.mp m)
theorem QV(w:World):(H1 w).get? 17=some (wK w.params):=(abs_get (t:=hT w.params) (a:=17) (n:=1106) (life:=L0) (o:=wK w.params) (by decide) (by kernel_rfl)).trans rfl
theorem QW(w:World):(H1 w).isNs 17=true:=by kernel_rfl
theorem Fu(w:World):(wK w.params).cls≠Value.type "list":=by unfold wK;show Value.type "dict"≠Value.type "list";decide
noncomputable def G8{w:World}{s:Shared}(H:j3 w (Pb s)):Cx:={toBs:=n3 H,fr:=[],L:=17,locs:=[],kf:=λO m=>absurd m List.not_mem_nil,lf:=hideAll_none _ List.mem_cons_self}
theorem I3(LR:zx){w:World}{s:Shared}(jo:Sub (H1 w) s.heap){ns:List Int}{vs:List Value}{a:Addr}(hL:s.heap.IsList a vs.toArray)(hI:IntsAre vs ns)(hn:ns.length<=63):
  codeAny (model pw w) callerA (.call (.ref (iG 41)) ⟨[.ref a],[]⟩) (λr s'=>∃h' t',r=.ok (.ret (.bool true))/\s'={s with heap:=h',toks:=t'}/\Sub s.heap h') s:=by
 refine(LR ns hn).elim λaf e=>hL.elim λo hL=> ?_
 have H:=Dv jo
 have ha:a∉[17]:=λq=>Fu w (bp (jo _ _ (QV w)) (List.mem_singleton.mp q▸hL.1)▸hL.2.1)
 have I:Inv (G8 H) [] [] ⟨[],s⟩:=⟨⟨rfl,(λi o e=>nomatch e:∀i o,aj [] i=some o->_),List.nodup_nil,λO m=>absurd m List.not_mem_nil⟩,λa o e=>of_hideAll _ e,λO m=>absurd m List.not_mem_nil,λO m=>absurd m List.not_mem_nil,_,(Heap.Ns.of_isNs (QW w)).keeps jo,λi x p hx O=>nomatch hx⟩
 have V:b4 (G8 H) ⟨[],s⟩ [.cQ (ns.map .int)] [.ref a]:=⟨⟨a,o,vs.toArray,rfl,hideAll_get _ hL.1 ha,hL.2.1,hL.2.2,pO hI⟩,trivial⟩
 have F:wd (G8 H) (λO O=>False) (λv s'=>v=.bool true/\∃h' t',s'={s with heap:=h',toks:=t'}/\Sub s.heap h') ⟨[],s⟩ (ar ah aa 12 41 [.cQ (ns.map .int)] []):=by
  rw[e]
  exact λP' v A O V=>⟨V,P'.s.heap,P'.s.toks,A.same,λb o e=>(A.keep b o e List.not_mem_nil List.not_mem_nil List.not_mem_nil).2⟩
 refine codeAny_mono (Dp (QU H) 12 41 GA rfl (G8 H) callerA rfl [] [] ⟨[],s⟩ _ _ _ _ rfl rfl (by decide) (by decide) I V F) λr s' z=> ?_
 cases r with
 |error e=>exact z.elim
 |ok f=>cases f with
  |ret v=>exact z.2.elim λh' x=>x.elim λt' x=>⟨h',t',congrArg (λv=>Except.ok (Flow.ret v)) z.1,x.1,x.2⟩
  |_=>exact z.elim
theorem LQ{h:Heap}{a:Addr}{m m':Str->Option Value}(N:h.Ns a m)(N':h.Ns a m')(x:Str):m x=m' x:=by
 obtain ⟨o,es,ep,g1,g2,_,g4⟩:=N
 obtain ⟨o',Dw,U8,SS,LS,_,SU⟩:=N'
 cases bp g1 SS
 cases g2.symm.trans LS
 exact(g4 x).symm.trans (SU x)
theorem LU(w:World):fO w.params 3 "law"=some (.ref (iG 41)):=by kernel_rfl
set_option tactic.hygienic true in
theorem holds_of(LR:zx):PySem.Challenge.rw_sa0237_01.Holds:=by
 w_on
 refine holds_law LA λLA=> ?_
 refine holds_open (q:=q0) (loose:=eW) (Xt:=Ly) (XP:=λO O=>True) (Yf:=λs=>s.heap) (Ya:=λw=>H1 w) (YP:=λw h=>∀a o,(H1 w).get? a=some o->h.get? a=some o) (N:=7000) (left λO O=>rfl) (λO O e O O h=>e▸h) (λO O O h k a o e=>k a o (h a o e)) (λs e=>trivial) (λO O O O O=>trivial) (by rfl) (by rfl) (by rfl) (λs e=>recFacts_of e) (by rfl) (by first | assumption | decide+kernel) (by decide+kernel) ⟨rfl,rfl,rfl,rfl,rfl,by decide+kernel⟩ ?hw ?hc
 case hw=>w_witness2
 intro w UR cJ mg mb G jo fa o pm cd doc dV kV ho hd m7 hD SV hg args vals as QX QY SW SX GY
 wrow_args QX QY SW SX GY
 rename_i ns hs UO U9 hr Vb Vc Ve a vs Vf hL ra w1 r0 hI G9 US Vg
 have QZ:mg "law"=some (.ref fa):=SV
 have SY:fa=iG 41:=Value.ref.inj (Option.some.inj (QZ.symm.trans ((LQ G.T.g ((iP (Dv jo) (LL w)).keeps (h':=cJ.heap) (λb o e=>of_hideAll _ e)) _).trans (LU w))))
 subst SY
 have run:=I3 LR jo hL hI (by omega)
 refine wpAny_call (codeAny_mono run λr s' z=> ?_)
 obtain ⟨h',t',rfl,rfl,keep⟩:=z
 refine⟨.inl ⟨.bool true,.bool true,[],rfl,λcls=>rfl,.bool true,?hp,λO=>⟨by simp,by simp⟩⟩,.of_keep keep,rfl,.of_eq hg⟩
 case hp=>wrow_post
end FR
end
namespace FR.Q
open PySem
theorem d5:ah 5=some tP:=rfl
theorem LV:ah 102=some kD:=rfl
theorem Q0:ah 105=some jA:=rfl
theorem Q1:ah 106=some iF:=rfl
noncomputable abbrev Es:=List (Key×PV)
structure Tb where
 R:Int->List Row
 keys:List Int
 txt:List (List Nat)
 gh:List (List Nat)
noncomputable def bt{S X:Type}(step:S->Nat->X->S×List PV):S->Nat->List X->S×List PV
 |s,_,[]=>(s,[])
 |s,k,x::l=>((bt step (step s k x).1 (k+1) l).1,(step s k x).2++(bt step (step s k x).1 (k+1) l).2)
noncomputable abbrev big(T:List PV):Prop:=T.length<=65536
theorem big.fits{T:List PV}(h:big T):fits T=true:=decide_eq_true h
noncomputable def cl(r:Row)(k:Nat):Int:=r.getD k 0
noncomputable def tell{X:Type}(p:Nat->X->List PV):Nat->List X->List PV
 |_,[]=>[]
 |k,x::l=>p k x++tell p (k+1) l
theorem Dx{X:Type}(p:Nat->X->List PV)(l:List X):∀k:Nat,(bt (λ(O:Unit) k x=>((),p k x)) () k l)=((),tell p k l):=by
 induction l with
 |nil=>exact λO=>rfl
 |cons x l ih=>exact λk=>congrArg (λq:Unit×List PV=>(q.1,p k x++q.2)) (ih (k+1))
noncomputable def cG(m:Int):Nat->List Int
 |0=>[]
 |n+1=>m::cG (m+1) n
theorem ue(k:Nat):∀m x:Int,x∈cG m k↔m<=x/\x<m+k:=by
 induction k with
 |zero=>exact λm x=>⟨λh=>absurd h List.not_mem_nil,λh=>absurd (Int.add_zero m▸h.2) (Int.not_lt.mpr h.1)⟩
 |succ k ih=>
  intro m x
  have e:m+1+(k:Int)=m+((k+1:Nat):Int):=by rw[Int.add_assoc,Int.add_comm 1];rfl
  refine List.mem_cons.trans ⟨λh=>h.elim (λh=>h▸⟨Int.le_refl _,Int.lt_add_of_pos_right _ (Int.natCast_pos.mpr (Nat.succ_pos k))⟩) λh=> ?_,λh=> ?_⟩
  ·have h:=(ih _ _).mp h
   exact⟨Int.le_of_lt h.1,e▸h.2⟩
  ·by_cases q:x=m
   ·exact .inl q
   ·exact .inr ((ih _ _).mpr ⟨Int.lt_iff_le_and_ne.mpr ⟨h.1,Ne.symm q⟩,e.symm▸h.2⟩)
noncomputable def c6{α:Type}(l:List α)(k:Int):Option α:=if k<0 then .none else l[k.toNat]?
noncomputable def jv(s:List Nat):PV:=.tup (s.map λ(n:Nat)=>PV.int n)
noncomputable def coded:Int->Int×List Int
 |0=>(2,[2,1,27])
 |1=>(2,[4,8,23])
 |2=>(3,[2,1,-1,6,27])
 |3=>(1,[20,23])
 |4=>(1,[6,10])
 |5=>(2,[0,-1,35,1])
 |6=>(1,[2,6])
 |_=>(0,[])
noncomputable def cX(c n:Int):Option (Int×Int):=
 match (coded c).2[(Builtin.bitAnd n (2 ^ (coded c).1.toNat-1)).toNat]? with
 |some t=>if t<0 then .none else some (t,n.fdiv (2 ^ (coded c).1.toNat))
 |.none=>.none
noncomputable def cnt(B:Tb)(t:Int):Int:=((B.R t).length:Int)
noncomputable def bk(B:Tb)(t k:Int):Row:=(B.R t).getD (k-1).toNat []
noncomputable def isIf(r:Row):Bool:= !decide (Builtin.bitAnd (cl r 0) 32=0)
noncomputable def n4(m t:Int):Bool:=if t=20 then (decide (m=8)||decide (m=16)) else (decide (m=1)||decide (m=2))
noncomputable def da(B:Tb)(sort k:Int)(none:Bool):Bool:=
 if sort<512 then decide (k>=1)&&decide (k<=cnt B (sort-256))
 else match cX (sort-512) k with
  |.none=>true
  |some p=>if p.2=0 then none else decide (p.2>=1)&&decide (p.2<=cnt B p.1)
noncomputable def fv(B:Tb)(t:Int)(p:Nat)(k:Int):Int:=cl (bk B t k) p
noncomputable def gk(B:Tb)(t:Int)(p:Nat)(o k:Int):Int:=if k<cnt B t then cl (bk B t (k+1)) p else cnt B o+1
noncomputable def iV{X:Type}(p:Nat->X->Option Int):Nat->List X->Option Int
 |_,[]=>.none
 |k,x::l=>match p k x with
  |some v=>some v
  |.none=>iV p (k+1) l
noncomputable def xa(B:Tb)(t:Int)(p:Nat)(o k:Int)(_:Nat)(x:Int):Option Int:=if (decide (k>=fv B t p x)&&decide (k<gk B t p o x))=true then some x else .none
noncomputable def eC(B:Tb)(t:Int)(p:Nat)(o k:Int):Int:=(iV (xa B t p o k) 0 (cG 1 (cnt B t).toNat)).getD 0
noncomputable def lists:List Row:=[[2,4,4],[2,5,6],[6,5,8],[18,1,20],[21,1,23]]
noncomputable def gT(t P:Int):Bool:=lists.any λr=>decide (cl r 0=t)&&decide (cl r 1=P)
noncomputable def gU(t:Int):List Int->Bool
 |[]=>false
 |y::r=>decide (y=t)||gU t r
noncomputable def th(t:List Nat):List (List Nat)->Bool
 |[]=>false
 |y::r=>decide (y=t)||th t r
noncomputable def Bv:List Int:=[4,6,10,17,23,27,43]
noncomputable def Bw:List (List Nat):=[[83,105,103,110,97,116,117,114,101],[84,121,112,101],[73,110,115,116,97,110,116,105,97,116,105,111,110]]
noncomputable def jf(B:Tb)(t:Int)(nm:List Nat)(sort off:Int):Bool:=
 if sort=4 then (c6 B.txt off).isSome
 else if sort=5 then match c6 B.gh off with
  |some s=>decide ((s.length:Int)>0)||(!gU t Bv|| !th nm Bw)
  |.none=>false
 else true
noncomputable def look{α:Type}(d:α):List (Int×α)->Int->α
 |[],_=>d
 |p::r,t=>if p.1=t then p.2 else look d r t
noncomputable def cols(t:Int):List (List Nat×Int):=look [] ri t
noncomputable def aB:List Int:=[0,1,2,4,6,8,9,10,11,17,18,20,21,23,24,25,27,32,35,41,42,43,44]
theorem xc{α:Type}{d:α}{l:List (Int×α)}{t:Int}(h:t∈l.map (·.1)):(t,look d l t)∈l:=by
 induction l with
 |nil=>exact absurd h List.not_mem_nil
 |cons p r ih=>
  show (t,if p.1=t then p.2 else look d r t)∈p::r
  by_cases e:p.1=t
  ·rw[if_pos e,<-e];exact List.mem_cons_self
  ·rw[if_neg e];exact List.mem_cons_of_mem _ (ih ((List.mem_cons.mp h).resolve_left λh=>e h.symm))
theorem Dy{α:Type}{d:α}(f:α->PV){l:List (Int×α)}{t:Int}(h:t∈l.map (·.1)):l5 (l.map (·.1)) (l.map λp=>f p.2) t=some (f (look d l t)):=by
 induction l with
 |nil=>exact absurd h List.not_mem_nil
 |cons p r ih=>
  show (if p.1=t then some (f p.2) else l5 (r.map (·.1)) (r.map λp=>f p.2) t)=some (f (if p.1=t then p.2 else look d r t))
  by_cases e:p.1=t
  ·rw[if_pos e,if_pos e]
  ·rw[if_neg e,if_neg e];exact ih ((List.mem_cons.mp h).resolve_left λh=>e h.symm)
theorem I4{t:Int}(h:t∈aB):index tQ (.int t) []=some (.tup ((cols t).map ec)):=Dy (l:=ri) (d:=[]) (λl=>PV.tup (l.map ec)) h
noncomputable def o6(c:List Nat×Int):Bool:=decide (c.2<512)||(decide (512<=c.2)&&decide (c.2<=518))
theorem zy{t:Int}(h:t∈aB):∀c∈cols t,o6 c=true:=by
 have k:(ri.all λp=>p.2.all o6)=true:=rfl
 exact List.all_eq_true.mp (List.all_eq_true.mp k _ (xc h))
theorem Fv{l:List (Int×List (List Nat×Int))}(t:Int)(h:(l.all λp=>decide (p.2.length<=9))=true):(look [] l t).length<=9:=by
 induction l with
 |nil=>exact Nat.zero_le _
 |cons p r ih=>
  have h:=Bool.and_eq_true_iff.mp h
  show (if p.1=t then p.2 else look [] r t).length<=9
  by_cases e:p.1=t
  ·rw[if_pos e];exact of_decide_eq_true h.1
  ·rw[if_neg e];exact ih h.2
theorem fP(t:Int):(cols t).length<=9:=Fv t rfl
noncomputable def nz(i:Int):Bool:=i != 0
noncomputable def rU:List Nat:=[116,97,103]
noncomputable def Ha(B:Tb)(t:Int)(j:Nat)(s:Int):List PV:=tell (λk r=>if (cX s (cl r j)).isNone then [msg t (k+1) rU] else []) 0 (B.R t)
noncomputable def Bx(B:Tb)(t:Int):List PV:=tell (λj c=>if decide (c.2>=512) then Ha B t j (c.2-512) else []) 0 (cols t)
noncomputable def tags(B:Tb):List PV:=tell (λO t=>Bx B t) 0 B.keys
noncomputable def gV:List Nat:=[112,97,114,101,110,116]
noncomputable def k8(t:Int)(nm:List Nat):Bool:=(decide (2=t)&&(decide ([69,120,116,101,110,100,115]=nm)&&true))||((decide (20=t)&&(decide ([69,118,101,110,116,84,121,112,101]=nm)&&true))||false)
noncomputable def LW(B:Tb)(t:Int)(j:Nat)(s:Int)(m:Bool):List PV:=tell (λk r=>if !da B s (cl r j) m then [msg t (k+1) gV] else []) 0 (B.R t)
noncomputable def Fw(B:Tb)(t:Int):List PV:=tell (λj c=>if decide (c.2<256)||gT t j then [] else LW B t j c.2 (k8 t c.1)) 0 (cols t)
noncomputable def parents(B:Tb):List PV:=tell (λO t=>Fw B t) 0 B.keys
noncomputable def lK:List Nat:=[104,101,97,112]
noncomputable def Hb(B:Tb)(t:Int)(j:Nat)(c:List Nat×Int):List PV:=tell (λk r=>if !jf B t c.1 c.2 (cl r j) then [msg t (k+1) lK] else []) 0 (B.R t)
noncomputable def By(B:Tb)(t:Int):List PV:=tell (λj c=>Hb B t j c) 0 (cols t)
noncomputable def Bz(B:Tb):List PV:=tell (λO t=>By B t) 0 B.keys
noncomputable def gE:List Nat:=[108,105,115,116]
noncomputable def BA(B:Tb)(p:Nat)(o last:Int)(k:Nat)(r:Row):Bool:=decide (cl r p<last)||(decide (cl r p>cnt B o+1)||(decide ((k:Int)=0)&& !decide (cl r p=1)))
noncomputable def o7(B:Tb)(t:Int)(p:Nat)(o:Int)(last:Int)(k:Nat)(r:Row):Int×List PV:=
 if BA B p o last k r then (last,[msg t (k+1) gE]) else (cl r p,[])
noncomputable def listOf(B:Tb)(t:Int)(p:Nat)(o:Int):List PV:=(if decide (cnt B t=0)&&decide (cnt B o>0) then [msg o 1 gE] else [])++(bt (o7 B t p o) 1 0 (B.R t)).2
noncomputable def xd(B:Tb):List PV:=tell (λO r=>listOf B (cl r 0) (cl r 1).toNat (cl r 2)) 0 lists
theorem gW(k:Key)(v:PV)(es:Es):(bZ es k v).length<=es.length+1:=by
 induction es with
 |nil=>exact Nat.le_refl _
 |cons p r ih=>
  show (if p.1=k then (p.1,v)::r else p::bZ r k v).length<=_
  by_cases h:p.1=k
  ·rw[if_pos h];exact Nat.le_succ _
  ·rw[if_neg h];exact Nat.succ_le_succ ih
noncomputable def one:PV:=.int 1
noncomputable def BB:List Nat:=[109,97,112]
structure iu(B:Tb):Prop where
 len:∀t,(B.R t).length<=60000
 txt:B.txt.length<=60000
 gh:∀s∈B.gh,s.length<=60000
structure Shape(B:Tb):Prop extends iu B where
 keys:∀t∈B.keys,t∈aB
 Om:B.keys.length<=23
 m8:∀t,∀r∈B.R t,r.length=(cols t).length
structure Sound(B:Tb):Prop extends Shape B where
 tx:∀t,∀r∈B.R t,∀(j:Nat),((cols t)[j]?.map Prod.snd)=some 4->∃s,c6 B.txt (cl r j)=some s
 bl:∀t,∀r∈B.R t,∀(j:Nat),((cols t)[j]?.map Prod.snd)=some 5->∃s,c6 B.gh (cl r j)=some s
 nr:∀t,∀r∈B.R t,∀(j:Nat)(c:List Nat×Int),(cols t)[j]? =some c->(decide (c.2<256)||gT t j)=false->da B c.2 (cl r j) (k8 t c.1)=true
 tg:∀t,∀r∈B.R t,∀(j:Nat)(c:List Nat×Int),(cols t)[j]? =some c->c.2>=512->∃p,cX (c.2-512) (cl r j)=some p
 ls:∀l∈lists,∀r∈B.R (cl l 0),1<=cl r (cl l 1).toNat/\cl r (cl l 1).toNat<=cnt B (cl l 2)+1
noncomputable def nm(B:Tb)(k:Int):List Nat:=(c6 B.txt k).getD []
noncomputable def bb(B:Tb)(k:Int):List Nat:=(c6 B.gh k).getD []
noncomputable def j6:List Nat:=[110,97,109,101]
noncomputable def named:List (Int×List Nat×Nat):=[(0,[78,97,109,101],1),(1,[84,121,112,101,78,97,109,101],1),(2,[84,121,112,101,78,97,109,101],1),(4,[78,97,109,101],1),(6,[78,97,109,101],3),(10,[78,97,109,101],1),(20,[78,97,109,101],1),(23,[78,97,109,101],1),(32,[78,97,109,101],7),(35,[78,97,109,101],6),(42,[78,97,109,101],3)]
noncomputable def en(x:Int×List Nat×Nat):PV:=.tup [.int x.1,.str x.2.1]
noncomputable def BC(B:Tb)(t:Int)(p:Nat):List PV:=tell (λk r=>if decide (nm B (cl r p)=[]) then [msg t (k+1) j6] else []) 0 (B.R t)
noncomputable def names(B:Tb):List PV:=tell (λO x=>BC B x.1 x.2.2) 0 named
noncomputable def tj:List Nat:=[99,99,116,111,114]
noncomputable def lL(B:Tb):List PV:=tell (λk r=>if decide (nm B (cl r 3)=[46,99,99,116,111,114]) then (if !nz (Builtin.bitAnd (cl r 2) 16)|| !decide (bb B (cl r 4)=[0,0,1]) then [msg 6 (k+1) tj] else []) else []) 0 (B.R 6)
noncomputable def tm:List Nat:=[112,97,114,97,109]
noncomputable def Hc(B:Tb)(last:Int)(_:Nat)(x:Int):Int×List PV:=
 (cl (bk B 8 x) 1,if decide (cl (bk B 8 x) 1<=last) then [msg 8 x tm] else [])
noncomputable def zz(B:Tb)(k:Int):List PV:=(bt (Hc B) (-1) 0 (cG (fv B 6 5 k) (gk B 6 5 8 k-fv B 6 5 k).toNat)).2
noncomputable def params(B:Tb):List PV:=tell (λO k=>zz B k) 0 (cG 1 (cnt B 6).toNat)
noncomputable def lM:List Nat:=[105,102,97,99,101]
noncomputable def LY(B:Tb)(x0 x1:Int):List PV:=tell (λO x=>if !nz (Builtin.bitAnd (cl (bk B 4 x) 0) 16) then [msg 4 x lM] else []) 0 (cG x0 (x1-x0).toNat)
noncomputable def xe(B:Tb)(k:Nat)(r:Row):List PV:=if isIf r then (if nz ((cl r 3).fdiv 4) then [msg 2 (k+1) lM] else [])++LY B (fv B 2 4 (k+1)) (gk B 2 4 4 (k+1)) else []
noncomputable def lN(B:Tb):List PV:=tell (xe B) 0 (B.R 2)
noncomputable def rV:List Nat:=[98,111,100,121]
noncomputable def tn(r:Row):Bool:= !decide (decide (cl r 0=0)=(!decide (Builtin.bitAnd (cl r 2) 1024=0)||decide (cl r 1>4096)))
noncomputable def lO(l:List Row):List PV:=tell (λk r=>if tn r then [msg 6 (k+1) rV] else []) 0 l
noncomputable abbrev IM:=List (Int×Int)
noncomputable def cc:IM->Int->Option Int
 |[],_=>.none
 |p::r,k=>if p.1=k then some p.2 else cc r k
noncomputable def gw:IM->Int->Int->IM
 |[],k,v=>[(k,v)]
 |p::r,k,v=>if p.1=k then (p.1,v)::r else p::gw r k v
noncomputable def ce(l:IM):Es:=l.map λp=>(.int p.1,.int p.2)
theorem o8{a b:Int}(h:Key.int a=Key.int b):a=b:=by cases h;rfl
theorem tq(k:Int)(l:IM):aT (ce l) (.int k)=(cc l k).map .int:=by
 induction l with
 |nil=>rfl
 |cons p r ih=>
  show (if Key.int p.1=Key.int k then some (PV.int p.2) else aT (ce r) (.int k))=(if p.1=k then some p.2 else cc r k).map .int
  by_cases h:p.1=k
  ·rw[if_pos (congrArg Key.int h),if_pos h];rfl
  ·rw[if_neg λe=>h (o8 e),if_neg h,ih]
theorem LZ(k v:Int)(l:IM):bZ (ce l) (.int k) (.int v)=ce (gw l k v):=by
 induction l with
 |nil=>rfl
 |cons p r ih=>
  show (if Key.int p.1=Key.int k then (Key.int p.1,PV.int v)::ce r else (Key.int p.1,PV.int p.2)::bZ (ce r) (.int k) (.int v))=ce (if p.1=k then (p.1,v)::r else p::gw r k v)
  by_cases h:p.1=k
  ·rw[if_pos (congrArg Key.int h),if_pos h];rfl
  ·rw[if_neg λe=>h (o8 e),if_neg h,ih];rfl
theorem mI(k v:Int)(l:IM):(gw l k v).length<=l.length+1:=by
 induction l with
 |nil=>exact Nat.le_refl _
 |cons p r ih=>
  show (if p.1=k then (p.1,v)::r else p::gw r k v).length<=_
  by_cases h:p.1=k
  ·rw[if_pos h];exact Nat.le_succ _
  ·rw[if_neg h];exact Nat.succ_le_succ ih
noncomputable def Hd(t:Int)(m:IM)(k:Nat)(r:Row):IM×List PV:=(gw m (cl r 0) 1,if (cc m (cl r 0)).isSome then [msg t (k+1) BB] else [])
noncomputable def ve(B:Tb)(t:Int):List PV:=(bt (Hd t) [] 0 (B.R t)).2
noncomputable def BD(B:Tb):List PV:=tell (λO t=>ve B t) 0 [18,21]
noncomputable def xf:List Nat:=[105,109,112,108]
noncomputable def fg(a b:Int):Key:=.tup [.i a,.i b]
noncomputable def bL(_:Tb)(c k:Int):Int×Int:=(cX c k).getD (0,0)
noncomputable def stepI(B:Tb)(es:Es)(k:Nat)(r:Row):Es×List PV:=(bZ es (fg (cl r 0) (cl r 2)) one,
 if !decide ((bL B 4 (cl r 1)).1=6)|| !decide (eC B 2 5 6 (bL B 4 (cl r 1)).2=cl r 0) then [msg 25 (k+1) xf] else if (aT es (fg (cl r 0) (cl r 2))).isSome then [msg 25 (k+1) xf] else [])
noncomputable def o9(B:Tb):List PV:=(bt (stepI B) [] 0 (B.R 25)).2
noncomputable def qI:List Nat:=[110,117,109,98,101,114]
noncomputable def fc:List Nat:=[116,119,105,99,101]
noncomputable def Fx(B:Tb)(r:Row):Key:=.tup [.i (cl r 2),.s (nm B (cl r 3))]
noncomputable def vf(B:Tb)(s:IM×Es)(k:Nat)(r:Row):(IM×Es)×List PV:=
 ((gw s.1 (cl r 2) (cl r 0+1),bZ s.2 (Fx B r) one),
 (if !decide (cl r 0=(cc s.1 (cl r 2)).getD 0) then [msg 42 (k+1) qI] else [])++(if (aT s.2 (Fx B r)).isSome then [msg 42 (k+1) fc] else []))
noncomputable def iQ(B:Tb):List PV:=(bt (vf B) ([],[]) 0 (B.R 42)).2
noncomputable def f7:List Nat:=[99,111,110,115,116,97,110,116]
noncomputable def L3(B:Tb)(es:Es)(p:Int×Int):Bool:=(aT es (fg p.1 p.2)).isSome||(!decide (p.1=4)|| !nz (Builtin.bitAnd (cl (bk B 4 p.2) 0) 64))
noncomputable def stepK(B:Tb)(es:Es)(k:Nat)(r:Row):Es×List PV:=
 (bZ es (fg (bL B 1 (cl r 1)).1 (bL B 1 (cl r 1)).2) one,if L3 B es (bL B 1 (cl r 1)) then [msg 11 (k+1) f7] else [])
noncomputable def Fy(es:Es)(k:Nat)(r:Row):Bool:=
 !decide ((!decide (Builtin.bitAnd (cl r 0) 32768=0))=(aT es (fg 4 (k+1))).isSome)||
 (nz (Builtin.bitAnd (cl r 0) 64)&& !((aT es (fg 4 (k+1))).isSome&&nz (Builtin.bitAnd (cl r 0) 16)))
noncomputable def L4(es:Es)(l:List Row):List PV:=tell (λk r=>if Fy es k r then [msg 4 (k+1) f7] else []) 0 l
noncomputable def constants(B:Tb):List PV:=(bt (stepK B) [] 0 (B.R 11)).2++L4 (bt (stepK B) [] 0 (B.R 11)).1 (B.R 4)
noncomputable def b8(t:Int):Int:=if t=20 then 18 else 21
noncomputable def xg(B:Tb)(t k:Int):Int:=if eC B (b8 t) 1 t k=0 then-1 else cl (bk B (b8 t) (eC B (b8 t) 1 t k)) 0
noncomputable def iv(k:Int):Int:=Builtin.bitOr (k*2) 0
noncomputable def pa:List Nat:=[115,101,109,97,110,116,105,99,115]
noncomputable def eP(B:Tb)(es:Es)(k:Nat)(r:Row):Es×List PV:=(bZ es (fg (cl r 0) (cl r 2)) one,
 if !n4 (cl r 0) (bL B 3 (cl r 2)).1||(aT es (fg (cl r 0) (cl r 2))).isSome then [msg 24 (k+1) pa]
 else if !decide (eC B 2 5 6 (cl r 1)=xg B (bL B 3 (cl r 2)).1 (bL B 3 (cl r 2)).2) then [msg 24 (k+1) pa] else [])
noncomputable def L5(es:Es)(m:Int):List PV:=tell (λO x=>if !(aT es (fg 8 (iv x))).isSome|| !(aT es (fg 16 (iv x))).isSome then [msg 20 x pa] else []) 0 (cG 1 m.toNat)
noncomputable def fQ(B:Tb):List PV:=(bt (eP B) [] 0 (B.R 24)).2++L5 (bt (eP B) [] 0 (B.R 24)).1 (cnt B 20)
noncomputable def j7:List Nat:=[115,105,110,103,108,101]
noncomputable def mJ:List Nat:=[109,111,100,117,108,101]
noncomputable def modName:List Nat:=[60,77,111,100,117,108,101,62]
noncomputable def Dz(B:Tb):Bool:=match B.R 2 with
 |[]=>true
 |r::_=> !decide (nm B (cl r 1)=modName)||(isIf r||nz ((cl r 3).fdiv 4))
noncomputable def jN(B:Tb):List PV:=tell (λO t=>if !decide (cnt B t=1) then [msg t (cnt B t) j7] else []) 0 [0,32]++(if Dz B then [msg 2 1 mJ] else [])
noncomputable def gX:List Nat:=[110,101,115,116,101,100]
noncomputable def iW(m:IM)(k:Nat)(r:Row):IM×List PV:=
 if (cc m (cl r 0)).isSome then (m,[msg 41 (k+1) gX]) else (gw m (cl r 0) (cl r 1),[])
noncomputable def walk(m:IM)(r0:Int):Nat->Int->Int
 |0,x=>x
 |d+1,x=>match cc m x with
  |some v=>if x=r0 then x else walk m r0 d v
  |.none=>x
noncomputable def Oo(m:IM)(l:List Row):List PV:=tell (λk r=>if decide (walk m (cl r 0) (m.length+1) (cl r 1)=cl r 0) then [msg 41 (k+1) gX] else []) 0 l
noncomputable def nested(B:Tb):List PV:=(bt iW [] 0 (B.R 41)).2++Oo (bt iW [] 0 (B.R 41)).1 (B.R 41)
noncomputable def qJ:List Nat:=[99,111,114,101]
noncomputable def xh:List Nat:=[79,98,106,101,99,116]
noncomputable def inner(B:Tb):List Int:=(B.R 41).map λr=>cl r 0
noncomputable def He(B:Tb)(k:Nat)(r:Row):Option Int:=if (decide (nm B (cl r 2)=[])&&(decide (nm B (cl r 1)=xh)&&true))&& !gU (k+1) (inner B) then some ((k:Int)+1) else .none
noncomputable def kR(B:Tb):Int:=if decide (cnt B 32=0)|| !decide (nm B (cl (bk B 32 1) 7)=qJ) then 0 else (iV (He B) 0 (B.R 2)).getD 0
noncomputable def j8:List Nat:=[98,97,115,101]
noncomputable def tu(B:Tb)(root x:Int):Bool:= !isIf (bk B 2 x)&& !decide (decide ((cl (bk B 2 x) 3).fdiv 4=0)=decide (x=root))
noncomputable def bases(B:Tb):List PV:=tell (λO x=>if tu B (kR B) x then [msg 2 x j8] else []) 0 (cG 2 (cnt B 2-1).toNat)
noncomputable def encl(B:Tb):IM:=(bt (λ(m:IM) O r=>(gw m (cl r 0) (cl r 1),[])) [] 0 (B.R 41)).1
noncomputable def BE(a:Int)(s t:List Nat):Key:=.tup [.i a,.s s,.s t]
noncomputable def stepT(B:Tb)(m:IM)(es:Es)(k:Nat)(r:Row):Es×List PV:=
 (bZ es (BE ((cc m (k+1)).getD 0) (nm B (cl r 2)) (nm B (cl r 1))) one,if (aT es (BE ((cc m (k+1)).getD 0) (nm B (cl r 2)) (nm B (cl r 1)))).isSome then [msg 2 (k+1) fc] else [])
noncomputable def vg(B:Tb)(es:Es)(k:Nat)(r:Row):Es×List PV:=
 (bZ es (BE (cl r 0) (nm B (cl r 2)) (nm B (cl r 1))) one,if (aT es (BE (cl r 0) (nm B (cl r 2)) (nm B (cl r 1)))).isSome then [msg 1 (k+1) fc] else [])
noncomputable def mK(B:Tb)(r:Row)(sp:Int):List Nat:=if sp>=0 then bb B (cl r sp.toNat) else []
noncomputable def xi(s:List Nat)(b:List Nat):Key:=.tup [.s s,.n (b.map λ(n:Nat)=>(n:Int))]
noncomputable def rW(B:Tb)(o:Int)(np:Nat)(sp:Int)(es:Es)(_:Nat)(x:Int):Es×List PV:=
 (bZ es (xi (nm B (cl (bk B o x) np)) (mK B (bk B o x) sp)) one,if (aT es (xi (nm B (cl (bk B o x) np)) (mK B (bk B o x) sp))).isSome then [msg o x fc] else [])
noncomputable def xj(B:Tb)(t:Int)(p:Nat)(o:Int)(np:Nat)(sp:Int)(k:Int):List PV:=(bt (rW B o np sp) [] 0 (cG (fv B t p k) (gk B t p o k-fv B t p k).toNat)).2
noncomputable def dM(B:Tb)(t:Int)(p:Nat)(o:Int)(np:Nat)(sp:Int):List PV:=tell (λO k=>xj B t p o np sp k) 0 (cG 1 (cnt B t).toNat)
noncomputable def j9(B:Tb):List PV:=(bt (vg B) [] 0 (B.R 1)).2
noncomputable def kb(B:Tb):List PV:=(bt (stepT B (encl B)) [] 0 (B.R 2)).2
noncomputable def n5(B:Tb):List PV:=kb B++(j9 B++(dM B 2 4 4 1 2++(dM B 2 5 6 3 4++(dM B 21 1 23 1 2++dM B 18 1 20 1 (-1)))))
noncomputable def early(B:Tb):List PV:=tags B++(parents B++(xd B++Bz B))
noncomputable def qK(B:Tb):List PV:=jN B++(BD B++(names B++(n5 B++(lN B++(bases B++(lL B++(lO (B.R 6)++(constants B++(params B++(iQ B++(fQ B++(o9 B++nested B))))))))))))
theorem bh(Z:ae)(i:Nat)(o:MO)(h:aj Z i=some o):i<Z.length:=FR.bh h
theorem dv(Z:ae)(x:ae)(i:Nat)(h:i<Z.length):aj (Z++x) i=aj Z i:=FR.dv h
theorem bz(Z:ae)(o:MO):aj (Z++[o]) Z.length=some o:=FR.bz Z o
theorem fB(Z:ae)(i:Nat)(x:MO):(sset Z i x).length=Z.length:=FR.fB Z i x
theorem bB(Z:ae)(i j:Nat)(x:MO)(h:j≠i):aj (sset Z i x) j=aj Z j:=FR.bB Z x h
theorem ez(Z:ae)(i:Nat)(x:MO)(h:i<Z.length):aj (sset Z i x) i=some x:=FR.ez Z x h
theorem Pc(Z:ae)(i j:Nat)(x:MO):aj (sset Z i x) j=if j=i/\i<Z.length then some x else aj Z j:=by
 by_cases h:j=i
 ·subst h
  by_cases hl:j<Z.length
  ·rw[if_pos ⟨rfl,hl⟩,ez Z j x hl]
  ·rw[if_neg λh=>hl h.2]
   cases e:aj Z j with
   |some o=>exact absurd (bh Z j o e) hl
   |none=>cases e':aj (sset Z j x) j with
    |none=>rfl
    |some o=>exact absurd (fB Z j x▸bh _ j o e') hl
 ·rw[if_neg λc=>h c.1,bB Z i j x h]
structure KE(it:Nat)(Z af:ae):Prop where
 len:Z.length<=af.length
 keep:∀i o,i≠it->aj Z i=some o->aj af i=some o
theorem KE.refl(it:Nat)(Z:ae):KE it Z Z:=⟨Nat.le_refl _,λO O O h=>h⟩
theorem KE.trans{it:Nat}{a b c:ae}(h:KE it a b)(g:KE it b c):KE it a c:=
 ⟨Nat.le_trans h.len g.len,λi o hi ho=>g.keep i o hi (h.keep i o hi ho)⟩
theorem KE.new(it:Nat)(Z:ae)(o:MO):KE it Z (Z++[o]):=
 ⟨by rw[List.length_append];exact Nat.le_add_right _ _,λi p O hp=>(dv Z [o] i (bh Z i p hp)).trans hp⟩
theorem KE.put(it:Nat)(Z:ae)(o:MO):KE it Z (sset Z it o):=
 ⟨Nat.le_of_eq (fB Z it o).symm,λi O hi hp=>(bB Z it i o hi).trans hp⟩
structure Wc where
 it:Nat
 jt:Nat
 jx:Nat
 jb:Nat
 B:Tb
 kg:ae
noncomputable def WS(c:Wc)(T:List PV)(Z:ae):Prop:=(∀i,i<c.it->aj Z i=aj c.kg i)/\aj Z c.it=some (.list T)
theorem WS.lt{c:Wc}{T:List PV}{Z:ae}(h:WS c T Z):c.it<Z.length:=bh _ _ _ h.2
theorem WS.new{c:Wc}{T:List PV}{Z:ae}(h:WS c T Z)(o:MO):WS c T (Z++[o]):=
 ⟨λi hi=>(dv Z [o] i (Nat.lt_trans hi h.lt)).trans (h.1 i hi),(dv Z [o] _ h.lt).trans h.2⟩
theorem WS.put{c:Wc}{T:List PV}{Z:ae}(h:WS c T Z)(T':List PV):WS c T' (sset Z c.it (.list T')):=
 ⟨λi hi=>(bB _ _ _ _ (Nat.ne_of_lt hi)).trans (h.1 i hi),ez _ _ _ h.lt⟩
inductive XV where
 |v (x:PV)
 |rl (w:Nat) (l:List Row)
 |d (kk:KK) (es:Es)
 |m (m:IM)
 |ts | tx | bl | told
 |r (w:Nat) (r:Row)
 |rs (r:Row)
 |t (b:Bool)
 |o (s:List Nat)
 |kv (x:PV) (kk:KK) (k:Key)
 |il (l:List Int)
 |any
noncomputable def VX(c:Wc)(Z:ae):XV->PV->Prop
 |.v x,p=>p=x
 |.rl w l,p=>∃i,p=.ref i/\i≠c.it/\aj Z i=some (.list (l.map pr))/\(∀r∈l,r.length=w)/\w<=65536
 |.d kk es,p=>∃r,p=.ref r/\c.it<r/\aj Z r=some (.dict kk es)
 |.m m,p=>∃r,p=.ref r/\c.it<r/\aj Z r=some (.dict .int (ce m))
 |.ts,p=>p=.inst 1 c.jt
 |.tx,p=>p=.inst 0 c.jx
 |.bl,p=>p=.inst 0 c.jb
 |.told,p=>p=.ref c.it
 |.r w r,p=>p=pr r/\r.length=w/\w<=65536
 |.rs r,p=>p=pr r
 |.t b,p=>truth [] p=some b
 |.o s,p=>p=jv s
 |.kv x kk k,p=>p=x/\toKey kk x=some k
 |.il l,p=>∃i,p=.ref i/\i≠c.it/\aj Z i=some (.list (l.map .int))
 |.any,_=>False
noncomputable def jg(c:Wc)(Z:ae):List XV->List PV->Prop
 |[],[]=>True
 |x::xs,v::vs=>VX c Z x v/\jg c Z xs vs
 |_,_=>False
theorem VX.mono{c:Wc}{Z af:ae}(k:KE c.it Z af){x:XV}{v:PV}(h:VX c Z x v):VX c af x v:=by
 cases x with
 |rl w l=>exact h.imp λi h=>⟨h.1,h.2.1,k.keep i _ h.2.1 h.2.2.1,h.2.2.2⟩
 |il l=>exact h.imp λi h=>⟨h.1,h.2.1,k.keep i _ h.2.1 h.2.2⟩
 |d kk es=>exact h.imp λi h=>⟨h.1,h.2.1,k.keep i _ (Nat.ne_of_gt h.2.1) h.2.2⟩
 |m m=>exact h.imp λi h=>⟨h.1,h.2.1,k.keep i _ (Nat.ne_of_gt h.2.1) h.2.2⟩
 |_=>exact h
theorem jg.mono{c:Wc}{Z af:ae}(k:KE c.it Z af):∀{xs:List XV}{vs:List PV},jg c Z xs vs->jg c af xs vs
 |[],[],_=>trivial
 |_::_,_::_,h=>⟨h.1.mono k,jg.mono k h.2⟩
 |[],_::_,h=>h.elim
 |_::_,[],h=>h.elim
noncomputable def bD:List XV->Nat->XV
 |[],_=>.any
 |x::_,0=>x
 |_::r,i+1=>bD r i
noncomputable def dz:List XV->Nat->XV->List XV
 |[],_,_=>[]
 |_::r,0,x=>x::r
 |y::r,i+1,x=>y::dz r i x
noncomputable def gm:XV->Bool
 |.d _ _=>true
 |.m _=>true
 |_=>false
noncomputable def isA:XV->Bool
 |.any=>true
 |_=>false
structure LX(c:Wc)(n0:Nat)(Z:ae)(aq:List XV)(J:Loc):Prop where
 len:aq.length=J.length
 val:∀i,isA (bD aq i)=false->∃v,bo J i=some v/\VX c Z (bD aq i) v
 dn:∀i r,gm (bD aq i)=true->bo J i=some (.ref r)->n0<=r
 al:∀i j r,gm (bD aq i)=true->gm (bD aq j)=true->bo J i=some (.ref r)->bo J j=some (.ref r)->i=j
theorem LX.mono{c:Wc}{n0:Nat}{Z af:ae}{aq:List XV}{J:Loc}(h:LX c n0 Z aq J)(k:KE c.it Z af):LX c n0 af aq J:=
 {h with val:=λi hi=>(h.val i hi).imp λO g=>⟨g.1,g.2.mono k⟩}
noncomputable abbrev XR(α:Type):=Option (α×List Prop)
noncomputable def All:List Prop->Prop
 |[]=>True
 |p::r=>match r with
  |[]=>p
  |_::_=>p/\All r
theorem All.head{p:Prop}{r:List Prop}(h:All (p::r)):p/\All r:=by
 cases r with
 |nil=>exact⟨h,trivial⟩
 |cons q r=>exact h
theorem All.app:∀{p q:List Prop},All (p++q)->All p/\All q
 |[],_,h=>⟨trivial,h⟩
 |a::p,q,h=>by
  obtain ⟨h1,h2⟩:=All.head h
  obtain ⟨h3,h4⟩:=All.app h2
  refine⟨?_,h4⟩
  cases p with
  |nil=>exact h1
  |cons b p=>exact⟨h1,h3⟩
noncomputable def xb{α β:Type}(m:XR α)(k:α->XR β):XR β:=match m with
 |some (x,p)=>match k x with
  |some (y,q)=>some (y,p++q)
  |none=>none
 |none=>none
noncomputable def xo{α:Type}(m:Option α):XR α:=match m with
 |some x=>some (x,[])
 |none=>none
noncomputable def Sd{α:Type}(m:XR α)(P:α->Prop):Prop:=∀x ps,m=some (x,ps)->All ps->P x
section
variable{α β:Type}{P:α->Prop}{Q:β->Prop}
theorem Sd.none:Sd .none P:=λO O h=>nomatch h
theorem Sd.give{x:α}(h:P x):Sd (some (x,[])) P:=λO O e O=>by cases e;exact h
theorem Sd.opt{m:Option α}(h:∀x,m=some x->P x):Sd (xo m) P:=match m,h with
 |.none,_=>Sd.none
 |some x,h=>Sd.give (h x rfl)
theorem Sd.bind{m:XR α}{k:α->XR β}(h:Sd m P)(hk:∀x,P x->Sd (k x) Q):Sd (xb m k) Q:=match m,h with
 |.none,_=>Sd.none
 |some (x,p),h=>λz ps e a=>by
  simp only [xb] at e
  cases e2:k x with
  |none=>rw[e2] at e;cases e
  |some yq=>
   rw[e2] at e;cases e
   exact hk x (h x p rfl a.app.1) _ _ e2 a.app.2
end
noncomputable def rX{β:Type}(x:XV)(k:PV->XR β):XR β:=match x with
 |.v a=>k a
 |.r _ r=>k (pr r)
 |.rs r=>k (pr r)
 |.o s=>k (jv s)
 |.kv a _ _=>k a
 |_=>none
noncomputable def DA{β:Type}(x:XV)(k:PV->XR β):XR β:=match x with
 |.v a=>k a
 |_=>none
noncomputable def L6{β:Type}(a:PV)(k:Int->XR β):XR β:=match a with
 |.int i=>k i
 |_=>none
noncomputable def L7{β:Type}(a:PV)(k:List PV->XR β):XR β:=match a with
 |.tup l=>k l
 |_=>none
noncomputable def L8{β:Type}(a:PV)(k:List Nat->XR β):XR β:=match a with
 |.str l=>k l
 |_=>none
noncomputable def jh{β:Type}(x:XV)(k:Int->XR β):XR β:=DA x λa=>L6 a k
noncomputable def rY{α β:Type}(m:Option α)(k:α->XR β):XR β:=match m with
 |some a=>k a
 |none=>none
noncomputable def DB{β:Type}(x:XV)(k:Bool->XR β):XR β:=match x with
 |.v a=>rY (truth [] a) k
 |.t b=>k b
 |_=>none
noncomputable def Hf{β:Type}(kk:KK)(x:XV)(k:Key->XR β):XR β:=match x with
 |.kv _ Pd k'=>if Pd=kk then k k' else none
 |x=>rX x λv=>rY (toKey kk v) k
noncomputable def ok{α:Type}(x:α):XR α:=some (x,[])
noncomputable def n6:XV->Bool
 |.v x=>match x with
  |.bool _=>true
  |_=>false
 |_=>false
noncomputable def Fz{β:Type}:List XV->(List PV->XR β)->XR β
 |[],k=>k []
 |x::r,k=>rX x λv=>Fz r λl=>k (v::l)
noncomputable def L9(xs:List XV):XR XV:=match xs with
 |[]=>none
 |x::r=>match r with
  |[]=>none
  |y::r=>match r with
   |[]=>DA x λa=>L8 a λs=>match y with
    |.o u=>ok (.kv (.tup [.str s,jv u]) (.tup [.s,.n]) (xi s u))
    |_=>none
   |_::_=>none
noncomputable def FA(xs:List XV):XR XV:=match L9 xs with
 |some x=>some x
 |none=>Fz xs λvs=>if fits vs then ok (.v (.tup vs)) else none
noncomputable def yes(op:Cm)(b:Bool):XR Bool:=match op with
 |.isin=>ok b
 |.fk=>ok !b
 |_=>none
noncomputable def n7:PV->List Nat
 |.tup l=>l.map λx=>match x with
  |.int i=>i.toNat
  |_=>0
 |_=>[]
noncomputable def Ma(op:Cm)(s:List Nat)(y:XV):XR Bool:=match op with
 |.ne=>DA y λa=>some (!decide (s=n7 a),[a=jv (n7 a)])
 |_=>none
noncomputable def Mb(op:Cm)(x y:XV):XR Bool:=rX x λa=>rX y λb=>rY (kA op a b []) ok
noncomputable def Mc(op:Cm)(x y:XV):XR Bool:=match y with
 |.d kk es=>Hf kk x λk=>yes op (aT es k).isSome
 |.m m=>jh x λi=>yes op (cc m i).isSome
 |.il l=>jh x λi=>yes op (gU i l)
 |y=>match x with
  |.o s=>Ma op s y
  |x=>Mb op x y
noncomputable def Md(x y:XV):XR XV:=match x with
 |.v a=>rX y λi=>rY (index a i []) λr=>ok (.v r)
 |.r w r=>jh y λk=>if decide (0<=k)&&decide (k<(w:Int)) then ok (.v (.int (cl r k.toNat))) else none
 |.rs r=>jh y λk=>some (.v (.int (cl r k.toNat)),[0<=k/\k<r.length/\r.length<=65536])
 |.m m=>jh y λk=>some (.v (.int ((cc m k).getD 0)),[(cc m k).isSome=true])
 |.rl w l=>jh y λk=>if k=0 then match l with
  |r::_=>ok (.r w r)
  |[]=>none
  else none
 |_=>none
noncomputable def Me:XV->XR XV
 |.rl _ l=>some (.v (.int l.length),[fits l=true])
 |.m m=>some (.v (.int m.length),[fits (ce m)=true])
 |_=>none
noncomputable def FC(x:XV):XR XV:=match isA x with
 |true=>none
 |false=>ok x
noncomputable def Hg(B:Tb):XV->XR XV
 |.ts=>ok (.il B.keys)
 |_=>none
noncomputable def imp(a v:Bool):List Prop->List Prop
 |[]=>[]
 |p=>[a=v->All p]
noncomputable def Pe(v:Bool)(m k:XR XV):XR XV:=match m with
 |some (x,p)=>match k with
  |some (y,q)=>DB x λa=>DB y λb=>some (bif n6 x&&n6 y then .v (.bool (bif v then a&&b else a||b)) else .t (bif v then a&&b else a||b),p++imp a v q)
  |none=>none
 |none=>none
section
variable(o:Nat->List XV->XR XV)(B:Tb)(J:List XV)
noncomputable def Hh(x:XV)(n:Nat)(xs:List XV):XR XV:=match x with
 |.ts=>if n=3 then o 105 (.ts::xs) else if n=4 then o 106 (.ts::xs) else none
 |.m m=>if n=0 then match xs with
  |[]=>none
  |k::r=>jh k λk=>match r with
   |[]=>none
   |d::r=>jh d λd=>match r with
    |[]=>ok (.v (.int ((cc m k).getD d)))
    |_::_=>none
  else none
 |_=>none
mutual
noncomputable def xE:ME->XR XV
 |.k v=>ok (.v v)
 |.gl i=>ok (.v (aa i))
 |.loc i=>FC (bD J i)
 |.tup es=>xb (zA es) FA
 |.bin op a b=>xb (xE a) λx=>xb (xE b) λy=>jh x λi=>jh y λj=>rY (gB op i j) λz=>ok (.v (.int z))
 |.cmp op a b=>xb (xE a) λx=>xb (xE b) λy=>xb (Mc op x y) λr=>ok (.v (.bool r))
 |.and es=>Hi true es
 |.or es=>Hi false es
 |.not e=>xb (xE e) λx=>DB x λb=>ok (.v (.bool !b))
 |.neg e=>xb (xE e) λx=>jh x λi=>ok (.v (.int (-i)))
 |.idx a i=>xb (xE a) λx=>xb (xE i) λy=>Md x y
 |.ax f es=>xb (zA es) λxs=>o f xs
 |.aF b e=>match b with
  |.len=>xb (xE e) Me
  |.sorted=>match e with
   |.attr e=>match e with
    |.loc i=>Hg B (bD J i)
    |_=>none
   |_=>none
  |_=>none
 |.aK e n es=>match e with
  |.loc i=>xb (zA es) λxs=>Hh o (bD J i) n xs
  |_=>none
 |_=>none
noncomputable def zA:bO->XR (List XV)
 |.nil=>some ([],[])
 |.cons e r=>xb (xE e) λx=>xb (zA r) λxs=>some (x::xs,[])
noncomputable def Hi(v:Bool):bO->XR XV
 |.nil=>none
 |.cons e r=>match r with
  |.nil=>xE e
  |.cons e' r'=>Pe v (xE e) (Hi v (.cons e' r'))
end
end
noncomputable def cu(c:Wc)(Z:ae)(T:List PV){α:Type}(P:α->ae->Prop)(m:Out α):Prop:=∃v af,m=some (.ok v,af)/\WS c T af/\KE c.it Z af/\P v af
noncomputable abbrev rZ(c:Wc)(Z:ae)(T:List PV)(x:XV)(m:Out PV):Prop:=cu c Z T (λv af=>VX c af x v) m
section
variable{c:Wc}{Z:ae}{T:List PV}{α β:Type}{P:α->ae->Prop}{Q:β->ae->Prop}
theorem cu.au{m:Out α}{k:α->ae->Out β}(h:cu c Z T P m)(hk:∀v af,WS c T af->KE c.it Z af->P v af->cu c af T Q (k v af)):cu c Z T Q (au m k):=by
 obtain ⟨v,af,rfl,w,ke,p⟩:=h
 obtain ⟨u,s,e,w2,k2,q⟩:=hk v af w ke p
 exact⟨u,s,e,w2,ke.trans k2,q⟩
theorem cu.give{v:α}(w:WS c T Z)(p:P v Z):cu c Z T P (give v Z):=⟨v,Z,rfl,w,.refl _ _,p⟩
theorem cu.read{x:Option α}{v:α}(w:WS c T Z)(e:x=some v)(p:P v Z):cu c Z T P (read Z x):=by rw[e];exact cu.give w p
theorem cu.lift{x:Option (α×ae)}{v:α}(w:WS c T Z)(e:x=some (v,Z))(p:P v Z):cu c Z T P (lift x):=by rw[e];exact cu.give w p
theorem cu.pick{t:Option Bool}{b:Bool}{x y:Out α}(e:t=some b)(hx:b=true->cu c Z T P x)(hy:b=false->cu c Z T P y):cu c Z T P (pick t x y):=by
 rw[e];cases b with
 |true=>exact hx rfl
 |false=>exact hy rfl
end
noncomputable def dc(c:Wc)(cf:Nat->List PV->ae->Out PV)(f:Nat)(xs:List XV)(x:XV):Prop:=∀vs T Z,jg c Z xs vs->WS c T Z->rZ c Z T x (cf f vs Z)
structure uf(c:Wc):Prop where
 keys:∀T Z,WS c T Z->∃d,getAttr (.inst 1 c.jt) Z=some (.ref d)/\builtin .sorted (.ref d) Z=some (.ref Z.length,Z++[.list (c.B.keys.map .int)])
 Pf:∀T Z,WS c T Z->∃r,aj Z c.jt=some (.attrs r)
theorem Q2(i:Nat):aj [] i=.none:=rfl
theorem BF{x y:PV}{r:Bool}{Z:ae}(h:equal x y []=some r):equal x y Z=some r:=by
 cases x with
 |ref i=>cases y<;>cases h
 |_=>exact h
theorem BG{x y:PV}{r:Bool}{Z:ae}(h:among x y []=some r):among x y Z=some r:=by
 cases y with
 |ref i=>cases h
 |_=>exact h
theorem BH{o:Cm}{x y:PV}{r:Bool}{Z:ae}(h:kA o x y []=some r):kA o x y Z=some r:=by
 cases o with
 |eq=>exact BF h
 |isin=>exact BG h
 |fk=>cases y with
  |ref i=>cases h
  |_=>exact h
 |_=>exact h
theorem mL{x:PV}{r:Bool}{Z:ae}(h:truth [] x=some r):truth Z x=some r:=by
 cases x with
 |ref i=>cases h
 |_=>exact h
theorem r3{x i:PV}{r:PV}{Z:ae}(h:index x i []=some r):index x i Z=some r:=by
 cases x with
 |ref i=>cases h
 |_=>exact h
section
variable{α β:Type}{P:β->Prop}
noncomputable def Is(x:XV)(a:PV):Prop:=∀c Z v,VX c Z x v->v=a
theorem kh{x:XV}{k:PV->XR β}(h:∀a,Is x a->Sd (k a) P):Sd (rX x k) P:=by
 cases x with
 |v a=>exact h a λO O O e=>e
 |r w r=>exact h _ λO O O e=>e.1
 |rs r=>exact h _ λO O O e=>e
 |o s=>exact h _ λO O O e=>e
 |kv a _ _=>exact h _ λO O O e=>e.1
 |_=>exact Sd.none
theorem r4{x:XV}{k:PV->XR β}(h:∀a,Is x a->Sd (k a) P):Sd (DA x k) P:=by
 cases x with
 |v a=>exact h a λO O O e=>e
 |_=>exact Sd.none
theorem I5{a:PV}{k:Int->XR β}(h:∀i,a=.int i->Sd (k i) P):Sd (L6 a k) P:=by
 cases a with
 |int i=>exact h i rfl
 |_=>exact Sd.none
theorem I6{a:PV}{k:List PV->XR β}(h:∀i,a=.tup i->Sd (k i) P):Sd (L7 a k) P:=by
 cases a with
 |tup i=>exact h i rfl
 |_=>exact Sd.none
theorem I7{a:PV}{k:List Nat->XR β}(h:∀i,a=.str i->Sd (k i) P):Sd (L8 a k) P:=by
 cases a with
 |str i=>exact h i rfl
 |_=>exact Sd.none
theorem dN{x:XV}{k:Int->XR β}(h:∀i,Is x (.int i)->Sd (k i) P):Sd (jh x k) P:=r4 λO ha=>I5 λi e=>h i (e▸ha)
theorem km{m:Option α}{k:α->XR β}(h:∀a,m=some a->Sd (k a) P):Sd (rY m k) P:=by
 cases m with
 |some a=>exact h a rfl
 |none=>exact Sd.none
noncomputable def Tr(x:XV)(b:Bool):Prop:=∀c Z v,VX c Z x v->truth [] v=some b
theorem r5{x:XV}{k:Bool->XR β}(h:∀b,Tr x b->Sd (k b) P):Sd (DB x k) P:=by
 cases x with
 |v a=>exact km λb e=>h b λO O O hv=>by rw[show _=a from hv];exact e
 |t b=>exact h b λO O O hv=>hv
 |_=>exact Sd.none
theorem DC{kk:KK}{x:XV}{k:Key->XR β}(h:∀a,(∀c Z v,VX c Z x v->toKey kk v=some a)->Sd (k a) P):Sd (Hf kk x k) P:=by
 have gen:Sd (rX x λv=>rY (toKey kk v) k) P:=kh λa ha=>km λb e=>h b λc Z v hv=>by rw[ha c Z v hv];exact e
 cases x with
 |kv x Pd k'=>
  rw[Hf]
  split
  ·rename_i hk;exact h k' λO O O hv=>by rw[<-hk,hv.1];exact hv.2
  ·exact Sd.none
 |_=>exact gen
theorem zB:∀{xs:List XV}{k:List PV->XR β},(∀l,(∀c Z vs,jg c Z xs vs->vs=l)->Sd (k l) P)->Sd (Fz xs k) P
 |[],_,h=>h [] λO O vs hv=>by
  cases vs with
  |nil=>rfl
  |cons _ _=>exact hv.elim
 |x::r,k,h=>kh λa ha=>zB λl hl=>h (a::l) λc Z vs hv=>by
  cases vs with
  |nil=>exact hv.elim
  |cons v vs=>rw[ha c Z v hv.1,hl c Z vs hv.2]
end
theorem Tr.at{x:XV}{b:Bool}(h:Tr x b){c:Wc}{Z:ae}{v:PV}(p:VX c Z x v):truth Z v=some b:=mL (h c Z v p)
theorem DD{x:XV}(e:n6 x=true){c:Wc}{Z:ae}{v:PV}(h:VX c Z x v):∃b,v=.bool b:=by
 cases x with
 |v a=>
  cases a with
  |bool b=>exact⟨b,h⟩
  |_=>exact Bool.noConfusion e
 |_=>exact Bool.noConfusion e
theorem DE(b:List Nat):ints? (b.map λ(n:Nat)=>PV.int n)=some (b.map λ(n:Nat)=>(n:Int)):=by
 induction b with
 |nil=>rfl
 |cons x b ih=>
  show ((ints? (b.map λ(n:Nat)=>PV.int n)).bind λl=>some ((x:Int)::l))=_
  rw[ih];rfl
theorem I8(s b:List Nat):toKey (.tup [.s,.n]) (.tup [.str s,jv b])=some (xi s b):=by
 show ((((ints? (b.map λ(n:Nat)=>PV.int n)).bind λl=>some (K1.n l)).bind λk=>some [k]).bind λks=>some (K1.s s::ks)).bind (λks=>some (Key.tup ks))=_
 rw[DE];rfl
noncomputable def TupOk(xs:List XV)(x:XV):Prop:=∀c Z T vs,jg c Z xs vs->WS c T Z->rZ c Z T x (B2 vs Z)
theorem Mf(xs:List XV):Sd (L9 xs) (TupOk xs):=by
 match xs with
 |[]=>exact Sd.none
 |[_]=>exact Sd.none
 |_::_::_::_=>exact Sd.none
 |[x,y]=>
  refine r4 λa ha=>I7 λs hs=> ?_
  cases y with
  |o u=>
   refine Sd.give λc Z T vs h w=> ?_
   match vs,h with
   |[_,_],h=>
    obtain ⟨h1,rfl,_⟩:=h
    rw[ha c Z _ h1,hs]
    exact cu.give w ⟨rfl,I8 s u⟩
  |_=>exact Sd.none
theorem I9(xs:List XV):Sd (FA xs) (TupOk xs):=by
 have h:=Mf xs
 unfold FA
 cases e:L9 xs with
 |some y=>rw[e] at h;exact h
 |none=>
  refine zB λl hl=> ?_
  split
  ·rename_i hf
   refine Sd.give λc Z T vs h w=> ?_
   show rZ c Z T _ (az (fits vs) (give (.tup vs) Z))
   rw[hl c Z vs h,hf];exact cu.give w rfl
  ·exact Sd.none
theorem FD(m:Nat)(s:List Nat):∀u:List Nat,gO (eqv m) (s.map λ(n:Nat)=>PV.int n) (u.map λ(n:Nat)=>PV.int n)=some (decide (s=u)):=by
 induction s with
 |nil=>exact λu=>by cases u<;>rfl
 |cons a s ih=>
  intro u
  cases u with
  |nil=>rfl
  |cons b u=>
   have h:eqv m (.int (a:Int)) (.int (b:Int))=some (decide ((a:Int)=b)):=by cases m<;>rfl
   show ((eqv m (.int (a:Int)) (.int (b:Int))).bind λx=>(gO (eqv m) (s.map λ(n:Nat)=>PV.int n) (u.map λ(n:Nat)=>PV.int n)).bind λy=>some (x&&y))=_
   rw[h,ih u,show decide ((a:Int)=b)=decide (a=b) from decide_eq_decide.mpr Int.ofNat_inj]
   show some (decide (a=b)&&decide (s=u))=_
   rw[<-Bool.decide_and];exact congrArg some (decide_eq_decide.mpr List.cons_eq_cons.symm)
noncomputable def r6(op:Cm)(x y:XV)(r:Bool):Prop:=∀c Z u v,VX c Z x u->VX c Z y v->kA op u v Z=some r
theorem xk{op:Cm}{b:Bool}{x y:XV}(h:∀c Z u v,VX c Z x u->VX c Z y v->among u v Z=some b):Sd (yes op b) (r6 op x y):=by
 cases op with
 |isin=>exact Sd.give h
 |fk=>exact Sd.give λc Z u v p q=>by show ((among u v Z).bind λr=>some (!r))=_;rw[h c Z u v p q];rfl
 |_=>exact Sd.none
theorem Mg{op:Cm}{s:List Nat}{y:XV}:Sd (Ma op s y) (r6 op (.o s) y):=by
 cases op with
 |ne=>
  refine r4 λa ha r ps e al c Z u v hu hv=> ?_
  cases e
  have h:eqv 6 (jv s) a=some (decide (s=n7 a)):=(congrArg (eqv 6 (jv s)) al).trans (FD 5 s (n7 a))
  rw[ha c Z v hv,hu]
  show ((eqv 6 (jv s) a).bind λr=>some (!r))=_
  rw[h];rfl
 |_=>exact Sd.none
theorem Mh{op:Cm}{x y:XV}:Sd (Mb op x y) (r6 op x y):=kh λa ha=>kh λb hb=>km λr e=>Sd.give λc Z u v hu hv=>by
 rw[ha c Z u hu,hb c Z v hv];exact BH e
theorem ug(t:Int)(l:List Int):isIn (.int t) (l.map .int)=some (gU t l):=by
 induction l with
 |nil=>rfl
 |cons y r ih=>
  show ((eqv 6 (.int y) (.int t)).bind λb=>(isIn (.int t) (r.map .int)).bind λc=>some (b||c))=_
  rw[ih];rfl
theorem BI{Z:ae}{i:Nat}{l:List PV}(u:PV)(g:aj Z i=some (.list l)):among u (.ref i) Z=isIn u l:=congrArg (λo=>Option.bind o (vq u)) g
theorem r7{Z:ae}{i:Nat}{kk:KK}{es:Es}{u:PV}{k:Key}(g:aj Z i=some (.dict kk es))(e:toKey kk u=some k):among u (.ref i) Z=some (aT es k).isSome:=
 (congrArg (λo=>Option.bind o (vq u)) g).trans (congrArg (λo=>Option.bind o λk=>some (aT es k).isSome) e)
theorem Ja{op:Cm}{x y:XV}:Sd (Mc op x y) (r6 op x y):=by
 have pl:Sd (match x with | .o s=>Ma op s y | x=>Mb op x y) (r6 op x y):=by
  cases x with
  |o s=>exact Mg
  |_=>exact Mh
 cases y with
 |d kk es=>exact DC λk hk=>xk λc Z u v hu ⟨i,e,_,g⟩=>by rw[e];exact r7 g (hk c Z u hu)
 |m m=>exact dN λk hk=>xk λc Z u v hu ⟨i,e,_,g⟩=>by rw[e,hk c Z u hu,r7 g (k:=.int k) rfl,tq,Option.isSome_map]
 |il l=>exact dN λk hk=>xk λc Z u v hu ⟨i,e,_,g⟩=>by rw[e,hk c Z u hu,BI _ g,ug]
 |_=>exact pl
theorem Jb(r:Row):∀(k:Nat),k<r.length->fq (r.map .int) k=some (.int (cl r k)):=by
 induction r with
 |nil=>intro k h;exact absurd h (Nat.not_lt_zero _)
 |cons x r ih=>
  intro k h
  cases k with
  |zero=>rfl
  |succ k=>exact ih k (Nat.lt_of_succ_lt_succ h)
section
variable{c:Wc}{Z:ae}
theorem xl{k:Int}{n:Nat}(h:0<=k)(h2:k<n):seqIndex? k n=some k.toNat:=by
 show (if (0<=(if k<0 then k+n else k)&&(if k<0 then k+n else k)<n)=true then some (if k<0 then k+n else k).toNat else none)=_
 rw[if_neg (Int.not_lt.mpr h),if_pos (Bool.and_eq_true_iff.mpr ⟨decide_eq_true h,decide_eq_true h2⟩)]
theorem uh{l:List PV}{k:Int}(h0:0<=k)(h1:k<(l.length:Int))(hf:l.length<=65536):listAt l (.int k)=fq l k.toNat:=by
 have hs:small k=true:=Bool.and_eq_true_iff.mpr ⟨decide_eq_true (Int.lt_of_lt_of_le (by decide) h0),decide_eq_true (Int.lt_of_lt_of_le h1 (Int.le_trans (Int.ofNat_le.mpr hf) (by decide)))⟩
 show az (small k) ((seqIndex? k l.length).bind (fq l))=_
 rw[hs,xl h0 h1];rfl
theorem iw{r:Row}{k:Int}(h:0<=k/\k<r.length/\r.length<=65536):index (pr r) (.int k) Z=some (.int (cl r k.toNat)):=by
 show listAt (r.map .int) (.int k)=_
 rw[uh h.1 (by rw[List.length_map];exact h.2.1) (by rw[List.length_map];exact h.2.2)]
 exact Jb r _ ((Int.toNat_lt h.1).mpr h.2.1)
theorem f9{i:Nat}{l:List PV}{k:PV}(g:aj Z i=some (.list l)):index (.ref i) k Z=listAt l k:=congrArg (λo=>Option.bind o (Ac k)) g
theorem qL{i:Nat}{kk:KK}{es:Es}{k:PV}{y:Key}(g:aj Z i=some (.dict kk es))(e:toKey kk k=some y):index (.ref i) k Z=aT es y:=
 (congrArg (λo=>Option.bind o (Ac k)) g).trans (congrArg (λo=>Option.bind o (aT es)) e)
theorem Jc{x y:XV}:Sd (Md x y) λz=>∀c Z u v,VX c Z x u->VX c Z y v->∃p,index u v Z=some p/\VX c Z z p:=by
 cases x with
 |v a=>exact kh λi hi=>km λq hq=>Sd.give λc Z u v hx hy=>⟨q,by rw[hx,hi c Z v hy];exact r3 hq,rfl⟩
 |r w r=>
  refine dN λk hk=> ?_
  split
  ·rename_i hw
   rw[Bool.and_eq_true,decide_eq_true_eq,decide_eq_true_eq] at hw
   exact Sd.give λc Z u v hx hy=>⟨_,by rw[hx.1,hk c Z v hy];exact iw ⟨hw.1,hx.2.1▸hw.2,hx.2.1▸hx.2.2⟩,rfl⟩
  ·exact Sd.none
 |rs r=>exact dN λk hk z ps e a c Z u v hx hy=>by cases e;exact⟨_,by rw[hx,hk c Z v hy];exact iw a,rfl⟩
 |m m=>
  refine dN λk hk z ps e a c Z u v ⟨i,ei,_,g⟩ hy=> ?_
  cases e
  obtain ⟨b,hb⟩:=Option.isSome_iff_exists.mp (show (cc m k).isSome=true from a)
  exact⟨.int b,by rw[ei,hk c Z v hy,qL g (y:=.int k) rfl,tq,hb];rfl,by rw[hb];rfl⟩
 |rl w l=>
  refine dN λk hk=> ?_
  split
  ·rename_i h0
   cases l with
   |nil=>exact Sd.none
   |cons r l=>
    refine Sd.give λc Z u v ⟨i,ei,_,g,hw,hm⟩ hy=>⟨pr r,?_,rfl,hw r List.mem_cons_self,hm⟩
    rw[ei,hk c Z v hy,h0,f9 g]
    exact congrArg (λo=>Option.bind o (fq ((r::l).map pr))) (xl (n:=((r::l).map pr).length) (Int.le_refl 0) (Int.ofNat_lt.mpr (Nat.succ_pos _)))
  ·exact Sd.none
 |_=>exact Sd.none
theorem len_list{i:Nat}{l:List PV}(g:aj Z i=some (.list l))(hf:fits l=true):builtin .len (.ref i) Z=some (.int l.length,Z):=
 (congrArg (λo=>Option.bind o (Ew Z)) g).trans (congrArg (λb=>az b (some (PV.int l.length,Z))) hf)
theorem len_dict{i:Nat}{es:Es}(g:aj Z i=some (.dict .int es))(hf:fits es=true):builtin .len (.ref i) Z=some (.int es.length,Z):=
 (congrArg (λo=>Option.bind o (Ew Z)) g).trans (congrArg (λb=>az b (some (PV.int es.length,Z))) hf)
theorem FE{α β:Type}{l:List α}{f:α->β}(h:fits l=true):fits (l.map f)=true:=decide_eq_true (by rw[List.length_map];exact of_decide_eq_true h)
theorem Jd{x:XV}:Sd (Me x) λz=>∀c Z T u,VX c Z x u->WS c T Z->rZ c Z T z (lift (builtin .len u Z)):=by
 cases x with
 |rl w l=>exact λz ps e a c Z T u ⟨i,ei,_,g,_⟩ w=>by cases e;exact cu.lift (v:=.int l.length) w (by rw[ei,len_list g (FE a),List.length_map]) rfl
 |m m=>exact λz ps e a c Z T u ⟨i,ei,_,g⟩ w=>by cases e;exact cu.lift (v:=.int m.length) w (by rw[ei,len_dict g a,ce,List.length_map]) rfl
 |_=>exact Sd.none
end
section
variable{c:Wc}{n0:Nat}{cf:Nat->List PV->ae->Out PV}{o:Nat->List XV->XR XV}{aq:List XV}
noncomputable def XGo(c:Wc)(n0:Nat)(aq:List XV)(m:Loc->ae->Out PV)(x:XV):Prop:=∀J T Z,LX c n0 Z aq J->WS c T Z->rZ c Z T x (m J Z)
theorem XGo.loc{i:Nat}:Sd (FC (bD aq i)) (XGo c n0 aq (ag cf aa (.loc i))):=by
 unfold FC
 cases e:isA (bD aq i) with
 |true=>exact Sd.none
 |false=>exact Sd.give λJ T Z l w=>let ⟨v,e3,h⟩:=l.val i e;cu.read w e3 h
theorem xm(hw:uf c){T:List PV}{Z:ae}(w:WS c T Z)(n:Nat)(h:n=3\/n=4):cU n (.inst 1 c.jt) Z=true:=by
 obtain ⟨r,g⟩:=hw.Pf T Z w
 show (match aj Z c.jt with | some o=>(match o with | .attrs _=>bif Nat.beq 1 0 then Nat.beq n 3 else (Nat.beq 1 1&&(Nat.beq n 3||(Nat.beq n 4||Nat.beq n 5))) | _=>false) | .none=>false)=true
 rw[g]
 rcases h with rfl | rfl<;>rfl
theorem Je{Z:ae}{i:Nat}{m:IM}(g:aj Z i=some (.dict .int (ce m)))(k d:Int):getM (.ref i) (.int k) (.int d) Z=some (.int ((cc m k).getD d),Z):=by
 show ((aj Z i).bind λo=>(iZ o).bind λq=>(toKey q.1 (.int k)).bind λk=>some ((aT q.2 k).getD (.int d),Z))=_
 rw[g]
 show some ((aT (ce m) (.int k)).getD (.int d),Z)=_
 rw[tq]
 cases cc m k<;>rfl
theorem FF(hw:uf c)(ho:∀f xs,Sd (o f xs) (dc c cf f xs)){x:XV}{n:Nat}{xs:List XV}:Sd (Hh o x n xs) λz=>(∀T Z u,VX c Z x u->WS c T Z->cU n u Z=true)/\∀T Z u vs,VX c Z x u->jg c Z xs vs->WS c T Z->rZ c Z T z (fW cf u n vs Z):=by
 cases x with
 |ts=>
  show Sd (if n=3 then _ else if n=4 then _ else none) _
  split
  ·rename_i hn
   subst hn
   exact λz ps e a=>⟨λT Z u hx w=>by cases hx;exact xm hw w 3 (.inl rfl),λT Z u vs hx hv w=>by cases hx;exact ho _ _ z ps e a _ T Z ⟨rfl,hv⟩ w⟩
  ·split
   ·rename_i hn
    subst hn
    exact λz ps e a=>⟨λT Z u hx w=>by cases hx;exact xm hw w 4 (.inr rfl),λT Z u vs hx hv w=>by cases hx;exact ho _ _ z ps e a _ T Z ⟨rfl,hv⟩ w⟩
   ·exact Sd.none
 |m m=>
  show Sd (if n=0 then _ else none) _
  split
  ·rename_i hn
   subst hn
   cases xs with
   |nil=>exact Sd.none
   |cons k r=>
    refine dN λk' hk=> ?_
    cases r with
    |nil=>exact Sd.none
    |cons d r=>
     refine dN λd' hd=> ?_
     cases r with
     |cons _ _=>exact Sd.none
     |nil=>exact Sd.give ⟨λT Z u ⟨i,e,_,g⟩ w=>by rw[e];show (match aj Z i with | some o=>(match o with | .dict _ _=>Nat.ble 0 1 | .list _=>Nat.beq 0 2 | .attrs _=>false) | .none=>false)=true;rw[g];rfl,λT Z u vs ⟨i,e,_,g⟩ hv w=>by
       match vs,hv with
       |[a,b],hv=>
        rw[e,hk c Z a hv.1,hd c Z b hv.2.1]
        exact cu.lift (v:=.int ((cc m k').getD d')) w (Je g k' d') rfl⟩
  ·exact Sd.none
 |_=>exact Sd.none
theorem n8{op:pF}{i j z:Int}{Z:ae}(h:gB op i j=some z):binop op (.int i) (.int j) Z=some (.int z,Z):=by
 show (gB op i j).bind (λz=>some (PV.int z,Z))=_
 rw[h];rfl
theorem DF{x y:XV}{a b:Bool}{Z af:ae}{u:PV}(h:(VX c af x u\/VX c af y u))(t:truth [] u=some b):VX c Z (bif n6 x&&n6 y then .v (.bool b) else .t b) u:=by
 cases e:n6 x&&n6 y with
 |false=>exact t
 |true=>
  rw[Bool.and_eq_true] at e
  obtain ⟨d,rfl⟩:∃d,u=.bool d:=h.elim (DD e.1) (DD e.2)
  cases t;rfl
theorem DG{v:Bool}{m k:XR XV}{P Q:Loc->ae->Out PV}(hm:Sd m (XGo c n0 aq P))(hk:Sd k (XGo c n0 aq Q)):
  Sd (Pe v m k) (XGo c n0 aq λJ Z=>au (P J Z) λu Z=>bif v then pick (truth Z u) (Q J Z) (give u Z) else pick (truth Z u) (give u Z) (Q J Z)):=by
 cases m with
 |none=>exact Sd.none
 |some xp=>
  cases k with
  |none=>exact Sd.none
  |some yq=>
   obtain ⟨x,p⟩:=xp
   obtain ⟨y,q⟩:=yq
   refine r5 λa ta=>r5 λb tb z ps e al J T Z l w=> ?_
   cases e
   have hy:a=v->∀af,LX c n0 af aq J->WS c T af->rZ c af T y (Q J af):=λha af l w=>by
    refine hk y q rfl ?_ J T af l w
    have h:=al.app.2
    cases q with
    |nil=>trivial
    |cons q r=>exact h ha
   refine(hm x p rfl al.app.1 J T Z l w).au λu ai w1 k1 p1=> ?_
   have stop:a≠v->rZ c ai T (bif n6 x&&n6 y then .v (.bool (bif v then a&&b else a||b)) else .t (bif v then a&&b else a||b)) (give u ai):=λha=>cu.give w1 (DF (a:=a) (.inl p1) (by rw[ta c ai u p1];cases a<;>cases v<;>first | rfl | exact absurd rfl ha))
   have go:a=v->rZ c ai T (bif n6 x&&n6 y then .v (.bool (bif v then a&&b else a||b)) else .t (bif v then a&&b else a||b)) (Q J ai):=λha=>by
    obtain ⟨t,aU,et,w2,k2,p2⟩:=hy ha ai (l.mono k1) w1
    exact⟨t,aU,et,w2,k2,DF (a:=a) (.inr p2) (by rw[tb c aU t p2,ha];cases v<;>rfl)⟩
   cases v with
   |true=>exact cu.pick (ta.at p1) go λha=>stop (by rw[ha];exact Bool.noConfusion)
   |false=>exact cu.pick (ta.at p1) (λha=>stop (by rw[ha];exact Bool.noConfusion)) go
mutual
theorem bR(hw:uf c)(ho:∀f xs,Sd (o f xs) (dc c cf f xs)):∀e,Sd (xE o c.B aq e) (XGo c n0 aq (ag cf aa e))
 |.k v=>Sd.give λO O O O w=>cu.give w rfl
 |.gl i=>Sd.give λO O O O w=>cu.give w rfl
 |.loc i=>XGo.loc
 |.tup es=>Sd.bind (n9 hw ho es) λxs hx=>λz ps e a J T Z l w=>(hx J T Z l w).au λvs ai w1 O p1=>I9 xs z ps e a c ai T vs p1 w1
 |.bin op a b=>Sd.bind (bR hw ho a) λO hx=>Sd.bind (bR hw ho b) λO hy=>dN λi hi=>dN λj hj=>km λz hz=>Sd.give λJ T Z l w=>
   (hx J T Z l w).au λu ai w1 k1 p1=>(hy J T _ (l.mono k1) w1).au λv aU w2 k2 p2=>cu.lift (v:=.int z) w2 (by rw[hi c _ u p1,hj c _ v p2];exact n8 hz) rfl
 |.cmp op a b=>Sd.bind (bR hw ho a) λO hx=>Sd.bind (bR hw ho b) λO hy=>Sd.bind Ja λr hr=>Sd.give λJ T Z l w=>
   (hx J T Z l w).au λu O w1 k1 p1=>(hy J T _ (l.mono k1) w1).au λv O w2 k2 p2=>cu.read (v:=.bool r) w2 (by rw[hr c _ u v (p1.mono k2) p2];rfl) rfl
 |.and es=>r8 hw ho true es
 |.or es=>r8 hw ho false es
 |.not e=>Sd.bind (bR hw ho e) λO hx=>r5 λb hb=>Sd.give λJ T Z l w=>
   (hx J T Z l w).au λu O w1 k1 p1=>cu.read (v:=.bool !b) w1 (by rw[hb.at p1];rfl) rfl
 |.neg e=>Sd.bind (bR hw ho e) λO hx=>dN λb hb=>Sd.give λJ T Z l w=>
   (hx J T Z l w).au λu O w1 k1 p1=>by rw[hb c _ u p1];exact cu.give w1 rfl
 |.ite _ _ _=>Sd.none
 |.idx a b=>Sd.bind (bR hw ho a) λO hx=>Sd.bind (bR hw ho b) λO hy=>λz ps hz al J T Z l w=>
   (hx J T Z l w).au λO O w1 k1 p1=>(hy J T _ (l.mono k1) w1).au λO O w2 k2 p2=>by
    obtain ⟨p,e,h⟩:=Jc z ps hz al c _ _ _ (p1.mono k2) p2
    exact cu.read w2 e h
 |.ax f es=>Sd.bind (n9 hw ho es) λxs hx=>λz ps hz al J T Z l w=>(hx J T Z l w).au λO O w1 O p1=>ho f xs z ps hz al _ T _ p1 w1
 |.aF b e=>by
  cases b with
  |len=>exact Sd.bind (bR hw ho e) λO hx=>λz ps hz al J T Z l w=>(hx J T Z l w).au λO O w1 O p1=>Jd z ps hz al c _ T _ p1 w1
  |sorted=>
   cases e with
   |attr e=>
    cases e with
    |loc i=>
     show Sd (Hg c.B (bD aq i)) _
     cases e1:bD aq i with
     |ts=>
      refine Sd.give λJ T Z l w=> ?_
      obtain ⟨v,e2,hv⟩:=l.val i (by rw[e1];rfl)
      rw[e1] at hv
      cases hv
      obtain ⟨d,hd,hb⟩:=hw.keys T Z w
      refine⟨.ref Z.length,Z++[.list (c.B.keys.map .int)],?_,w.new _,KE.new _ _ _,Z.length,rfl,Nat.ne_of_gt w.lt,bz _ _⟩
      show au (au (FR.read Z (bo J i)) λx Z=>FR.read Z (getAttr x Z)) _=_
      rw[e2]
      show au (FR.read Z (getAttr _ Z)) _=_
      rw[hd]
      exact congrArg FR.lift hb
     |_=>exact Sd.none
    |_=>exact Sd.none
   |_=>exact Sd.none
  |_=>exact Sd.none
 |.aK e n es=>by
  cases e with
  |loc i=>
   refine Sd.bind (n9 hw ho es) λxs hx=>λz ps hz al J T Z l w=> ?_
   have hA:isA (bD aq i)=false:=by
    cases e1:bD aq i with
    |any=>rw[e1] at hz;cases hz
    |_=>rfl
   obtain ⟨v,e3,h⟩:=l.val i hA
   obtain ⟨kn,cm⟩:=FF hw ho z ps hz al
   show cu c Z T _ (au (FR.read Z (bo J i)) λx Z=>az (cU n x Z) (au (bg cf aa es J Z) λvs Z=>fW cf x n vs Z))
   rw[e3]
   show cu c Z T _ (az (cU n v Z) (au (bg cf aa es J Z) λvs Z=>fW cf v n vs Z))
   rw[kn T Z v h w]
   exact(hx J T Z l w).au λvs ai w1 k1 p1=>cm T ai v vs (h.mono k1) p1 w1
  |_=>exact Sd.none
 |.list _=>Sd.none
 |.dC _=>Sd.none
 |.kz _ _=>Sd.none
 |.slice _ _ _=>Sd.none
 |.attr _=>Sd.none
 |.new _ _=>Sd.none
 |.comp _ _ _=>Sd.none
theorem n9(hw:uf c)(ho:∀f xs,Sd (o f xs) (dc c cf f xs)):∀es,Sd (zA o c.B aq es) λxs=>∀J T Z,LX c n0 Z aq J->WS c T Z->cu c Z T (λvs af=>jg c af xs vs) (bg cf aa es J Z)
 |.nil=>Sd.give λO O O O w=>cu.give w trivial
 |.cons e r=>Sd.bind (bR hw ho e) λO hx=>Sd.bind (n9 hw ho r) λO hy=>Sd.give λJ T Z l w=>
   (hx J T Z l w).au λO O w1 k1 p1=>(hy J T _ (l.mono k1) w1).au λO O w2 k2 p2=>cu.give w2 ⟨p1.mono k2,p2⟩
theorem r8(hw:uf c)(ho:∀f xs,Sd (o f xs) (dc c cf f xs)):∀(v:Bool)(es:bO),Sd (Hi o c.B aq v es) (XGo c n0 aq (bif v then evalAnd cf aa es else evalOr cf aa es))
 |_,.nil=>Sd.none
 |true,.cons e .nil=>bR hw ho e
 |false,.cons e .nil=>bR hw ho e
 |true,.cons e (.cons e' r)=>DG (v:=true) (bR hw ho e) (r8 hw ho true (.cons e' r))
 |false,.cons e (.cons e' r)=>DG (v:=false) (bR hw ho e) (r8 hw ho false (.cons e' r))
end
end
structure KS(it n0:Nat)(Z af:ae):Prop where
 len:Z.length<=af.length
 keep:∀i o,i≠it->i<n0->aj Z i=some o->aj af i=some o
 lst:∀i l,i≠it->aj Z i=some (.list l)->aj af i=some (.list l)
theorem KS.refl(it n0:Nat)(Z:ae):KS it n0 Z Z:=⟨Nat.le_refl _,λO O O O h=>h,λO O O h=>h⟩
theorem KS.trans{it n0:Nat}{a b c:ae}(h:KS it n0 a b)(g:KS it n0 b c):KS it n0 a c:=
 ⟨Nat.le_trans h.len g.len,λi o hi hn ho=>g.keep i o hi hn (h.keep i o hi hn ho),λi l hi ho=>g.lst i l hi (h.lst i l hi ho)⟩
theorem KE.ks{it n0:Nat}{a b:ae}(h:KE it a b):KS it n0 a b:=⟨h.len,λi o hi O ho=>h.keep i o hi ho,λi O hi ho=>h.keep i _ hi ho⟩
theorem qM:∀(J:List XV)(i:Nat)(x:XV),(dz J i x).length=J.length
 |[],_,_=>rfl
 |_::_,0,_=>rfl
 |_::r,i+1,x=>congrArg (· +1) (qM r i x)
theorem xn:∀(J:Loc)(i:Nat)(x:PV),(cD J i x).length=J.length
 |[],_,_=>rfl
 |_::_,0,_=>rfl
 |_::r,i+1,x=>congrArg (· +1) (xn r i x)
theorem tv:∀(aq:List XV)(J:Loc)(i j:Nat)(x:XV)(v:PV),aq.length=J.length->
  (j=i/\bD (dz aq i x) j=x/\bo (cD J i v) j=some v)\/(j≠i/\bD (dz aq i x) j=bD aq j/\bo (cD J i v) j=bo J j)\/bD (dz aq i x) j=.any
 |[],[],_,_,_,_,_=>.inr (.inr rfl)
 |_::_,_::_,0,0,_,_,_=>.inl ⟨rfl,rfl,rfl⟩
 |_::_,_::_,0,_+1,_,_,_=>.inr (.inl ⟨Nat.succ_ne_zero _,rfl,rfl⟩)
 |_::_,_::_,_+1,0,_,_,_=>.inr (.inl ⟨(Nat.succ_ne_zero _).symm,rfl,rfl⟩)
 |_::aq,_::J,i+1,j+1,x,v,h=>(tv aq J i j x v (Nat.succ.inj h)).imp (λh=>⟨congrArg (· +1) h.1,h.2⟩) (Or.imp_left λh=>⟨λe=>h.1 (Nat.succ.inj e),h.2⟩)
theorem LX.set{c:Wc}{n0:Nat}{Z af:ae}{aq:List XV}{J:Loc}(h:LX c n0 Z aq J)(k:∀x v,VX c Z x v->VX c af x v)(i:Nat){x:XV}{v:PV}(hx:VX c af x v)
  (hd:gm x=true->∀r,v=.ref r->n0<=r/\∀j,gm (bD aq j)=true->bo J j≠some (.ref r)):LX c n0 af (dz aq i x) (cD J i v):=by
 have at_:=λj=>tv aq J i j x v h.len
 refine⟨by rw[qM,xn];exact h.len,λj hj=> ?_,λj r hj g=> ?_,λa b r ha hb ga gb=> ?_⟩
 ·rcases at_ j with ⟨_,e1,e2⟩ | ⟨_,e1,e2⟩ | e
  ·rw[e1];exact⟨v,e2,hx⟩
  ·rw[e1] at hj⊢;rw[e2];exact(h.val j hj).imp λO g=>⟨g.1,k _ _ g.2⟩
  ·rw[e] at hj;cases hj
 ·rcases at_ j with ⟨_,e1,e2⟩ | ⟨_,e1,e2⟩ | e
  ·rw[e1] at hj;rw[e2] at g;exact(hd hj r (Option.some.inj g)).1
  ·rw[e1] at hj;rw[e2] at g;exact h.dn j r hj g
  ·rw[e] at hj;cases hj
 ·rcases at_ a with ⟨aE,a1,a2⟩ | ⟨aE,a1,a2⟩ | e
  ·rw[a1] at ha;rw[a2] at ga
   rcases at_ b with ⟨b0,b1,b2⟩ | ⟨b0,b1,b2⟩ | e
   ·rw[aE,b0]
   ·rw[b1] at hb;rw[b2] at gb;exact absurd gb ((hd ha r (Option.some.inj ga)).2 b hb)
   ·rw[e] at hb;cases hb
  ·rw[a1] at ha;rw[a2] at ga
   rcases at_ b with ⟨b0,b1,b2⟩ | ⟨b0,b1,b2⟩ | e
   ·rw[b1] at hb;rw[b2] at gb;exact absurd ga ((hd hb r (Option.some.inj gb)).2 a ha)
   ·rw[b1] at hb;rw[b2] at gb;exact h.al a b r ha hb ga gb
   ·rw[e] at hb;cases hb
  ·rw[e] at ha;cases ha
theorem LX.qN{c:Wc}{n0:Nat}{Z:ae}{aq:List XV}{J:Loc}(h:LX c n0 Z aq J)(i:Nat){x:XV}{v:PV}(nd:gm x=false)(hx:VX c Z x v):LX c n0 Z (dz aq i x) (cD J i v):=
 h.set (λO O h=>h) i hx λe=>absurd (nd.symm.trans e) Bool.noConfusion
noncomputable def ui:XV->Option (KK×Es)
 |.d kk es=>some (kk,es)
 |.m m=>some (.int,ce m)
 |_=>none
theorem pb{x:XV}{d:KK×Es}(e:ui x=some d):gm x=true:=by
 cases x with
 |d _ _=>rfl
 |m _=>rfl
 |_=>cases e
theorem Jf{x:XV}(e:gm x=true):∃d,ui x=some d:=by
 cases x with
 |d _ _=>exact⟨_,rfl⟩
 |m _=>exact⟨_,rfl⟩
 |_=>cases e
theorem VX.dict{c:Wc}{Z:ae}{x:XV}{d:KK×Es}{v:PV}(e:ui x=some d):VX c Z x v↔∃r,v=.ref r/\c.it<r/\aj Z r=some (.dict d.1 d.2):=by
 cases x with
 |d _ _=>cases e;exact Iff.rfl
 |m _=>cases e;exact Iff.rfl
 |_=>cases e
theorem LX.Q3{c:Wc}{n0:Nat}{Z:ae}{aq:List XV}{J:Loc}{T:List PV}(w:WS c T Z)(h:LX c n0 Z aq J)(i:Nat){x:XV}{kk:KK}(e:ui x=some (kk,[]))(hs:n0<=Z.length):
  LX c n0 (Z++[.dict kk []]) (dz aq i x) (cD J i (.ref Z.length)):=
 h.set (λO O g=>g.mono (KE.new _ _ _)) i ((VX.dict e).mpr ⟨_,rfl,w.lt,bz _ _⟩) λO r er=>by
  cases er
  refine⟨hs,λj hj g=> ?_⟩
  obtain ⟨d,ed⟩:=Jf hj
  obtain ⟨v,ev,hv⟩:=h.val j (by cases q:bD aq j<;>rw[q] at hj<;>first | rfl | cases hj)
  obtain ⟨r,er,_,gr⟩:=(VX.dict ed).mp hv
  rw[ev,er] at g
  cases g
  exact absurd (bh _ _ _ gr) (Nat.lt_irrefl _)
theorem LX.putD{c:Wc}{n0:Nat}{Z:ae}{aq:List XV}{J:Loc}{T:List PV}(w:WS c T Z)(h:LX c n0 Z aq J){a:Nat}{x:XV}{kk:KK}{es Dw:Es}(e:ui (bD aq a)=some (kk,es))(e':ui x=some (kk,Dw)):
  ∃r,bo J a=some (.ref r)/\aj Z r=some (.dict kk es)/\WS c T (sset Z r (.dict kk Dw))/\KS c.it n0 Z (sset Z r (.dict kk Dw))/\LX c n0 (sset Z r (.dict kk Dw)) (dz aq a x) J:=by
 have ia:isA (bD aq a)=false:=by cases q:bD aq a<;>rw[q] at e<;>first | rfl | cases e
 obtain ⟨v,ev,hv⟩:=h.val a ia
 obtain ⟨r,rfl,hr,gr⟩:=(VX.dict e).mp hv
 have cZ:=bh _ _ _ gr
 have nr:=h.dn a r (pb e) ev
 have ls:∀(J:Loc)(i:Nat)(v:PV),bo J i=some v->cD J i v=J:=by
  intro J
  induction J with
  |nil=>intro i v e;cases e
  |cons o J ih=>intro i v e;cases i with
   |zero=>exact congrArg (· ::J) e.symm
   |succ i=>exact congrArg (o:: ·) (ih i v e)
 refine⟨r,ev,gr,⟨λi hi=>(bB _ _ _ _ (Nat.ne_of_lt (Nat.lt_trans hi hr))).trans (w.1 i hi),(bB _ _ _ _ (Nat.ne_of_lt hr)).trans w.2⟩,
  ⟨Nat.le_of_eq (fB _ _ _).symm,λi o O hi g=>(bB _ _ _ _ (Nat.ne_of_lt (Nat.lt_of_lt_of_le hi nr))).trans g,λi l O g=>(bB _ _ _ _ λq=>by rw[q,gr] at g;cases g).trans g⟩,?_⟩
 have at_:=λj=>tv aq J a j x (.ref r) h.len
 rw[ls J a _ ev] at at_
 refine⟨by rw[qM];exact h.len,λj hj=> ?_,λj r' hj g=> ?_,λi j r' hi hj gi gj=> ?_⟩
 ·rcases at_ j with ⟨_,e1,e2⟩ | ⟨jn,e1,e2⟩ | q
  ·rw[e1];exact⟨_,e2,(VX.dict e').mpr ⟨r,rfl,hr,ez _ _ _ cZ⟩⟩
  ·rw[e1] at hj⊢
   obtain ⟨v,Pg,hv⟩:=h.val j hj
   refine⟨v,Pg,?_⟩
   have other:∀i,v=.ref i->gm (bD aq j)=true->i≠r:=λi hi hd q=>jn (h.al j a r hd (pb e) (by rw[Pg,hi,q]) ev)
   cases q:bD aq j with
   |rl w l=>rw[q] at hv;obtain ⟨i,ei,ni,g,hl⟩:=hv;exact⟨i,ei,ni,(bB _ _ _ _ λq=>by rw[q,gr] at g;cases g).trans g,hl⟩
   |il l=>rw[q] at hv;obtain ⟨i,ei,ni,g⟩:=hv;exact⟨i,ei,ni,(bB _ _ _ _ λq=>by rw[q,gr] at g;cases g).trans g⟩
   |d Vh Vj=>rw[q] at hv other;obtain ⟨i,ei,ni,g⟩:=hv;exact⟨i,ei,ni,(bB _ _ _ _ (other i ei rfl)).trans g⟩
   |m m=>rw[q] at hv other;obtain ⟨i,ei,ni,g⟩:=hv;exact⟨i,ei,ni,(bB _ _ _ _ (other i ei rfl)).trans g⟩
   |_=>rw[q] at hv;exact hv
  ·rw[q] at hj;cases hj
 ·rcases at_ j with ⟨j0,_,_⟩ | ⟨_,e1,_⟩ | q
  ·exact h.dn j r' (j0▸pb e) g
  ·rw[e1] at hj;exact h.dn j r' hj g
  ·rw[q] at hj;cases hj
 ·have dd:∀j,gm (bD (dz aq a x) j)=true->gm (bD aq j)=true:=λj hj=>by
   rcases at_ j with ⟨j0,_,_⟩ | ⟨_,e1,_⟩ | q
   ·exact j0▸pb e
   ·rw[e1] at hj;exact hj
   ·rw[q] at hj;cases hj
  exact h.al i j r' (dd i hi) (dd j hj) gi gj
noncomputable def og:List XV->List XV->List XV
 |[],_=>[]
 |_::_,[]=>[.any]
 |a::as,b::bs=>(bif isA b then .any else a)::og as bs
theorem zC:∀{a b:List XV},og a b=b->a.length=b.length
 |[],_,h=>by rw[<-h];rfl
 |_::_,[],h=>by cases h
 |_::as,_::bs,h=>congrArg (· +1) (zC (List.cons.inj h).2)
theorem oh:∀{a b:List XV},og a b=b->∀i,isA (bD b i)=false->bD a i=bD b i
 |[],_,h,i,e=>by rw[<-h] at e;cases e
 |_::_,[],h,_,_=>by cases h
 |a::as,b::bs,h,0,e=>by
  have h:=(List.cons.inj h).1
  have e:isA b=false:=e
  rw[e] at h;exact h
 |_::as,_::bs,h,i+1,e=>oh (List.cons.inj h).2 i e
theorem LX.weak{c:Wc}{n0:Nat}{Z:ae}{a b:List XV}{J:Loc}(h:LX c n0 Z a J)(e:og a b=b):LX c n0 Z b J:=by
 have na:∀i,gm (bD b i)=true->isA (bD b i)=false:=λi h=>by cases q:bD b i<;>rw[q] at h<;>first | rfl | cases h
 exact⟨(zC e).symm.trans h.len,λi hi=>by have q:=oh e i hi;rw[<-q] at hi⊢;exact h.val i hi,λi r hi=>h.dn i r (by rw[oh e i (na i hi)];exact hi),
  λi j r hi hj=>h.al i j r (by rw[oh e i (na i hi)];exact hi) (by rw[oh e j (na j hj)];exact hj)⟩
noncomputable def cat:List (List PV)->List PV
 |[]=>[]
 |x::r=>match r with
  |[]=>x
  |_::_=>x++cat r
theorem xq(x:List PV)(r:List (List PV)):cat (x::r)=x++cat r:=by
 cases r with
 |nil=>exact(List.append_nil x).symm
 |cons _ _=>rfl
theorem lP:∀(g h:List (List PV)),cat (g++h)=cat g++cat h
 |[],_=>rfl
 |x::g,h=>by rw[List.cons_append,xq,xq,lP g h,List.append_assoc]
noncomputable def vh:List XV->List Nat->List PV->Option (List XV)
 |J,[],vs=>match vs with
  |[]=>some J
  |_::_=>none
 |J,i::is,vs=>match vs with
  |[]=>none
  |v::vs=>vh (dz J i (.v v)) is vs
noncomputable def Mi:KK->XV
 |.int=>.m []
 |kk=>.d kk []
noncomputable def Mj(x k v:XV):XR XV:=match x with
 |.d kk es=>Hf kk k λk=>rX v λv=>some (.d kk (bZ es k v),[fits es=true])
 |.m m=>jh k λk=>jh v λv=>some (.m (gw m k v),[fits (ce m)=true])
 |_=>none
noncomputable def r9:XV->Bool
 |.told=>true
 |_=>false
section
variable(o:Nat->List XV->XR XV)(B:Tb)(J:List XV)
noncomputable def Hj(e:ME):XR (List (List PV)):=match e with
 |.aK e n es=>match e with
  |.loc a=>match es with
   |.cons e r=>match r with
    |.nil=>bif r9 (bD J a)&&n == 2 then xb (xE o B J e) λx=>rX x λv=>ok [[v]] else none
    |_=>none
   |_=>none
  |_=>none
 |_=>none
noncomputable def S1(t:Bool)(a b:XR (List (List PV))):XR (List (List PV)):=match a with
 |some (g,p)=>match b with
  |some (g',p')=>some ([if t then cat g else cat g'],imp t true p++imp t false p')
  |none=>none
 |none=>none
mutual
noncomputable def xT:MS->XR (List (List PV))
 |.expr e=>Hj o B J e
 |.aP c a b=>xb (xE o B J c) λx=>DB x λt=>S1 t (xr a) (xr b)
 |_=>none
noncomputable def xr:bq->XR (List (List PV))
 |.nil=>some ([],[])
 |.cons s r=>xb (xT s) λg=>xb (xr r) λg'=>some (g++g',[])
end
noncomputable def xS(s:MS):XR (List XV×List (List PV)):=match s with
 |.aA i e=>match e with
  |.dC kk=>some ((dz J i (Mi kk),[]),[])
  |e=>xb (xE o B J e) λx=>if gm x=false then some ((dz J i x,[]),[]) else none
 |.dD is e=>xb (xE o B J e) λx=>DA x λa=>L7 a λvs=>rY (vh J is vs) λJ=>ok (J,[])
 |.bP a i e=>match a with
  |.loc a=>xb (xE o B J e) λv=>xb (xE o B J i) λk=>xb (Mj (bD J a) k v) λx=>some ((dz J a x,[]),[])
  |_=>none
 |.aug i op e=>jh (bD J i) λm=>xb (xE o B J e) λy=>jh y λn=>rY (gB op m n) λz=>ok (dz J i (.v (.int z)),[])
 |s=>xb (xT o B J s) λg=>some ((J,g),[])
end
noncomputable def Mk(o:Nat->List XV->XR XV)(B:Tb):List XV->bq->XR (List XV×List (List PV))
 |J,.nil=>some ((J,[]),[])
 |J,.cons s r=>xb (xS o B J s) λa=>xb (Mk o B a.1 r) λb=>some ((b.1,a.2++b.2),[])
structure Xc extends Wc where
 cf:Nat->List PV->ae->Out PV
 o:Nat->List XV->XR XV
 hw:uf toWc
 ho:∀f xs,Sd (o f xs) (dc toWc cf f xs)
noncomputable def Bg(T:List PV)(g:List (List PV)):Prop:=g≠[]->big (T++cat g)
theorem cv{T U V:List PV}(h:big (T++(U++V))):big (T++U):=by simp only [big,List.length_append] at h⊢;omega
theorem cw{T U V:List PV}(h:big (T++(U++V))):big (T++U++V):=by rwa [List.append_assoc]
theorem Bg.l{T:List PV}{g h:List (List PV)}(b:Bg T (g++h)):Bg T g:=λn=>cv (V:=cat h) (by rw[<-lP];exact b λe=>n (List.append_eq_nil_iff.mp e).1)
theorem Bg.r{T:List PV}{g h:List (List PV)}(b:Bg T (g++h)):Bg (T++cat g) h:=λn=>cw (by rw[<-lP];exact b λe=>n (List.append_eq_nil_iff.mp e).2)
noncomputable def Ml(X:Xc)(n0:Nat)(aq:List XV)(m:Loc->ae->Out (Fl×Loc))(g:List (List PV)):Prop:=
 ∀J T Z,LX X.toWc n0 Z aq J->WS X.toWc T Z->Bg T g->∃af,m J Z=some (.ok (.next,J),af)/\WS X.toWc (T++cat g) af/\KE X.it Z af
noncomputable def Hk(X:Xc)(n0:Nat)(aq:List XV)(m:Loc->ae->Out (Fl×Loc))(r:List XV×List (List PV)):Prop:=
 ∀J T Z,n0<=Z.length->LX X.toWc n0 Z aq J->WS X.toWc T Z->Bg T r.2->∃aN af,m J Z=some (.ok (.next,aN),af)/\WS X.toWc (T++cat r.2) af/\KS X.it n0 Z af/\LX X.toWc n0 af r.1 aN
section
variable{X:Xc}{n0:Nat}{aq:List XV}
theorem aC{α:Type}{m:Out α}{v:α}{β:Type}{k:α->ae->Out β}{r:Out β}{ai:ae}(h:m=some (.ok v,ai))(hk:k v ai=r):au m k=r:=by rw[h];exact hk
theorem DH{x:XV}(e:r9 x=true):x=.told:=by
 cases x with
 |told=>rfl
 |_=>exact Bool.noConfusion e
theorem FG(e:ME):Sd (Hj X.o X.B aq e) (Ml X n0 aq (aZ X.cf aa (.expr e))):=by
 cases e with
 |aK e n es=>
  cases e with
  |loc a=>
   cases es with
   |cons e r=>
    cases r with
    |nil=>
     show Sd (bif r9 (bD aq a)&&n == 2 then _ else none) _
     cases q:r9 (bD aq a)&&n == 2 with
     |false=>exact Sd.none
     |true=>
      rw[Bool.and_eq_true,beq_iff_eq] at q
      obtain ⟨q,rfl⟩:=q
      have q:=DH q
      refine Sd.bind (bR (n0:=n0) X.hw X.ho e) λx hx=>kh λv hv=>Sd.give λJ T Z l w hb=> ?_
      obtain ⟨u,eu,hu⟩:=l.val a (by rw[q];rfl)
      rw[q] at hu
      cases hu
      obtain ⟨y,ai,ey,w1,k1,p1⟩:=hx J T Z l w
      have hf:fits T=true:=decide_eq_true (by have hb:=hb (List.cons_ne_nil _ _);simp only [big,List.length_append] at hb;omega)
      refine⟨sset ai X.it (.list (T++[v])),?_,w1.put _,k1.trans (KE.put _ _ _)⟩
      refine aC (v:=.none) (ai:=sset ai X.it (.list (T++[v]))) ?_ rfl
      show au (FR.read Z (bo J a)) (λx Z=>az (cU 2 x Z) (au (au (ag X.cf aa e J Z) λv Z=>au (bg X.cf aa .nil J Z) λvs Z=>give (v::vs) Z) λvs Z=>fW X.cf x 2 vs Z))=_
      rw[eu]
      show az (cU 2 (.ref X.it) Z) (au (au (ag X.cf aa e J Z) λv Z=>au (bg X.cf aa .nil J Z) λvs Z=>give (v::vs) Z) λvs Z=>fW X.cf (.ref X.it) 2 vs Z)=_
      rw[sR w.2,ey,hv _ _ _ p1]
      show FR.lift (sG (.ref X.it) v ai)=_
      rw[vT w1.2 hf];rfl
    |cons _ _=>exact Sd.none
   |nil=>exact Sd.none
  |_=>exact Sd.none
 |_=>exact Sd.none
theorem zD{a v:Bool}{p:List Prop}(h:All (imp a v p))(e:a=v):All p:=by
 cases p with
 |nil=>trivial
 |cons q p=>exact h e
mutual
theorem Hl:∀s,Sd (xT X.o X.B aq s) (Ml X n0 aq (aZ X.cf aa s))
 |.expr e=>FG e
 |.aP c a b=>Sd.bind (bR (n0:=n0) X.hw X.ho c) λx hx=>r5 λt ht=>by
  cases ha:xr X.o X.B aq a with
  |none=>exact Sd.none
  |some gp=>
   cases hb:xr X.o X.B aq b with
   |none=>exact Sd.none
   |some Vk=>
    intro g ps e al J T Z l w hg
    cases e
    obtain ⟨u,ai,eu,w1,k1,p1⟩:=hx J T Z l w
    have e0:aZ X.cf aa (.aP c a b) J Z=pick (truth ai u) (ak X.cf aa a J ai) (ak X.cf aa b J ai):=by
     show au (ag X.cf aa c J Z) (λv Z=>pick (truth Z v) (ak X.cf aa a J Z) (ak X.cf aa b J Z))=_
     rw[eu];rfl
    rw[e0,ht.at p1]
    have hg:=hg (List.cons_ne_nil _ _)
    cases t with
    |true=>obtain ⟨aU,e2,w2,k2⟩:=sa a _ _ ha (zD al.app.1 rfl) J T ai (l.mono k1) w1 λO=>hg;exact⟨aU,e2,w2,k1.trans k2⟩
    |false=>obtain ⟨aU,e2,w2,k2⟩:=sa b _ _ hb (zD al.app.2 rfl) J T ai (l.mono k1) w1 λO=>hg;exact⟨aU,e2,w2,k1.trans k2⟩
 |.aA _ _=>Sd.none
 |.dD _ _=>Sd.none
 |.bP _ _ _=>Sd.none
 |.setAttr _ _=>Sd.none
 |.aug _ _ _=>Sd.none
 |.ba _ _ _=>Sd.none
 |.ll _ _=>Sd.none
 |.ret _=>Sd.none
 |.cont=>Sd.none
 |.eR _=>Sd.none
 |.kX _ _=>Sd.none
theorem sa:∀ss,Sd (xr X.o X.B aq ss) (Ml X n0 aq (ak X.cf aa ss))
 |.nil=>Sd.give λJ T Z l w hb=>⟨Z,rfl,by rw[cat,List.append_nil];exact w,.refl _ _⟩
 |.cons s r=>Sd.bind (Hl s) λg hg=>Sd.bind (sa r) λg' S2=>Sd.give λJ T Z l w hb=>by
  rw[lP]
  obtain ⟨ai,e1,w1,k1⟩:=hg J T Z l w hb.l
  obtain ⟨aU,e2,w2,k2⟩:=S2 J _ ai (l.mono k1) w1 hb.r
  exact⟨aU,aC e1 e2,by rw[<-List.append_assoc];exact w2,k1.trans k2⟩
end
theorem qO{c:Wc}{Z:ae}:∀{is:List Nat}{vs:List PV}{aq aO:List XV}{J:Loc},LX c n0 Z aq J->vh aq is vs=some aO->∃aN,kB J is vs=some aN/\LX c n0 Z aO aN
 |[],[],_,_,J,h,e=>by cases e;exact⟨J,rfl,h⟩
 |i::is,v::vs,aq,_,J,h,e=>qO (is:=is) (vs:=vs) (aq:=dz aq i (.v v)) (J:=cD J i v) (h.qN i rfl rfl) e
 |[],_::_,_,_,_,_,e=>by cases e
 |_::_,[],_,_,_,_,e=>by cases e
noncomputable def Oq(x k v y:XV):Prop:=∃kk es k' v',ui x=some (kk,es)/\ui y=some (kk,bZ es k' v')/\fits es=true/\Is v v'/\∀c Z a,VX c Z k a->toKey kk a=some k'
theorem Jg{x k v:XV}:Sd (Mj x k v) (Oq x k v):=by
 cases x with
 |d kk es=>exact DC λk' h1=>kh λv' h2=>λy ps e al=>by cases e;exact⟨kk,es,k',v',rfl,rfl,al,h2,h1⟩
 |m m=>exact dN λk' h1=>dN λv' h2=>λy ps e al=>by cases e;exact⟨.int,ce m,.int k',.int v',rfl,congrArg (λe=>some (KK.int,e)) (LZ k' v' m).symm,al,h2,λc Z a p=>by rw[h1 c Z a p];rfl⟩
 |_=>exact Sd.none
theorem quiet{c:Wc}{T:List PV}{Z:ae}(w:WS c T Z):WS c (T++cat []) Z:=by rw[cat,List.append_nil];exact w
theorem Hm(s:MS):Sd (xS X.o X.B aq s) (Hk X n0 aq (aZ X.cf aa s)):=by
 have gen:∀s,Sd (xb (xT X.o X.B aq s) λg=>some ((aq,g),[])) (Hk X n0 aq (aZ X.cf aa s)):=λs=>
  Sd.bind (Hl s) λg hg=>Sd.give λJ T Z O l w hb=>by
   obtain ⟨ai,e1,w1,k1⟩:=hg J T Z l w hb
   exact⟨J,ai,e1,w1,k1.ks,l.mono k1⟩
 cases s with
 |aA i e=>
  have ga:Sd (xb (xE X.o X.B aq e) λx=>if gm x=false then some ((dz aq i x,([]:List (List PV))),[]) else none) (Hk X n0 aq (aZ X.cf aa (.aA i e))):=
   Sd.bind (bR X.hw X.ho e) λx hx=>by
    split
    ·rename_i hd
     refine Sd.give λJ T Z O l w hb=> ?_
     obtain ⟨u,ai,eu,w1,k1,p1⟩:=hx J T Z l w
     exact⟨cD J i u,ai,aC eu rfl,quiet w1,k1.ks,(l.mono k1).qN i hd p1⟩
    ·exact Sd.none
  cases e with
  |dC kk=>exact Sd.give λJ T Z hs l w hb=>⟨cD J i (.ref Z.length),_,rfl,quiet (w.new (.dict kk [])),(KE.new _ _ _).ks,l.Q3 w i (by cases kk<;>rfl) hs⟩
  |_=>exact ga
 |dD is e=>
  refine Sd.bind (bR (n0:=n0) X.hw X.ho e) λx hx=>r4 λa ha=>I6 λvs DI=>km λaO h'=>Sd.give λJ T Z O l w hb=> ?_
  obtain ⟨u,ai,eu,w1,k1,p1⟩:=hx J T Z l w
  obtain ⟨aN,e2,l2⟩:=qO (l.mono k1) h'
  rw[ha _ _ u p1,DI] at eu
  refine⟨aN,ai,?_,quiet w1,k1.ks,l2⟩
  show au (ag X.cf aa e J Z) (λv Z=>FR.read Z ((eN (.many is) v J).bind λJ=>some (Fl.next,J)))=_
  rw[eu]
  show FR.read ai ((kB J is vs).bind λJ=>some (Fl.next,J))=_
  rw[e2];rfl
 |bP a i e=>
  cases a with
  |loc a=>
   refine Sd.bind (bR (n0:=n0) X.hw X.ho e) λv hv=>Sd.bind (bR (n0:=n0) X.hw X.ho i) λk hk=>Sd.bind Jg λy ⟨kk,es,k',v',d1,d2,hf,h2,h1⟩=>Sd.give λJ T Z O l w hb=> ?_
   obtain ⟨b,ai,eb,w1,k1,p1⟩:=hv J T Z l w
   obtain ⟨r,er,g,_⟩:=(l.mono k1).putD w1 d1 (x:=.d kk es) rfl
   obtain ⟨q,aU,eq,w2,k2,p2⟩:=hk J T ai (l.mono k1) w1
   obtain ⟨r',S3,g',w3,k3,l3⟩:=((l.mono k1).mono k2).putD w2 d1 d2
   cases er.symm.trans S3
   refine⟨J,_,?_,quiet w3,(k1.trans k2).ks.trans k3,l3⟩
   show au (ag X.cf aa e J Z) (λv Z=>au (FR.read Z (bo J a)) λa Z=>au (ag X.cf aa i J Z) λi Z=>FR.put J (setItem a i v Z))=_
   rw[eb]
   show au (FR.read ai (bo J a)) (λa Z=>au (ag X.cf aa i J Z) λi Z=>FR.put J (setItem a i b Z))=_
   rw[er]
   show au (ag X.cf aa i J ai) (λi Z=>FR.put J (setItem (.ref r) i b Z))=_
   rw[eq]
   show FR.put J (setItem (.ref r) q b aU)=_
   rw[nH g' (h1 _ _ q p2) hf,h2 _ _ b p1];rfl
  |_=>exact Sd.none
 |aug i op e=>
  cases hA:isA (bD aq i) with
  |true=>
   show Sd (jh (bD aq i) _) _
   cases q:bD aq i with
   |any=>exact Sd.none
   |_=>rw[q] at hA;exact Bool.noConfusion hA
  |false=>
   refine dN λm hm=>Sd.bind (bR (n0:=n0) X.hw X.ho e) λy hy=>dN λn hn=>km λz hz=>Sd.give λJ T Z O l w hb=> ?_
   obtain ⟨u,eu,hu⟩:=l.val i hA
   obtain ⟨b,ai,eb,w1,k1,p1⟩:=hy J T Z l w
   refine⟨cD J i (.int z),ai,?_,quiet w1,k1.ks,(l.mono k1).qN i rfl rfl⟩
   show au (FR.read Z (bo J i)) (λx Z=>au (ag X.cf aa e J Z) λy Z=>au (FR.read Z (bw x)) λm Z=>au (FR.read Z (bw y)) λn Z=>au (FR.lift (binop op (.int m) (.int n) Z)) λv Z=>give (Fl.next,cD J i v) Z)=_
   rw[eu,hm _ _ u hu]
   show au (ag X.cf aa e J Z) (λy Z=>au (FR.read Z (some m)) λm Z=>au (FR.read Z (bw y)) λn Z=>au (FR.lift (binop op (.int m) (.int n) Z)) λv Z=>give (Fl.next,cD J i v) Z)=_
   rw[eb,hn _ _ b p1]
   show au (FR.lift (binop op (.int m) (.int n) ai)) (λv Z=>give (Fl.next,cD J i v) Z)=_
   rw[n8 hz];rfl
 |expr e=>exact gen _
 |aP a b c=>exact gen _
 |_=>exact Sd.none
theorem DJ:∀(ss:bq)(aq:List XV),Sd (Mk X.o X.B aq ss) (Hk X n0 aq (ak X.cf aa ss))
 |.nil,aq=>Sd.give λJ T Z O l w hb=>⟨J,Z,rfl,by rw[cat,List.append_nil];exact w,.refl _ _ _,l⟩
 |.cons s r,aq=>Sd.bind (Hm s) λa ha=>Sd.bind (DJ r a.1) λb hb=>Sd.give λJ T Z hs l w hg=>by
  dsimp only at hg⊢
  rw[lP]
  obtain ⟨cY,ai,e1,w1,k1,l1⟩:=ha J T Z hs l w hg.l
  obtain ⟨dB,aU,e2,w2,k2,l2⟩:=hb cY _ ai (Nat.le_trans hs k1.len) l1 w1 hg.r
  exact⟨dB,aU,aC e1 e2,by rw[<-List.append_assoc];exact w2,k1.trans k2,l2⟩
end
noncomputable def Hn:XV->Option PV
 |.v x=>some x
 |.r _ r=>some (pr r)
 |.rs r=>some (pr r)
 |.o s=>some (jv s)
 |.kv x _ _=>some x
 |_=>none
noncomputable def xt:XV->Option Bool
 |.v x=>truth [] x
 |.t b=>some b
 |_=>none
theorem Mm{x:XV}{a:PV}(e:Hn x=some a){c:Wc}{Z:ae}{v:PV}(h:VX c Z x v):v=a:=by
 cases x with
 |v _=>cases e;exact h
 |r _ _=>cases e;exact h.1
 |rs _=>cases e;exact h
 |o _=>cases e;exact h
 |kv _ _ _=>cases e;exact h.1
 |_=>cases e
theorem sd{x:XV}{b:Bool}(e:xt x=some b){c:Wc}{Z:ae}{v:PV}(h:VX c Z x v):truth Z v=some b:=by
 cases x with
 |v _=>cases h;exact mL e
 |t _=>cases e;exact mL h
 |_=>cases e
noncomputable def Ho:Fl->Bool
 |.ret _=>true
 |_=>false
noncomputable def XS(X:Xc)(n0:Nat)(ss:bq)(aq:List XV)(T:List PV)(R:Fl->Loc->ae->Prop):Prop:=
 ∀J Z,n0<=Z.length->LX X.toWc n0 Z aq J->WS X.toWc T Z->∃f aN af,ak X.cf aa ss J Z=some (.ok (f,aN),af)/\KS X.it n0 Z af/\R f aN af
noncomputable def Nx(X:Xc)(n0:Nat)(aq:List XV)(U:List PV)(f:Fl)(J:Loc)(Z:ae):Prop:=Ho f=false/\LX X.toWc n0 Z aq J/\WS X.toWc U Z
noncomputable def En(X:Xc)(U:List PV)(f:Fl)(_:Loc)(Z:ae):Prop:=f=.next/\WS X.toWc U Z
noncomputable def Rt(X:Xc)(v:PV)(U:List PV)(f:Fl)(_:Loc)(Z:ae):Prop:=f=.ret v/\WS X.toWc U Z
section
variable{X:Xc}{n0:Nat}{aq aO:List XV}{T U:List PV}{R:Fl->Loc->ae->Prop}{ps:List Prop}
theorem oi{s:MS}{r:bq}(h:∀J Z,n0<=Z.length->LX X.toWc n0 Z aq J->WS X.toWc T Z->∃f aN af,aZ X.cf aa s J Z=some (.ok (f,aN),af)/\KS X.it n0 Z af/\
  ((f=.next/\LX X.toWc n0 af aO aN/\WS X.toWc U af)\/(Ho f=true/\R f aN af))) (k:XS X n0 r aO U R):XS X n0 (.cons s r) aq T R:=λJ Z hs l w=>by
 obtain ⟨f,cY,ai,e1,k1,h⟩:=h J Z hs l w
 rcases h with ⟨rfl,l1,w1⟩ | ⟨hf,hr⟩
 ·obtain ⟨f,dB,aU,e2,k2,h2⟩:=k cY ai (Nat.le_trans hs k1.len) l1 w1
  exact⟨f,dB,aU,(eI e1).trans e2,k1.trans k2,h2⟩
 ·exact⟨f,cY,ai,eJ (λq=>by rw[q] at hf;exact Bool.noConfusion hf) e1,k1,hr⟩
theorem pd{s:MS}{r:bq}{g:List (List PV)}(e:xS X.o X.B aq s=some ((aO,g),ps))(a:All ps)(hb:Bg T g)(k:XS X n0 r aO (T++cat g) R):XS X n0 (.cons s r) aq T R:=
 oi (λJ Z hs l w=>let ⟨aN,af,e,w,k,l⟩:=Hm s _ _ e a J T Z hs l w hb;⟨.next,aN,af,e,k,.inl ⟨rfl,l,w⟩⟩) k
theorem bc{s:MS}{r:bq}(e:xS X.o X.B aq s=some ((aO,[]),ps))(a:All ps)(k:XS X n0 r aO T R):XS X n0 (.cons s r) aq T R:=
 pd e a (λh=>absurd rfl h) (by rw[cat,List.append_nil];exact k)
theorem bC{ss:bq}{cA:List XV}{g:List (List PV)}(e:Mk X.o X.B aq ss=some ((cA,g),ps))(a:All ps)(m:og cA aO=aO)(hu:cat g=U)(hb:big (T++U)):XS X n0 ss aq T (Nx X n0 aO (T++U)):=λJ Z hs l w=>by
 subst hu
 obtain ⟨aN,af,e,w,k,l⟩:=DJ ss aq _ _ e a J T Z hs l w λO=>hb
 exact⟨.next,aN,af,e,k,rfl,l.weak m,w⟩
theorem ji(m:og aq aO=aO):XS X n0 .nil aq T (Nx X n0 aO T):=λJ Z O l w=>⟨.next,J,Z,rfl,.refl _ _ _,rfl,l.weak m,w⟩
theorem cN:XS X n0 .nil aq T (En X T):=λJ Z O O w=>⟨.next,J,Z,rfl,.refl _ _ _,rfl,w⟩
theorem RA{r:bq}(m:og aq aO=aO):XS X n0 (.cons .cont r) aq T (Nx X n0 aO T):=λJ Z O l w=>⟨.cont,J,Z,rfl,.refl _ _ _,rfl,l.weak m,w⟩
theorem dO{e:ME}{x:XV}{v:PV}{r:bq}(h:xE X.o X.B aq e=some (x,ps))(a:All ps)(hv:Hn x=some v):XS X n0 (.cons (.ret e) r) aq T (Rt X v T):=λJ Z O l w=>by
 obtain ⟨u,ai,eu,w1,k1,p1⟩:=bR X.hw X.ho e _ _ h a J T Z l w
 exact⟨.ret u,J,ai,eJ nofun (sP eu),k1.ks,by rw[Mm hv p1],w1⟩
theorem vj{c:ME}{a b:bq}{x:XV}{t:Bool}(h:xE X.o X.B aq c=some (x,ps))(al:All ps)(ht:xt x=some t)(h1:t=true->XS X n0 a aq T (Nx X n0 aO U))(h2:t=false->XS X n0 b aq T (Nx X n0 aO U)):
  XS X n0 (.cons (.aP c a b) .nil) aq T (Nx X n0 aO U):=λJ Z hs l w=>by
 obtain ⟨u,ai,eu,w1,k1,p1⟩:=bR X.hw X.ho c _ _ h al J T Z l w
 have e0:aZ X.cf aa (.aP c a b) J Z=pick (truth ai u) (ak X.cf aa a J ai) (ak X.cf aa b J ai):=fC eu
 have go:∃f aN af,aZ X.cf aa (.aP c a b) J Z=some (.ok (f,aN),af)/\KS X.it n0 ai af/\Nx X n0 aO U f aN af:=by
  rw[e0,sd ht p1]
  cases t with
  |true=>exact h1 rfl J ai (Nat.le_trans hs k1.len) (l.mono k1) w1
  |false=>exact h2 rfl J ai (Nat.le_trans hs k1.len) (l.mono k1) w1
 obtain ⟨f,aN,af,e,k,hn⟩:=go
 exact⟨f,aN,af,iL e,k1.ks.trans k,hn⟩
theorem eD{c:ME}{a r:bq}{x:XV}{t:Bool}(h:xE X.o X.B aq c=some (x,ps))(al:All ps)(ht:xt x=some t)(h1:t=true->XS X n0 a aq T λf J Z=>f≠ .next/\R f J Z)(h2:t=false->XS X n0 r aq T R):
  XS X n0 (.cons (.aP c a .nil) r) aq T R:=λJ Z hs l w=>by
 obtain ⟨u,ai,eu,w1,k1,p1⟩:=bR X.hw X.ho c _ _ h al J T Z l w
 have e0:aZ X.cf aa (.aP c a .nil) J Z=pick (truth ai u) (ak X.cf aa a J ai) (ak X.cf aa .nil J ai):=fC eu
 rw[sd ht p1] at e0
 cases t with
 |true=>
  obtain ⟨f,aN,af,e,k,hn,hr⟩:=h1 rfl J ai (Nat.le_trans hs k1.len) (l.mono k1) w1
  exact⟨f,aN,af,eJ hn (e0.trans e),k1.ks.trans k,hr⟩
 |false=>
  obtain ⟨f,aN,af,e,k,hr⟩:=h2 rfl J ai (Nat.le_trans hs k1.len) (l.mono k1) w1
  exact⟨f,aN,af,(eI e0).trans e,k1.ks.trans k,hr⟩
theorem Rt.ne{v:PV}{ss:bq}(h:XS X n0 ss aq T (Rt X v U)):XS X n0 ss aq T λf J Z=>f≠ .next/\Rt X v U f J Z:=λJ Z hs l w=>
 let ⟨f,aN,af,e,k,hf,w⟩:=h J Z hs l w
 ⟨f,aN,af,e,k,by rw[hf];exact Fl.noConfusion,hf,w⟩
end
noncomputable def iy(it:Nat)(Z:ae)(s:Src)(l:List PV):Prop:=match s with
 |.tup l'=>l=l'
 |.live i=>i≠it/\aj Z i=some (.list l)
 |.range a n=>l=(cG a n).map .int
 |.cQ _=>False
theorem nth_get?:∀(l:List PV)(k:Nat),fq l k=l[k]?
 |[],_=>rfl
 |_::_,0=>rfl
 |_::r,k+1=>nth_get? r k
theorem xu:∀(n:Nat)(a:Int)(k:Nat),(cG a n)[k]? =if k<n then some (a+(k:Int)) else .none
 |0,_,_=>rfl
 |n+1,a,0=>by rw[if_pos (Nat.succ_pos n)];exact congrArg some (Int.add_zero a).symm
 |n+1,a,k+1=>by
  rw[show (cG a (n+1))[k+1]? =(cG (a+1) n)[k]? from rfl,xu n (a+1) k]
  by_cases h:k<n
  ·rw[if_pos h,if_pos (Nat.succ_lt_succ h)];congr 1;omega
  ·rw[if_neg h,if_neg λq=>h (Nat.lt_of_succ_lt_succ q)]
theorem oj:∀(k:Nat)(m:Int),(cG m k).length=k
 |0,_=>rfl
 |k+1,m=>congrArg (· +1) (oj k (m+1))
theorem iy.at{it:Nat}{Z:ae}{s:Src}{l:List PV}(h:iy it Z s l)(k:Nat):b9 Z k s=some l[k]? :=by
 cases s with
 |tup l'=>cases h;exact congrArg some (nth_get? _ k)
 |live i=>
  show ((aj Z i).bind λo=>(cL o).bind λl=>some (fq l k))=_
  rw[h.2];exact congrArg some (nth_get? _ k)
 |range a n=>
  cases h
  rw[List.getElem?_map,xu]
  show some (if k<n then some (PV.int (a+(k:Int))) else none)=_
  by_cases q:k<n
  ·rw[if_pos q,if_pos q];rfl
  ·rw[if_neg q,if_neg q];rfl
 |cQ _=>exact h.elim
theorem iy.length{it:Nat}{Z:ae}{s:Src}{l:List PV}(h:iy it Z s l):dX Z s=l.length:=by
 cases s with
 |tup l'=>cases h;rfl
 |live i=>
  show (match (aj Z i).bind cL with | some l=>l.length | .none=>0)=_
  rw[h.2];rfl
 |range a n=>cases h;rw[List.length_map,oj];rfl
 |cQ _=>exact h.elim
theorem iy.mono{it n0:Nat}{Z af:ae}{s:Src}{l:List PV}(h:iy it Z s l)(k:KS it n0 Z af):iy it af s l:=by
 cases s with
 |live i=>exact⟨h.1,k.lst i l h.1 h.2⟩
 |_=>exact h
noncomputable def iz{X:Type}(p:Nat->X->Option PV):Nat->List X->Option PV
 |_,[]=>.none
 |k,x::l=>match p k x with
  |some v=>some v
  |.none=>iz p (k+1) l
noncomputable def Bd(X:Xc)(n0:Nat)(t:iY)(en:Bool)(k:Nat)(v:PV)(aq cA:List XV):Prop:=∀J Z,LX X.toWc n0 Z aq J->∃cY,eN t (wrap en k v) J=some cY/\LX X.toWc n0 Z cA cY
section
variable{X:Xc}{n0:Nat}{A S:Type}{body:bq}{t:iY}{en:Bool}{s:Src}{gF:A->PV}{l:List A}{step:S->Nat->A->S×List PV}{st:S->List XV}{I:Nat->S->Prop}{bx:S->Nat->A->List XV}
theorem Hp(je:∀s k x,l[k]? =some x->Bd X n0 t en k (gF x) (st s) (bx s k x))
  (hb:∀s k x T,l[k]? =some x->I k s->big (T++(step s k x).2)->I (k+1) (step s k x).1/\XS X n0 body (bx s k x) T (Nx X n0 (st (step s k x).1) (T++(step s k x).2))):
  ∀(m:List A)(n k:Nat)(a:S)(J:Loc)(T:List PV)(Z:ae),l=l.take k++m->k+m.length=l.length->m.length<n->n0<=Z.length->LX X.toWc n0 Z (st a) J->WS X.toWc T Z->iy X.it Z s (l.map gF)->I k a->big (T++(bt step a k m).2)->
   ∃aN af,forL (ak X.cf aa body) t s en n k J Z=some (.ok (.next,aN),af)/\KS X.it n0 Z af/\LX X.toWc n0 af (st (bt step a k m).1) aN/\WS X.toWc (T++(bt step a k m).2) af/\I l.length (bt step a k m).1
 |_,0,_,_,_,_,_,_,_,hn,_,_,_,_,_,_=>absurd hn (Nat.not_lt_zero _)
 |[],n+1,k,a,J,T,Z,hl,hk,_,_,lx,w,so,hi,_=>by
  have hk:k=l.length:=hk
  refine⟨J,Z,?_,.refl _ _ _,lx,by rw[show (bt step a k []).2=[] from rfl,List.append_nil];exact w,hk▸hi⟩
  exact qf (by rw[so.at k,List.getElem?_map,List.getElem?_eq_none (Nat.le_of_eq hk.symm)];rfl)
 |x::m,n+1,k,a,J,T,Z,hl,hk,hn,hs,lx,w,so,hi,hT=>by
  have uj:k<l.length:=by rw[<-hk,List.length_cons];omega
  have hx:l[k]? =some x:=by
   rw[hl,List.getElem?_append_right (by rw[List.length_take];omega),List.length_take,Nat.min_eq_left (Nat.le_of_lt uj),Nat.sub_self];rfl
  have hT:big (T++((step a k x).2++(bt step (step a k x).1 (k+1) m).2)):=hT
  show ∃aN af,forL (ak X.cf aa body) t s en (n+1) k J Z=some (.ok (.next,aN),af)/\KS X.it n0 Z af/\LX X.toWc n0 af (st (bt step (step a k x).1 (k+1) m).1) aN/\WS X.toWc (T++((step a k x).2++(bt step (step a k x).1 (k+1) m).2)) af/\I l.length (bt step (step a k x).1 (k+1) m).1
  obtain ⟨cY,e1,l1⟩:=je a k x hx J Z lx
  obtain ⟨S4,Hq⟩:=hb a k x T hx hi (cv hT)
  obtain ⟨f,dB,aU,e2,k2,hf,l2,w2⟩:=Hq cY Z hs l1 w
  obtain ⟨sf,lQ,e3,k3,l3,w3,Mn⟩:=Hp je hb m n (k+1) (step a k x).1 dB (T++(step a k x).2) aU (by
    have h:=List.take_append_drop (k+1) l
    rw[List.take_add_one,hx] at h
    have h2:=hl.symm.trans h.symm
    rw[List.append_assoc] at h2
    have h3:=(List.cons.inj (List.append_cancel_left h2)).2
    rw[h3]
    exact(List.take_append_drop (k+1) l).symm) (by rw[<-hk,List.length_cons];omega) (Nat.lt_of_succ_lt_succ hn) (Nat.le_trans hs k2.len) l2 w2 (so.mono k2) S4 (cw hT)
  refine⟨sf,lQ,?_,k2.trans k3,l3,by rw[<-List.append_assoc];exact w3,Mn⟩
  rw[mq (by rw[so.at k,List.getElem?_map,hx];rfl) e1 e2]
  cases f with
  |ret v=>cases hf
  |_=>exact e3
theorem xw{aq:List XV}{T:List PV}{p:Nat->A->Option PV}{bx:Nat->A->List XV}(je:∀k x,l[k]? =some x->Bd X n0 t en k (gF x) aq (bx k x))
  (hb:∀k x,l[k]? =some x->XS X n0 body (bx k x) T λf J Z=>match p k x with | some v=>Rt X v T f J Z | .none=>Nx X n0 aq T f J Z):
  ∀(m:List A)(n k:Nat)(J:Loc)(Z:ae),l=l.take k++m->k+m.length=l.length->m.length<n->n0<=Z.length->LX X.toWc n0 Z aq J->WS X.toWc T Z->iy X.it Z s (l.map gF)->
   ∃f aN af,forL (ak X.cf aa body) t s en n k J Z=some (.ok (f,aN),af)/\KS X.it n0 Z af/\match iz p k m with | some v=>Rt X v T f aN af | .none=>f=.next/\LX X.toWc n0 af aq aN/\WS X.toWc T af
 |_,0,_,_,_,_,_,hn,_,_,_,_=>absurd hn (Nat.not_lt_zero _)
 |[],n+1,k,J,Z,hl,hk,_,_,lx,w,so=>by
  have hk:k=l.length:=hk
  refine⟨.next,J,Z,?_,.refl _ _ _,rfl,lx,w⟩
  exact qf (by rw[so.at k,List.getElem?_map,List.getElem?_eq_none (Nat.le_of_eq hk.symm)];rfl)
 |x::m,n+1,k,J,Z,hl,hk,hn,hs,lx,w,so=>by
  have uj:k<l.length:=by rw[<-hk,List.length_cons];omega
  have hx:l[k]? =some x:=by
   rw[hl,List.getElem?_append_right (by rw[List.length_take];omega),List.length_take,Nat.min_eq_left (Nat.le_of_lt uj),Nat.sub_self];rfl
  obtain ⟨cY,e1,l1⟩:=je k x hx J Z lx
  obtain ⟨f,dB,aU,e2,k2,h2⟩:=hb k x hx cY Z hs l1 w
  rw[mq (by rw[so.at k,List.getElem?_map,hx];rfl) e1 e2,show iz p k (x::m)=(match p k x with | some v=>some v | .none=>iz p (k+1) m) from rfl]
  cases hp:p k x with
  |some v=>
   rw[hp] at h2
   obtain ⟨rfl,w2⟩:=h2
   exact⟨_,dB,aU,rfl,k2,rfl,w2⟩
  |none=>
   rw[hp] at h2
   obtain ⟨hf,l2,w2⟩:=h2
   obtain ⟨f',sf,lQ,e3,k3,h3⟩:=xw je hb m n (k+1) dB aU (by
    have h:=List.take_append_drop (k+1) l
    rw[List.take_add_one,hx] at h
    have h2:=hl.symm.trans h.symm
    rw[List.append_assoc] at h2
    have h3:=(List.cons.inj (List.append_cancel_left h2)).2
    rw[h3]
    exact(List.take_append_drop (k+1) l).symm) (by rw[<-hk,List.length_cons];omega) (Nat.lt_of_succ_lt_succ hn) (Nat.le_trans hs k2.len) l2 w2 (so.mono k2)
   refine⟨f',sf,lQ,?_,k2.trans k3,h3⟩
   cases f with
   |ret v=>cases hf
   |_=>exact e3
noncomputable def jw(X:Xc)(n0:Nat)(aq:List XV)(it:MI)(en:Bool)(l:List PV):Prop:=∀J T Z,LX X.toWc n0 Z aq J->WS X.toWc T Z->cu X.toWc Z T (λs af=>s.2=en/\iy X.it af s.1 l) (ft X.cf aa it J Z)
variable{it:MI}{rest:bq}{aq:List XV}{T:List PV}{R:Fl->Loc->ae->Prop}
theorem eE(st:S->List XV)(I:Nat->S->Prop)(step:S->Nat->A->S×List PV)(s0:S)(mM:jw X n0 (st s0) it en (l.map gF))(je:∀s k x,l[k]? =some x->Bd X n0 t en k (gF x) (st s) (bx s k x))(hi:I 0 s0)(hT:big (T++(bt step s0 0 l).2))
  (hb:∀s k x T,l[k]? =some x->I k s->big (T++(step s k x).2)->I (k+1) (step s k x).1/\XS X n0 body (bx s k x) T (Nx X n0 (st (step s k x).1) (T++(step s k x).2)))
  (hk:I l.length (bt step s0 0 l).1->XS X n0 rest (st (bt step s0 0 l).1) (T++(bt step s0 0 l).2) R):XS X n0 (.cons (.ba t it body) rest) (st s0) T R:=λJ Z hs lx w=>by
 obtain ⟨⟨s,Mo⟩,ai,e1,w1,k1,he,so⟩:=mM J T Z lx w
 have he:Mo=en:=he
 subst he
 obtain ⟨dB,aU,e2,k2,l2,w2,i2⟩:=Hp je hb l (dX ai s+1) 0 s0 J T ai rfl (Nat.zero_add _) (by rw[so.length,List.length_map];exact Nat.lt_succ_self _) (Nat.le_trans hs k1.len) (lx.mono k1) w1 so hi hT
 obtain ⟨f,sf,lQ,e3,k3,h3⟩:=hk i2 dB aU (Nat.le_trans (Nat.le_trans hs k1.len) k2.len) l2 w2
 exact⟨f,sf,lQ,(eI ((jL e1).trans e2)).trans e3,(k1.ks.trans k2).trans k3,h3⟩
theorem zE{bx:Nat->A->List XV}(p:Nat->A->Option PV)(mM:jw X n0 aq it en (l.map gF))(je:∀k x,l[k]? =some x->Bd X n0 t en k (gF x) aq (bx k x))
  (hb:∀k x,l[k]? =some x->XS X n0 body (bx k x) T λf J Z=>match p k x with | some v=>Rt X v T f J Z | .none=>Nx X n0 aq T f J Z)
  (h1:∀v,iz p 0 l=some v->∀f J Z,Rt X v T f J Z->R f J Z) (hk:iz p 0 l=.none->XS X n0 rest aq T R):XS X n0 (.cons (.ba t it body) rest) aq T R:=λJ Z hs lx w=>by
 obtain ⟨⟨s,Mo⟩,ai,e1,w1,k1,he,so⟩:=mM J T Z lx w
 have he:Mo=en:=he
 subst he
 obtain ⟨f,dB,aU,e2,k2,h2⟩:=xw je hb l (dX ai s+1) 0 J ai rfl (Nat.zero_add _) (by rw[so.length,List.length_map];exact Nat.lt_succ_self _) (Nat.le_trans hs k1.len) (lx.mono k1) w1 so
 have e0:aZ X.cf aa (.ba t it body) J Z=some (.ok (f,dB),aU):=(jL e1).trans e2
 cases hf:iz p 0 l with
 |some v=>
  rw[hf] at h2
  have h3:=h1 v hf f dB aU h2
  obtain ⟨rfl,_⟩:=h2
  exact⟨.ret v,dB,aU,eJ (f:=.ret v) nofun e0,k1.ks.trans k2,h3⟩
 |none=>
  rw[hf] at h2
  obtain ⟨rfl,l2,w2⟩:=h2
  obtain ⟨f,sf,lQ,e3,k3,h3⟩:=hk hf dB aU (Nat.le_trans (Nat.le_trans hs k1.len) k2.len) l2 w2
  exact⟨f,sf,lQ,(eI e0).trans e3,(k1.ks.trans k2).trans k3,h3⟩
noncomputable def vk:XV->Option (List PV)
 |.rl _ l=>some (l.map pr)
 |.il l=>some (l.map .int)
 |.v x=>match x with
  |.tup l=>some l
  |_=>none
 |_=>none
theorem fR{Z:ae}{i:Nat}{l:List PV}(g:aj Z i=some (.list l)):srcOf Z (.ref i)=some (.live i):=by
 show ((aj Z i).bind λo=>(cL o).bind λO=>some (Src.live i))=_
 rw[g];rfl
theorem xx{x:XV}{L:List PV}{c:Wc}{Z:ae}{v:PV}(e:vk x=some L)(h:VX c Z x v):∃s,srcOf Z v=some s/\iy c.it Z s L:=by
 cases x with
 |rl w l=>cases e;obtain ⟨i,rfl,ni,g,_⟩:=h;exact⟨.live i,fR g,ni,g⟩
 |il l=>cases e;obtain ⟨i,rfl,ni,g⟩:=h;exact⟨.live i,fR g,ni,g⟩
 |v a=>
  cases h
  cases v with
  |tup l=>cases e;exact⟨.tup _,rfl,rfl⟩
  |_=>cases e
 |_=>cases e
theorem d4{e:ME}{x:XV}{ps:List Prop}{L:List PV}(h:xE X.o X.B aq e=some (x,ps))(a:All ps)(hl:vk x=some L):jw X n0 aq (.plain e) false L:=λJ T Z lx w=>
 cu.au (k:=λv Z=>FR.read Z ((srcOf Z v).bind λs=>some (s,false))) (bR X.hw X.ho e _ _ h a J T Z lx w) λv ai w1 O p1=>let ⟨s,e,so⟩:=xx hl p1;cu.read (v:=(s,false)) w1 (by rw[e];rfl) ⟨rfl,so⟩
theorem uk{e:ME}{x:XV}{L:List PV}(h:XGo X.toWc n0 aq (ag X.cf aa e) x)(hl:vk x=some L):jw X n0 aq (.enum e) true L:=λJ T Z lx w=>
 cu.au (k:=λv Z=>FR.read Z ((srcOf Z v).bind λs=>some (s,true))) (h J T Z lx w) λv ai w1 O p1=>let ⟨s,e,so⟩:=xx hl p1;cu.read (v:=(s,true)) w1 (by rw[e];rfl) ⟨rfl,so⟩
theorem bY{e:ME}{x:XV}{ps:List Prop}{L:List PV}(h:xE X.o X.B aq e=some (x,ps))(a:All ps)(hl:vk x=some L):jw X n0 aq (.enum e) true L:=uk (bR X.hw X.ho e _ _ h a) hl
theorem cy{bx:Nat->A->List XV}(p:Nat->A->List PV)(mM:jw X n0 aq it en (l.map gF))(je:∀k x,l[k]? =some x->Bd X n0 t en k (gF x) aq (bx k x))(hT:big (T++tell p 0 l))
  (hb:∀k x T,l[k]? =some x->big (T++p k x)->XS X n0 body (bx k x) T (Nx X n0 aq (T++p k x))) (hk:XS X n0 rest aq (T++tell p 0 l) R):XS X n0 (.cons (.ba t it body) rest) aq T R:=by
 have e:=Dx p l 0
 refine eE (S:=Unit) (λO=>aq) (λO O=>True) (λO k x=>((),p k x)) () mM (bx:=λO=>bx) (λO=>je) trivial (by rw[e];exact hT) (λO k x T hx O h=>⟨trivial,hb k x T hx h⟩) λO=> ?_
 rw[e]
 exact hk
theorem src_range{a b:ME}{m n:Int}{ps qs:List Prop}(h:xE X.o X.B aq a=some (.v (.int m),ps))(al:All ps)(h':xE X.o X.B aq b=some (.v (.int n),qs))(Mp:All qs)(hs: -100000<=m/\m<=100000/\ -100000<=n/\n<=100000):
  jw X n0 aq (.df a b) false ((cG m (n-m).toNat).map .int):=λJ T Z lx w=>
 (bR X.hw X.ho a _ _ h al J T Z lx w).au λu ai w1 k1 p1=>(bR X.hw X.ho b _ _ h' Mp J T ai (lx.mono k1) w1).au λv aU w2 k2 p2=>by
  have hm:small m=true:=Bool.and_eq_true_iff.mpr ⟨decide_eq_true (Int.lt_of_lt_of_le (by decide) hs.1),decide_eq_true (Int.lt_of_le_of_lt hs.2.1 (by decide))⟩
  have hn:small n=true:=Bool.and_eq_true_iff.mpr ⟨decide_eq_true (Int.lt_of_lt_of_le (by decide) hs.2.2.1),decide_eq_true (Int.lt_of_le_of_lt hs.2.2.2 (by decide))⟩
  cases p1
  cases p2
  show cu X.toWc aU T _ (FR.read aU (az (small m) (az (small n) (some (Src.range m (n-m).toNat,false)))))
  rw[hm,hn]
  exact cu.give w2 ⟨rfl,rfl⟩
theorem dP{i k:Nat}{v:PV}{x:XV}(hd:gm x=false)(hx:∀Z,VX X.toWc Z x v):Bd X n0 (.one i) false k v aq (dz aq i x):=λJ Z l=>⟨_,rfl,l.qN i hd (hx Z)⟩
theorem jO{i j k:Nat}{v:PV}{x:XV}(hd:gm x=false)(hx:∀Z,VX X.toWc Z x v):Bd X n0 (.many [i,j]) true k v aq (dz (dz aq i (.v (.int k))) j x):=λJ Z l=>
 ⟨_,rfl,(l.qN i (x:=.v (.int k)) (v:=.int k) rfl rfl).qN j hd (hx Z)⟩
theorem zF{is:List Nat}{k:Nat}{vs:List PV}{aO:List XV}(h:vh aq is vs=some aO):Bd X n0 (.many is) false k (.tup vs) aq aO:=λO O l=>qO l h
end
theorem jg.len{c:Wc}{Z:ae}:∀{xs:List XV}{vs:List PV},jg c Z xs vs->xs.length=vs.length
 |[],[],_=>rfl
 |_::_,_::_,h=>congrArg (· +1) (jg.len h.2)
 |[],_::_,h=>h.elim
 |_::_,[],h=>h.elim
noncomputable def Mq:Nat->List XV
 |0=>[]
 |n+1=>.any::Mq n
noncomputable def args:List XV->Nat->List XV
 |[],n=>Mq n
 |x::r,n=>x::args r n
theorem tw{c:Wc}{Z:ae}(n:Nat):∀{xs:List XV}{vs:List PV},jg c Z xs vs->(args xs n).length=(vs.map some++List.replicate n none).length/\∀i,isA (bD (args xs n) i)=false->∃v,bo (vs.map some++List.replicate n none) i=some v/\VX c Z (bD (args xs n) i) v
 |[],[],_=>⟨by induction n with | zero=>rfl | succ n ih=>exact congrArg (· +1) ih,λi=>by
  induction n generalizing i with
  |zero=>exact λh=>nomatch h
  |succ n ih=>cases i with
   |zero=>exact λh=>nomatch h
   |succ i=>exact ih i⟩
 |x::xs,v::vs,h=>⟨congrArg (· +1) (tw n h.2).1,λi hi=>by
  cases i with
  |zero=>exact⟨v,rfl,h.1⟩
  |succ i=>exact(tw n h.2).2 i hi⟩
 |[],_::_,h=>h.elim
 |_::_,[],h=>h.elim
theorem zG(n:Nat):∀{xs:List XV},xs.all (λx=> !gm x)=true->∀i,gm (bD (args xs n) i)=false
 |[],_,i=>by
  induction n generalizing i with
  |zero=>rfl
  |succ n ih=>cases i with
   |zero=>rfl
   |succ i=>exact ih i
 |x::xs,h,i=>by
  rw[List.all_cons,Bool.and_eq_true] at h
  cases i with
  |zero=>exact Bool.not_eq_true' _ |>.mp h.1
  |succ i=>exact zG n h.2 i
section
variable{X:Xc}{n f:Nat}{d:aW}{xs:List XV}{T U:List PV}
theorem DK{R:Fl->Loc->ae->Prop}(hc:X.cf=ar ah aa n)(hd:ah f=some d)(hp:xs.length=d.params)(hn:xs.all (λx=> !gm x)=true)
  (h:∀n0,XS X n0 d.body (args xs (d.locals-d.params)) T R) {vs:List PV} {Z:ae} (hv:jg X.toWc Z xs vs) (w:WS X.toWc T Z):
  ∃g aN af,ak (ar ah aa n) aa d.body (vs.map some++List.replicate (d.locals-d.params) none) Z=some (.ok (g,aN),af)/\KE X.it Z af/\R g aN af/\(∀r,outF g af=r->ar ah aa (n+1) f vs Z=r):=by
 have ao:=tw (d.locals-d.params) hv
 have nd:=zG (d.locals-d.params) hn
 obtain ⟨g,aN,af,e,k,r⟩:=h Z.length (vs.map some++List.replicate (d.locals-d.params) none) Z (Nat.le_refl _) ⟨ao.1,ao.2,λi O h=>absurd ((nd i).symm.trans h) Bool.noConfusion,λi O O h=>absurd ((nd i).symm.trans h) Bool.noConfusion⟩ w
 rw[hc] at e
 refine⟨g,aN,af,e,⟨k.len,λi o hi ho=>k.keep i o hi (bh _ _ _ ho) ho⟩,r,λq hq=> ?_⟩
 rw[nG hd (hv.len.symm.trans hp) e,<-hq]
theorem fS{v:PV}(hc:X.cf=ar ah aa n)(hd:ah f=some d)(hp:xs.length=d.params)(hn:xs.all (λx=> !gm x)=true)
  (h:∀n0 T,XS X n0 d.body (args xs (d.locals-d.params)) T (Rt X v T)):dc X.toWc (ar ah aa (n+1)) f xs (.v v):=λvs T Z hv w=>by
 obtain ⟨g,aN,af,e,k,⟨rfl,w'⟩,q⟩:=DK hc hd hp hn (λn0=>h n0 T) hv w
 exact⟨v,af,q _ rfl,w',k,rfl⟩
noncomputable def Tells(c:Wc)(cf:Nat->List PV->ae->Out PV)(f:Nat)(xs:List XV)(M:List PV):Prop:=∀vs T Z,jg c Z xs vs->WS c T Z->big (T++M)->∃af,cf f vs Z=some (.ok .none,af)/\WS c (T++M) af/\KE c.it Z af
theorem bM{M:List PV}(hc:X.cf=ar ah aa n)(hd:ah f=some d)(hp:xs.length=d.params)(hn:xs.all (λx=> !gm x)=true)
  (h:∀n0 T,big (T++M)->XS X n0 d.body (args xs (d.locals-d.params)) T (En X (T++M))):Tells X.toWc (ar ah aa (n+1)) f xs M:=λvs T Z hv w hb=>by
 obtain ⟨g,aN,af,e,k,⟨rfl,w'⟩,q⟩:=DK hc hd hp hn (λn0=>h n0 T hb) hv w
 exact⟨af,q _ rfl,w',k⟩
end
structure WW(c:Wc):Prop where
 it:c.it=c.kg.length
 Hr:∃d es ks,aj c.kg c.jt=some (.attrs (some (.ref d)))/\aj c.kg d=some (.dict .int es)/\
  (∀t,(aT es (.int t)=.none/\c.B.R t=[])\/∃i,aT es (.int t)=some (.ref i)/\aj c.kg i=some (.list ((c.B.R t).map pr)))/\
  intKeys es=some ks/\ks.length<64/\gH (ks.map .int)=some (c.B.keys.map .int)
 txt:∃i,aj c.kg c.jx=some (.attrs (some (.ref i)))/\aj c.kg i=some (.list (c.B.txt.map .str))
 gh:∃i,aj c.kg c.jb=some (.attrs (some (.ref i)))/\aj c.kg i=some (.list (c.B.gh.map .bytes))/\fits c.B.gh=true
section
variable{c:Wc}{T:List PV}{Z:ae}
theorem WW.get(h:WW c)(w:WS c T Z){i:Nat}{o:MO}(g:aj c.kg i=some o):aj Z i=some o:=
 (w.1 i (by rw[h.it];exact bh _ _ _ g)).trans g
theorem zH{cl j i:Nat}(g:aj Z j=some (.attrs (some (.ref i))))(hc:cl<=1):getAttr (.inst cl j) Z=some (.ref i):=by
 show ((aj Z j).bind λa=>(lq a).bind λr=>r.bind λv=>(oM v).bind λi=>az (Nat.ble cl 1) (some (PV.ref i)))=_
 rw[g]
 show az (Nat.ble cl 1) _=_
 rw[Nat.ble_eq_true_of_le hc];rfl
theorem WW.ok(h:WW c):uf c where
 keys T Z w:=by
  obtain ⟨d,es,ks,g1,g2,_,hk,hl,hs⟩:=h.Hr
  refine⟨d,zH (h.get w g1) (Nat.le_refl _),?_⟩
  show ((aj Z d).bind (uZ Z))=_
  rw[h.get w g2]
  show ((intKeys es).bind λks=>az (decide (ks.length<64)) ((gH (ks.map .int)).bind λl=>some (PV.ref Z.length,Z++[.list l])))=_
  rw[hk]
  show az (decide (ks.length<64)) _=_
  rw[decide_eq_true hl,hs];rfl
 Pf T Z w:=by obtain ⟨d,es,ks,g1,_⟩:=h.Hr;exact⟨_,h.get w g1⟩
variable{cf:Nat->List PV->ae->Out PV}{J:Loc}{ai:ae}
theorem hW{o:ME}{m:Nat}{es:bO}{x:PV}{vs:List PV}(h:ag cf aa o J Z=some (.ok x,Z))(k:cU m x Z=true)(h2:bg cf aa es J Z=some (.ok vs,ai)):ag cf aa (.aK o m es) J Z=fW cf x m vs ai:=by
 show au (ag cf aa o J Z) (λx Z=>az (cU m x Z) (au (bg cf aa es J Z) λvs Z=>fW cf x m vs Z))=_
 rw[h]
 show az (cU m x Z) (au (bg cf aa es J Z) λvs Z=>fW cf x m vs Z)=_
 rw[k,h2];rfl
theorem lR{cl j i k:Nat}(hl:bo J k=some (.inst cl j))(g:aj Z j=some (.attrs (some (.ref i))))(hc:cl<=1):ag cf aa (.attr (.loc k)) J Z=some (.ok (.ref i),Z):=by
 show au (FR.read Z (bo J k)) (λx Z=>FR.read Z (getAttr x Z))=_
 rw[hl]
 show FR.read Z (getAttr (.inst cl j) Z)=_
 rw[zH g hc];rfl
theorem bF{a i:ME}{x y v:PV}(ha:ag cf aa a J Z=some (.ok x,Z))(hi:ag cf aa i J Z=some (.ok y,Z))(h:index x y Z=some v):ag cf aa (.idx a i) J Z=some (.ok v,Z):=
 aC ha (aC hi (by rw[h];rfl))
theorem dQ{o:Cm}{a b:ME}{x y:PV}{r:Bool}(ha:ag cf aa a J Z=some (.ok x,Z))(hb:ag cf aa b J Z=some (.ok y,ai))(h:kA o x y ai=some r):ag cf aa (.cmp o a b) J Z=some (.ok (.bool r),ai):=
 aC ha (aC hb (by rw[h];rfl))
theorem cO{o:pF}{a b:ME}{x y z:Int}(ha:ag cf aa a J Z=some (.ok (.int x),Z))(hb:ag cf aa b J Z=some (.ok (.int y),Z))(h:gB o x y=some z):ag cf aa (.bin o a b) J Z=some (.ok (.int z),Z):=
 aC ha (aC hb (by rw[n8 h];rfl))
theorem oo{a b:ME}{x y:Bool}{aU:ae}(ha:ag cf aa a J Z=some (.ok (.bool x),ai))(hb:x=false->ag cf aa b J ai=some (.ok (.bool y),aU)):
  ag cf aa (.or (.cons a (.cons b .nil))) J Z=some (.ok (.bool (x||y)),bif x then ai else aU):=by
 show au (ag cf aa a J Z) (λv Z=>pick (truth Z v) (give v Z) (ag cf aa b J Z))=_
 rw[ha]
 show pick (some x) _ _=_
 cases x with
 |true=>rfl
 |false=>exact hb rfl
theorem sg{i:Nat}{e:ME}{r:bq}{v:PV}{R:Out (Fl×Loc)}(h:ag cf aa e J Z=some (.ok v,ai))(k:ak cf aa r (cD J i v) ai=R):ak cf aa (.cons (.aA i e) r) J Z=R:=
 (eI (dI h)).trans k
theorem y_ret{e:ME}{r:bq}{v:PV}(h:ag cf aa e J Z=some (.ok v,ai)):ak cf aa (.cons (.ret e) r) J Z=some (.ok (.ret v,J),ai):=
 eJ nofun (sP h)
theorem gY{e:ME}{a b r:bq}{t:Bool}{R:Out (Fl×Loc)}(h:ag cf aa e J Z=some (.ok (.bool t),ai))(k:(au (bif t then ak cf aa a J ai else ak cf aa b J ai) λf Z=>match f.1 with | .next=>ak cf aa r f.2 Z | _=>give f Z)=R):
  ak cf aa (.cons (.aP e a b) r) J Z=R:=by
 show au (aZ cf aa (.aP e a b) J Z) (λf Z=>match f.1 with | .next=>ak cf aa r f.2 Z | _=>give f Z)=R
 rw[fC h]
 cases t<;>exact k
theorem bA{n f:Nat}{d:aW}{vs:List PV}{v:PV}{aN:Loc}(hd:ah f=some d)(hp:vs.length=d.params)(h:ak (ar ah aa n) aa d.body (vs.map some++List.replicate (d.locals-d.params) none) Z=some (.ok (.ret v,aN),ai)):ar ah aa (n+1) f vs Z=some (.ok v,ai):=nG hd hp h
theorem mO{n f:Nat}{d:aW}{vs:List PV}{aN:Loc}(hd:ah f=some d)(hp:vs.length=d.params)(h:ak (ar ah aa n) aa d.body (vs.map some++List.replicate (d.locals-d.params) none) Z=some (.ok (.next,aN),ai)):ar ah aa (n+1) f vs Z=some (.ok .none,ai):=nG hd hp h
theorem oq{n f:Nat}{d:aW}{vs:List PV}(hd:ah f=some d)(hp:vs.length=d.params)(h:ak (ar ah aa n) aa d.body (vs.map some++List.replicate (d.locals-d.params) none) Z=some (.error .fresh,ai)):ar ah aa (n+1) f vs Z=some (.error .hZ,ai):=yA hd hp h
theorem zI(h:WW c)(w:WS c T Z)(t:Int)(J:Loc)(h0:bo J 0=some (.inst 1 c.jt))(h1:bo J 1=some (.int t))(cf:Nat->List PV->ae->Out PV):
  ∃i,ag cf aa (.aK (.attr (.loc 0)) 0 (.cons (.loc 1) (.cons (.list .nil) .nil))) J Z=some (.ok (.ref i),Z++[.list []])/\i≠c.it/\aj (Z++[.list []]) i=some (.list ((c.B.R t).map pr)):=by
 obtain ⟨d,es,ks,g1,g2,hr,_⟩:=h.Hr
 have g1:=h.get w g1
 have g2:=h.get w g2
 have LS:aj (Z++[.list []]) d=some (.dict .int es):=(dv _ _ _ (bh _ _ _ g2)).trans g2
 have e:ag cf aa (.aK (.attr (.loc 0)) 0 (.cons (.loc 1) (.cons (.list .nil) .nil))) J Z=some (.ok ((aT es (.int t)).getD (.ref Z.length)),Z++[.list []]):=by
  refine(hW (x:=.ref d) (vs:=[.int t,.ref Z.length]) (ai:=Z++[.list []]) (lR h0 g1 (Nat.le_refl _)) (zg g2) ?_).trans ?_
  ·exact aC (v:=.int t) (ai:=Z) (by show FR.read Z (bo J 1)=_;rw[h1];rfl) rfl
  ·show FR.lift (getM (.ref d) (.int t) (.ref Z.length) (Z++[.list []]))=_
   rw[JX LS (y:=.int t) rfl];rfl
 rcases hr t with ⟨hn,he⟩ | ⟨i,hi,gi⟩
 ·refine⟨Z.length,by rw[e,hn];rfl,Nat.ne_of_gt w.lt,by rw[bz,he];rfl⟩
 ·refine⟨i,by rw[e,hi];rfl,?_,(dv _ _ _ (bh _ _ _ (h.get w gi))).trans (h.get w gi)⟩
  have:=bh _ _ _ gi;rw[h.it];omega
theorem map_fits{α β:Type}{l:List α}{f:α->β}(h:l.length<=65536):fits (l.map f)=true:=decide_eq_true (by rw[List.length_map];exact h)
theorem Mr(h:WW c)(sh:Shape c.B)(n:Nat)(t:Int):dc c (ar ah aa (n+1)) 5 [.ts,.v (.int t)] (.rl (cols t).length (c.B.R t)):=λvs T Z hv w=>by
 match vs,hv with
 |[_,_],hv=>
  obtain ⟨rfl,rfl,_⟩:=hv
  obtain ⟨i,e,ni,g⟩:=zI h w t [some (.inst 1 c.jt),some (.int t)] rfl rfl (ar ah aa n)
  exact⟨_,_,bA d5 rfl (y_ret e),w.new _,KE.new _ _ _,i,rfl,ni,g,sh.m8 t,Nat.le_trans (fP t) (by decide)⟩
theorem zJ(h:WW c)(fi:iu c.B)(n:Nat)(t:Int)(w:WS c T Z):ar ah aa (n+1) 106 [.inst 1 c.jt,.int t] Z=some (.ok (.int (cnt c.B t)),Z++[.list []]):=by
 obtain ⟨i,e,ni,g⟩:=zI h w t [some (.inst 1 c.jt),some (.int t)] rfl rfl (ar ah aa n)
 have hf:fits ((c.B.R t).map pr)=true:=map_fits (Nat.le_trans (fi.len t) (by decide))
 have e2:ag (ar ah aa n) aa (.aF .len (.aK (.attr (.loc 0)) 0 (.cons (.loc 1) (.cons (.list .nil) .nil)))) [some (.inst 1 c.jt),some (.int t)] Z=some (.ok (.int (cnt c.B t)),Z++[.list []]):=aC e (by rw[len_list g hf,List.length_map];rfl)
 exact bA Q1 rfl (y_ret e2)
theorem Jh(h:WW c)(fi:iu c.B)(n:Nat)(t:Int):dc c (ar ah aa (n+1)) 106 [.ts,.v (.int t)] (.v (.int (cnt c.B t))):=λvs T Z hv w=>by
 match vs,hv with
 |[_,_],hv=>
  obtain ⟨rfl,rfl,_⟩:=hv
  exact⟨_,_,zJ h fi n t w,w.new _,KE.new _ _ _,rfl⟩
theorem i1{r:Row}(h:1<r.length)(h2:r.length<=65536):index (pr r) (.int 1) []=some (.int (cl r 1)):=iw ⟨by decide,Int.ofNat_lt.mpr h,h2⟩
theorem i7{r:Row}(h:7<r.length)(h2:r.length<=65536):index (pr r) (.int 7) []=some (.int (cl r 7)):=iw ⟨by decide,Int.ofNat_lt.mpr h,h2⟩
theorem dy{x:Int}(h: -100000<=x)(h2:x<=100000):small x=true:=Bool.and_eq_true_iff.mpr ⟨decide_eq_true (Int.lt_of_lt_of_le (by decide) h),decide_eq_true (Int.lt_of_le_of_lt h2 (by decide))⟩
theorem gc{l:List PV}{k:Int}(h0:0<=k)(h1:k<(l.length:Int))(hf:fits l=true):listAt l (.int k)=fq l k.toNat:=uh h0 h1 (of_decide_eq_true hf)
theorem tA{B:Tb}{t k:Int}(h1:1<=k)(h2:k<=cnt B t):(B.R t)[(k-1).toNat]? =some (bk B t k):=by
 have cZ:(k-1).toNat<(B.R t).length:=(Int.toNat_lt (Int.sub_nonneg_of_le h1)).mpr (Int.lt_of_lt_of_le (Int.sub_lt_self k (by decide)) h2)
 rw[bk,List.getD_eq_getElem?_getD,List.getElem?_eq_getElem cZ];rfl
theorem gZ{B:Tb}{t k:Int}(h1:1<=k)(h2:k<=cnt B t):bk B t k∈B.R t:=List.mem_of_getElem? (tA h1 h2)
theorem Hs(h:WW c)(sh:Shape c.B)(n:Nat)(t k:Int)(h1:1<=k/\k<=cnt c.B t):dc c (ar ah aa (n+2)) 105 [.ts,.v (.int t),.v (.int k)] (.r (cols t).length (bk c.B t k)):=λvs T Z hv w=>by
 match vs,hv with
 |[_,_,_],hv=>
  obtain ⟨rfl,rfl,rfl,_⟩:=hv
  have hw:=sh.m8 t _ (gZ h1.1 h1.2)
  refine⟨_,Z++[.list []],?_,w.new _,KE.new _ _ _,rfl,hw,Nat.le_trans (fP t) (by decide)⟩
  have w1:=w.new (.list [])
  obtain ⟨d,es,ks,g1,g2,hr,_⟩:=h.Hr
  have g0:=h.get w g1
  have g1:=h.get w1 g1
  have g2:=h.get w1 g2
  have a1:ag (ar ah aa (n+1)) aa (.cmp .lt (.loc 2) (.k (.int 1))) [some (.inst 1 c.jt),some (.int t),some (.int k)] Z=some (.ok (.bool (decide (k<1))),Z):=rfl
  have a2:ag (ar ah aa (n+1)) aa (.cmp .gt (.loc 2) (.aK (.loc 0) 4 (.cons (.loc 1) .nil))) [some (.inst 1 c.jt),some (.int t),some (.int k)] Z=some (.ok (.bool (decide (k>cnt c.B t))),Z++[.list []]):=
   dQ (x:=.int k) (y:=.int (cnt c.B t)) rfl ((hW (x:=.inst 1 c.jt) (vs:=[.int t]) rfl (sS g0) rfl).trans (zJ h sh.toiu n t w)) rfl
  have e1:=oo a1 λO=>a2
  rw[decide_eq_false (show ¬k<1 by omega),decide_eq_false (show ¬k>cnt c.B t by omega)] at e1
  rcases hr t with ⟨hn,he⟩ | ⟨i,hi,gi⟩
  ·have:cnt c.B t=0:=by simp only [cnt,he];rfl
   omega
  ·have gi:=h.get w1 gi
   have hl:((c.B.R t).map pr).length<=60000:=by rw[List.length_map];exact sh.len t
   have hc:cnt c.B t=(((c.B.R t).map pr).length:Int):=by rw[List.length_map];rfl
   have ix:index (.ref i) (.int (k-1)) (Z++[.list []])=some (pr (bk c.B t k)):=by
    rw[f9 gi,gc (by omega) (by omega) (decide_eq_true (by omega)),nth_get?,List.getElem?_map,tA h1.1 h1.2];rfl
   have e2:ag (ar ah aa (n+1)) aa (.idx (.idx (.attr (.loc 0)) (.loc 1)) (.bin .sub (.loc 2) (.k (.int 1)))) [some (.inst 1 c.jt),some (.int t),some (.int k)] (Z++[.list []])=some (.ok (pr (bk c.B t k)),Z++[.list []]):=
    bF (x:=.ref i) (y:=.int (k-1)) (bF (x:=.ref d) (y:=.int t) (lR rfl g1 (Nat.le_refl _)) rfl (qL g2 (y:=.int t) rfl |>.trans hi)) rfl ix
   exact bA Q0 rfl (gY e1 (y_ret e2))
noncomputable def nU{α:Type}(f:α->PV):Option α->Except Ex PV
 |some x=>.ok (f x)
 |none=>.error .hZ
theorem Ji{α:Type}{l:List α}{k:Int}(h:k<0\/k>=(l.length:Int)):c6 l k=none:=by
 rcases h with h | h
 ·exact if_pos h
 ·rw[c6];split
  ·rfl
  ·exact List.getElem?_eq_none (by omega)
theorem DL{α:Type}{l:List α}{f:α->PV}{j i:Nat}(g1:aj Z j=some (.attrs (some (.ref i))))(g2:aj Z i=some (.list (l.map f)))(hf:fits l=true)(n:Nat)(k:Int):
  ar ah aa (n+1) 102 [.inst 0 j,.int k] Z=some (nU f (c6 l k),Z):=by
 have hl:l.length<=65536:=of_decide_eq_true hf
 have e0:ag (ar ah aa n) aa (.attr (.loc 0)) [some (.inst 0 j),some (.int k)] Z=some (.ok (.ref i),Z):=lR rfl g1 (Nat.zero_le _)
 have a2:ag (ar ah aa n) aa (.cmp .ge (.loc 1) (.aF .len (.attr (.loc 0)))) [some (.inst 0 j),some (.int k)] Z=some (.ok (.bool (decide (k>=(l.length:Int)))),Z):=
  dQ (x:=.int k) (y:=.int l.length) rfl (aC e0 (by rw[len_list g2 (map_fits hl),List.length_map];rfl)) rfl
 have e1:=oo (x:=decide (k<0)) (cf:=ar ah aa n) (J:=[some (.inst 0 j),some (.int k)]) (a:=.cmp .lt (.loc 1) (.k (.int 0))) rfl λO=>a2
 have cs:(bif decide (k<0) then Z else Z)=Z:=by cases decide (k<0)<;>rfl
 rw[cs] at e1
 by_cases hk:k<0\/k>=(l.length:Int)
 ·rw[Ji hk]
  rw[show (decide (k<0)||decide (k>=(l.length:Int)))=true by rw[<-Bool.decide_or];exact decide_eq_true hk] at e1
  exact oq LV rfl (gY e1 rfl)
 ·have dj:k.toNat<l.length:=by omega
  have iA:c6 l k=some l[k.toNat]:=by rw[c6,if_neg (by omega),List.getElem?_eq_getElem dj]
  have ix:index (.ref i) (.int k) Z=some (f l[k.toNat]):=by
   rw[f9 g2,gc (by omega) (by rw[List.length_map];omega) (map_fits hl),nth_get?,List.getElem?_map,List.getElem?_eq_getElem dj];rfl
  rw[show (decide (k<0)||decide (k>=(l.length:Int)))=false by rw[<-Bool.decide_or];exact decide_eq_false hk] at e1
  rw[iA]
  exact bA LV rfl (gY e1 (y_ret (bF e0 (y:=.int k) rfl ix)))
theorem Ms(h:WW c)(fi:iu c.B)(n:Nat)(k:Int)(w:WS c T Z):ar ah aa (n+1) 102 [.inst 0 c.jx,.int k] Z=some (nU .str (c6 c.B.txt k),Z):=by
 obtain ⟨i,g1,g2⟩:=h.txt
 exact DL (h.get w g1) (h.get w g2) (decide_eq_true (Nat.le_trans fi.txt (by decide))) n k
theorem Mt(h:WW c)(n:Nat)(k:Int)(w:WS c T Z):ar ah aa (n+1) 102 [.inst 0 c.jb,.int k] Z=some (nU .bytes (c6 c.B.gh k),Z):=by
 obtain ⟨i,g1,g2,hf⟩:=h.gh
 exact DL (h.get w g1) (h.get w g2) hf n k
theorem jH{j i:Nat}(g:aj Z j=some (.attrs (some (.ref i)))):cU 3 (.inst 0 j) Z=true:=sS g
theorem Q4(h:WW c)(fi:iu c.B)(n:Nat)(k:Int)(hk:∃s,c6 c.B.txt k=some s):dc c (ar ah aa (n+2)) 6 [.tx,.v (.int k)] (.v (.str (nm c.B k))):=λvs T Z hv w=>by
 match vs,hv with
 |[_,_],hv=>
  obtain ⟨rfl,rfl,_⟩:=hv
  obtain ⟨s,hs⟩:=hk
  obtain ⟨i,g1,_⟩:=h.txt
  have e:ar ah aa (n+1) 102 [.inst 0 c.jx,.int k] Z=_:=Ms h fi n k w
  rw[hs] at e
  refine⟨_,Z,bA rfl rfl (y_ret ((hW (x:=.inst 0 c.jx) (vs:=[.int k]) rfl (jH (h.get w g1)) rfl).trans e)),w,.refl _ _,?_⟩
  rw[nm,hs];rfl
theorem zK{α:Type}{l:List α}{k:Int}{s:α}(h:c6 l k=some s):s∈l:=by
 rw[c6] at h;split at h
 ·cases h
 ·exact List.mem_of_getElem? h
theorem Q5(h:WW c)(fi:iu c.B)(n:Nat)(k:Int)(hk:∃s,c6 c.B.gh k=some s):dc c (ar ah aa (n+2)) 7 [.bl,.v (.int k)] (.o (bb c.B k)):=λvs T Z hv w=>by
 match vs,hv with
 |[_,_],hv=>
  obtain ⟨rfl,rfl,_⟩:=hv
  obtain ⟨s,hs⟩:=hk
  obtain ⟨i,g1,_⟩:=h.gh
  have e:ar ah aa (n+1) 102 [.inst 0 c.jb,.int k] Z=_:=Mt h n k w
  rw[hs] at e
  have hf:fits s=true:=decide_eq_true (Nat.le_trans (fi.gh s (zK hs)) (by decide))
  have e2:ag (ar ah aa (n+1)) aa (.aF .tuple (.aK (.loc 0) 3 (.cons (.loc 1) .nil))) [some (.inst 0 c.jb),some (.int k)] Z=some (.ok (jv s),Z):=
   aC ((hW (x:=.inst 0 c.jb) (vs:=[.int k]) rfl (jH (h.get w g1)) rfl).trans e) (by show FR.lift (az (fits s) _)=_;rw[hf];rfl)
  refine⟨_,Z,bA rfl rfl (y_ret e2),w,.refl _ _,?_⟩
  rw[bb,hs];rfl
end
noncomputable def Hu:List (Nat×(List XV->XR XV))->Nat->List XV->XR XV
 |[],_,_=>none
 |e::r,f,xs=>if e.1=f then e.2 xs else Hu r f xs
noncomputable def zL(c:Wc)(cf:Nat->List PV->ae->Out PV):List (Nat×(List XV->XR XV))->Prop
 |[]=>True
 |e::r=>(∀xs,Sd (e.2 xs) (dc c cf e.1 xs))/\zL c cf r
theorem DM{c:Wc}{cf:Nat->List PV->ae->Out PV}:∀{es:List (Nat×(List XV->XR XV))},zL c cf es->∀f xs,Sd (Hu es f xs) (dc c cf f xs)
 |[],_,_,_=>Sd.none
 |e::r,h,f,xs=>by
  rw[Hu]
  split
  ·rename_i q;rw[<-q];exact h.1 xs
  ·exact DM h.2 f xs
noncomputable def iH(c:Wc)(h:uf c)(n:Nat)(es:List (Nat×(List XV->XR XV)))(ok:zL c (ar ah aa n) es):Xc:=⟨c,ar ah aa n,Hu es,h,DM ok⟩
noncomputable def pU(k:List XV->XR XV):List XV->XR XV
 |[]=>none
 |x::r=>match x with
  |.ts=>k r
  |_=>none
noncomputable def Hv(k:List XV->XR XV):List XV->XR XV
 |[]=>none
 |x::r=>match x with
  |.tx=>k r
  |_=>none
noncomputable def Mu(k:List XV->XR XV):List XV->XR XV
 |[]=>none
 |x::r=>match x with
  |.bl=>k r
  |_=>none
noncomputable def aV(k:PV->List XV->XR XV):List XV->XR XV
 |[]=>none
 |x::r=>match x with
  |.v v=>k v r
  |_=>none
noncomputable def aR(k:Nat->Row->List XV->XR XV):List XV->XR XV
 |[]=>none
 |x::r=>match x with
  |.r w row=>k w row r
  |_=>none
noncomputable def aI(k:Int->List XV->XR XV):List XV->XR XV:=aV λv r=>match v with
 |.int i=>k i r
 |_=>none
noncomputable def aE(r:XR XV):List XV->XR XV
 |[]=>r
 |_::_=>none
section
variable{P:List XV->XV->Prop}
theorem iB{k:List XV->XR XV}(h:∀r,Sd (k r) (P (.ts::r))):∀xs,Sd (pU k xs) (P xs)
 |[]=>Sd.none
 |x::r=>by cases x with
  |ts=>exact h r
  |_=>exact Sd.none
theorem xy{k:List XV->XR XV}(h:∀r,Sd (k r) (P (.tx::r))):∀xs,Sd (Hv k xs) (P xs)
 |[]=>Sd.none
 |x::r=>by cases x with
  |tx=>exact h r
  |_=>exact Sd.none
theorem DN{k:List XV->XR XV}(h:∀r,Sd (k r) (P (.bl::r))):∀xs,Sd (Mu k xs) (P xs)
 |[]=>Sd.none
 |x::r=>by cases x with
  |bl=>exact h r
  |_=>exact Sd.none
theorem BJ{k:PV->List XV->XR XV}(h:∀v r,Sd (k v r) (P (.v v::r))):∀xs,Sd (aV k xs) (P xs)
 |[]=>Sd.none
 |x::r=>by cases x with
  |v a=>exact h a r
  |_=>exact Sd.none
theorem Ot{k:Nat->Row->List XV->XR XV}(h:∀w row r,Sd (k w row r) (P (.r w row::r))):∀xs,Sd (aR k xs) (P xs)
 |[]=>Sd.none
 |x::r=>by cases x with
  |r w row=>exact h w row r
  |_=>exact Sd.none
theorem bS{k:Int->List XV->XR XV}(h:∀i r,Sd (k i r) (P (.v (.int i)::r))):∀xs,Sd (aI k xs) (P xs):=BJ λv r=>by cases v with
 |int i=>exact h i r
 |_=>exact Sd.none
theorem dR{r:XR XV}(h:Sd r (P [])):∀xs,Sd (aE r xs) (P xs)
 |[]=>h
 |_::_=>Sd.none
theorem Sd.of{α:Type}{x:α}{p:Prop}{P:α->Prop}(h:p->P x):Sd (some (x,[p])) P:=λO O e a=>by cases e;exact h a
end
noncomputable abbrev Oe:=Nat×(List XV->XR XV)
section
variable(B:Tb)
noncomputable def pe:Oe:=(5,pU (aI λt=>aE (some (.rl (cols t).length (B.R t),[]))))
noncomputable def iR:Oe:=(106,pU (aI λt=>aE (some (.v (.int (cnt B t)),[]))))
noncomputable def FH:Oe:=(105,pU (aI λt=>aI λk=>aE (some (.r (cols t).length (bk B t k),[1<=k/\k<=cnt B t]))))
noncomputable def kS:Oe:=(105,pU (aI λt=>aI λk=>aE (some (.rs (bk B t k),[1<=k/\k<=cnt B t]))))
noncomputable def um:Oe:=(6,Hv (aI λk=>aE (some (.v (.str (nm B k)),[∃s,c6 B.txt k=some s]))))
noncomputable def xA:Oe:=(7,Mu (aI λk=>aE (some (.o (bb B k),[∃s,c6 B.gh k=some s]))))
noncomputable def Ph:Oe:=(23,aR λw r=>aE (some (.v (.bool (isIf r)),[0<w])))
noncomputable def Hw:Oe:=(33,aI λm=>aI λt=>aE (some (.v (.bool (n4 m t)),[])))
noncomputable def DO:Oe:=(2,aI λc=>aI λk=>aE (some (.v (.tup [.int (bL B c k).1,.int (bL B c k).2]),[(0<=c/\c<=6)/\∃p,cX c k=some p])))
noncomputable def iC(s k:Int):PV:=match cX (s-512) k with
 |some p=>.tup [.int p.1,.int p.2]
 |.none=>.none
noncomputable def mP(v:PV):Oe:=(13,aI λs=>aI λk=>aE (some (.v v,[(512<=s/\s<=518)/\iC s k=v])))
noncomputable def jj:Oe:=(18,pU (aI λt=>aI λP=>aI λo=>aI λk=>aE (some (.v (.tup [.int (fv B t P.toNat k),.int (gk B t P.toNat o k)]),[(0<=P/\P<(cols t).length)/\1<=k/\k<=cnt B t]))))
noncomputable def FI:Oe:=(19,pU (aI λt=>aI λP=>aI λo=>aI λk=>aE (some (.v (.int (eC B t P.toNat o k)),[0<=P/\P<(cols t).length]))))
noncomputable def DP:Oe:=(34,pU (aI λt=>aI λk=>aE (some (.v (.int (xg B t k)),[]))))
noncomputable def eList:Oe:=(14,aI λt=>aI λP=>aE (some (.v (.bool (gT t P)),[])))
noncomputable def eName:Oe:=(16,pU (aI λs=>aI λk=>aV λv=>match v with
 |.bool b=>aE (some (.v (.bool (da B s k b)),[s<=518]))
 |_=>λO=>none))
end
section
variable{c:Wc}(h:WW c)
include h
theorem qP(sh:Shape c.B)(n:Nat):∀xs,Sd ((pe c.B).2 xs) (dc c (ar ah aa (n+1)) 5 xs):=iB (bS λt=>dR (Sd.give (Mr h sh n t)))
theorem jP(fi:iu c.B)(n:Nat):∀xs,Sd ((iR c.B).2 xs) (dc c (ar ah aa (n+1)) 106 xs):=iB (bS λt=>dR (Sd.give (Jh h fi n t)))
theorem zM(sh:Shape c.B)(n:Nat):∀xs,Sd ((FH c.B).2 xs) (dc c (ar ah aa (n+2)) 105 xs):=iB (bS λt=>bS λk=>dR (Sd.of (Hs h sh n t k)))
omit h in
theorem dc.imp{cf:Nat->List PV->ae->Out PV}{f:Nat}{xs:List XV}{x y:XV}(k:dc c cf f xs x)(g:∀Z v,VX c Z x v->VX c Z y v):dc c cf f xs y:=λvs T Z hv w=>
 let ⟨v,af,e,w,ke,p⟩:=k vs T Z hv w;⟨v,af,e,w,ke,g _ _ p⟩
theorem qQ(sh:Shape c.B)(n:Nat):∀xs,Sd ((kS c.B).2 xs) (dc c (ar ah aa (n+2)) 105 xs):=iB (bS λt=>bS λk=>dR (Sd.of λhk=>dc.imp (y:=.rs (bk c.B t k)) (Hs h sh n t k hk) λO O p=>p.1))
theorem xB(fi:iu c.B)(n:Nat):∀xs,Sd ((um c.B).2 xs) (dc c (ar ah aa (n+2)) 6 xs):=xy (bS λk=>dR (Sd.of (Q4 h fi n k)))
theorem DQ(fi:iu c.B)(n:Nat):∀xs,Sd ((xA c.B).2 xs) (dc c (ar ah aa (n+2)) 7 xs):=DN (bS λk=>dR (Sd.of (Q5 h fi n k)))
theorem Mv(n:Nat):∀xs,Sd (Ph.2 xs) (dc c (ar ah aa (n+1)) 23 xs):=Ot λw r=>dR (Sd.of λh0 vs T Z hv ws=>by
 match vs,hv with
 |[_],hv=>
  obtain ⟨⟨rfl,rfl,hw⟩,_⟩:=hv
  exact fS (X:=iH c h.ok n [] trivial) (xs:=[.rs r]) rfl rfl rfl rfl (λn0 T=>dO (x:=.v (.bool (isIf r))) (ps:=[0<=(0:Int)/\(0:Int)<r.length/\r.length<=65536]) rfl ⟨Int.le_refl 0,by omega,hw⟩ rfl) _ T Z ⟨rfl,trivial⟩ ws)
theorem FJ(n:Nat):∀xs,Sd (Hw.2 xs) (dc c (ar ah aa (n+1)) 33 xs):=bS λm=>bS λt=>dR (Sd.give (fS (X:=iH c h.ok n [] trivial) rfl rfl rfl rfl λn0 T=>
 eD (x:=.v (.bool (decide (t=20)))) (ps:=[]) (t:=decide (t=20)) rfl trivial rfl
  (λe=>by rw[n4,if_pos (of_decide_eq_true e)];exact Rt.ne (dO (x:=.v (.bool (decide (m=8)||decide (m=16)))) (ps:=[]) rfl trivial rfl))
  (λe=>by rw[n4,if_neg (of_decide_eq_false e)];exact dO (x:=.v (.bool (decide (m=1)||decide (m=2)))) (ps:=[]) rfl trivial rfl)))
theorem ot(sh:Shape c.B)(n:Nat):∀xs,Sd ((jj c.B).2 xs) (dc c (ar ah aa (n+3)) 18 xs):=iB (bS λt=>bS λP=>bS λo=>bS λk=>dR (Sd.of λhk=>by
 obtain ⟨hP,hk⟩:=hk
 have hw:=λj(hj:1<=j/\j<=cnt c.B t)=>show 0<=P/\P<(bk c.B t j).length/\(bk c.B t j).length<=65536 by
  rw[sh.m8 t _ (gZ hj.1 hj.2)];exact⟨hP.1,hP.2,Nat.le_trans (fP t) (by decide)⟩
 refine fS (X:=iH c h.ok (n+2) [iR c.B,kS c.B] ⟨jP h sh.toiu (n+1),qQ h sh n,trivial⟩) rfl rfl rfl rfl λn0 T=> ?_
 refine bc (aO:=[.ts,.v (.int t),.v (.int P),.v (.int o),.v (.int k),.v (.int (fv c.B t P.toNat k))]) (ps:=[1<=k/\k<=cnt c.B t,0<=P/\P<(bk c.B t k).length/\(bk c.B t k).length<=65536]) rfl ⟨hk,hw k hk⟩ ?_
 refine eD (x:=.v (.bool (decide (k<cnt c.B t)))) (ps:=[]) (t:=decide (k<cnt c.B t)) rfl trivial rfl (λe=> ?_) λe=> ?_
 ·rw[gk,if_pos (of_decide_eq_true e)]
  have Pj:1<=k+1/\k+1<=cnt c.B t:=⟨Int.le_trans hk.1 (Int.le_add_of_nonneg_right (by decide)),of_decide_eq_true e⟩
  exact Rt.ne (dO (x:=.v (.tup [.int (fv c.B t P.toNat k),.int (cl (bk c.B t (k+1)) P.toNat)])) (ps:=[1<=k+1/\k+1<=cnt c.B t,0<=P/\P<(bk c.B t (k+1)).length/\(bk c.B t (k+1)).length<=65536]) rfl ⟨Pj,hw _ Pj⟩ rfl)
 ·rw[gk,if_neg (of_decide_eq_false e)]
  exact dO (x:=.v (.tup [.int (fv c.B t P.toNat k),.int (cnt c.B o+1)])) (ps:=[]) rfl trivial rfl))
end
section
variable{c:Wc}
theorem ou{X:Type}(q:Nat->X->Option Int):∀(l:List X)(k:Nat),iz (λk x=>(q k x).map PV.int) k l=(iV q k l).map PV.int
 |[],_=>rfl
 |x::l,k=>by
  simp only [iz,iV]
  cases q k x with
  |none=>exact ou q l (k+1)
  |some v=>rfl
theorem XS.imp{X:Xc}{n0:Nat}{ss:bq}{aq:List XV}{T:List PV}{R R':Fl->Loc->ae->Prop}(h:XS X n0 ss aq T R)(g:∀f J Z,R f J Z->R' f J Z):XS X n0 ss aq T R':=λJ Z hs l w=>
 let ⟨f,aN,af,e,k,r⟩:=h J Z hs l w;⟨f,aN,af,e,k,g _ _ _ r⟩
noncomputable def Ht(X:Xc)(n0:Nat)(aq:List XV)(b:Bool)(v:PV)(T:List PV)(f:Fl)(J:Loc)(Z:ae):Prop:=(b=true->Rt X v T f J Z)/\(b=false->Nx X n0 aq T f J Z)
theorem xC{X:Xc}{n0:Nat}{aq aO:List XV}{T:List PV}{ce e:ME}{x y:XV}{t:Bool}{v:PV}{ps qs:List Prop}(h:xE X.o X.B aq ce=some (x,ps))(al:All ps)(ht:xt x=some t)(h':xE X.o X.B aq e=some (y,qs))(Mp:All qs)(hv:Hn y=some v)(m:og aq aO=aO):
  XS X n0 (.cons (.aP ce (.cons (.ret e) .nil) .nil) .nil) aq T (Ht X n0 aO t v T):=
 eD h al ht (λht=>(Rt.ne (dO h' Mp hv)).imp λO O O r=>⟨r.1,λO=>r.2,λe=>absurd (ht.symm.trans e) Bool.noConfusion⟩)
  λht=>(ji m).imp λO O O r=>⟨λe=>absurd (e.symm.trans ht) Bool.noConfusion,λO=>r⟩
theorem xD{X:Xc}{n0:Nat}{A:Type}{body:bq}{t:iY}{en:Bool}{gF:A->PV}{l:List A}{it:MI}{e:ME}{r:bq}{aq:List XV}{T:List PV}{bx:Nat->A->List XV}{x:XV}{ps:List Prop}{d:Int}(q:Nat->A->Option Int)(mM:jw X n0 aq it en (l.map gF))(je:∀k x,l[k]? =some x->Bd X n0 t en k (gF x) aq (bx k x))
  (hb:∀k x,l[k]? =some x->∃b i,q k x=(if b=true then some i else .none)/\XS X n0 body (bx k x) T (Ht X n0 aq b (.int i) T))
  (he:xE X.o X.B aq e=some (x,ps)) (a:All ps) (hd:Hn x=some (.int d)):XS X n0 (.cons (.ba t it body) (.cons (.ret e) r)) aq T (Rt X (.int ((iV q 0 l).getD d)) T):=by
 refine zE (λk x=>(q k x).map PV.int) mM je (λk x hx=> ?_) (λv hv f J Z h=> ?_) λhv=> ?_
 ·obtain ⟨b,i,e,h⟩:=hb k x hx
  refine h.imp λf J Z h=> ?_
  rw[e]
  cases b with
  |true=>exact h.1 rfl
  |false=>exact h.2 rfl
 ·rw[ou] at hv
  obtain ⟨w,hw,e⟩:=Option.map_eq_some_iff.mp hv
  rw[hw];rw[<-e] at h;exact h
 ·rw[ou,Option.map_eq_none_iff] at hv
  rw[hv]
  exact dO he a hd
theorem lS(fi:iu c.B)(t:Int):0<=cnt c.B t/\cnt c.B t<=60000:=⟨Int.natCast_nonneg _,Int.ofNat_le.mpr (fi.len t)⟩
theorem xF{m n x:Int}{k:Nat}(h:(cG m (n-m).toNat)[k]? =some x):m<=x/\x<n:=by
 have h:=(ue _ _ _).mp (List.mem_of_getElem? h)
 omega
theorem lT{X:Xc}{n0:Nat}{aq:List XV}{a b:ME}{t m:Int}(fi:iu X.B)(h:xE X.o X.B aq a=some (.v (.int m),[]))(h':xE X.o X.B aq b=some (.v (.int (cnt X.B t+1)),[]))(hm:0<=m/\m<=2):jw X n0 aq (.df a b) false ((cG m (cnt X.B t+1-m).toNat).map .int):=
 src_range h trivial h' trivial (by have:=lS (c:=X.toWc) fi t;omega)
theorem Mw(B:Tb)(t:Int)(p:Nat)(o k:Int):eC B t p o k=(iV (xa B t p o k) 0 (cG 1 (cnt B t+1-1).toNat)).getD 0:=by rw[eC,Int.add_sub_cancel]
variable(h:WW c)
include h
theorem zN(sh:Shape c.B)(n:Nat):∀xs,Sd ((FI c.B).2 xs) (dc c (ar ah aa (n+4)) 19 xs):=iB (bS λt=>bS λP=>bS λo=>bS λk=>dR (Sd.of λhP=>by
 refine fS (X:=iH c h.ok (n+3) [iR c.B,jj c.B] ⟨jP h sh.toiu (n+2),ot h sh n,trivial⟩) rfl rfl rfl rfl λn0 T=> ?_
 rw[Mw]
 refine xD (x:=.v (.int 0)) (ps:=[]) (bx:=λO x=>[.ts,.v (.int t),.v (.int P),.v (.int o),.v (.int k),.v (.int x),.any,.any]) (xa c.B t P.toNat o k) (lT sh.toiu rfl rfl (by decide)) (λO O O=>dP (x:=.v (.int _)) rfl λO=>rfl) (λj x hx=>⟨_,x,rfl,?_⟩) rfl trivial rfl
 have hr:=xF hx
 exact bc (ps:=[(0<=P/\P<(cols t).length)/\1<=x/\x<=cnt c.B t]) (aO:=[.ts,.v (.int t),.v (.int P),.v (.int o),.v (.int k),.v (.int x),.v (.int (fv c.B t P.toNat x)),.v (.int (gk c.B t P.toNat o x))]) rfl ⟨hP,hr.1,Int.le_of_lt_add_one hr.2⟩
  (xC (x:=.v (.bool (decide (k>=fv c.B t P.toNat x)&&decide (k<gk c.B t P.toNat o x)))) (y:=.v (.int x)) (ps:=[]) (qs:=[]) rfl trivial rfl rfl trivial rfl rfl)))
end
section
variable{Z:ae}
noncomputable def xG(c k:Int):Except Ex PV:=match cX c k with
 |some p=>.ok (.tup [.int p.1,.int p.2])
 |.none=>.error .hZ
theorem bitAnd_nn(x y:Int)(h:0<=y):0<=Builtin.bitAnd x y:=by
 unfold Builtin.bitAnd
 simp only [h,decide_true]
 split
 ·exact Int.natCast_nonneg _
 ·rename_i h1 h2;cases h2
 ·have:=Nat.and_le_left (n:=y.toNat) (m:=(Builtin.bitNot x).toNat);omega
 ·rename_i h1 h2;cases h2
theorem FK{c:Int}(hc:0<=c/\c<=6):index ze (.int c) Z=some (.tup [.int (coded c).1,.tup ((coded c).2.map .int)])/\(0<=(coded c).1/\(coded c).1<=3)/\(coded c).2.length<=5:=by
 have h:c=0\/c=1\/c=2\/c=3\/c=4\/c=5\/c=6:=by omega
 rcases h with h | h | h | h | h | h | h<;>subst h<;>exact⟨rfl,by decide,by decide⟩
theorem zO(n:Nat){c:Int}(hc:0<=c/\c<=6)(k:Int):ar ah aa (n+1) 2 [.int c,.int k] Z=some (xG c k,Z):=by
 obtain ⟨g,hb,hl⟩:=FK (Z:=Z) hc
 rw[xG,cX]
 generalize coded c=co at g hb hl⊢
 obtain ⟨b,l⟩:=co
 dsimp only at g hb hl⊢
 have hp:(0:Int)<2 ^ b.toNat:=Int.pow_pos (by decide)
 have Pk:=bitAnd_nn k (2 ^ b.toNat-1) (by omega)
 have Q6:gB .shl 1 b=some (2 ^ b.toNat):=by
  show az (small 1) (az (decide (0<=b)) (az (decide (b<=64)) (some (1*2 ^ b.toNat))))=_
  rw[decide_eq_true hb.1,decide_eq_true (Int.le_trans hb.2 (by decide)),Int.one_mul];rfl
 have Q7:gB .shr k b=some (k.fdiv (2 ^ b.toNat)):=by
  show az (decide (0<=b)) (az (decide (b<=64)) (some (k.fdiv (2 ^ b.toNat))))=_
  rw[decide_eq_true hb.1,decide_eq_true (Int.le_trans hb.2 (by decide))];rfl
 have ix:∀{j:Int},0<=j->j<l.length->index (.tup (l.map .int)) (.int j) Z=some (.int (cl l j.toNat)):=λh0 h1=>iw (r:=l) ⟨h0,h1,by omega⟩
 have hf:fits (l.map PV.int)=true:=map_fits (by omega)
 generalize hA:Builtin.bitAnd k (2 ^ b.toNat-1)=A at Pk⊢
 have pre:∀{R},ak (ar ah aa n) aa (.cons (.aP (.or (.cons (.cmp .ge (.loc 3) (.aF .len (.idx (.loc 2) (.k (.int 1))))) (.cons (.cmp .lt (.idx (.idx (.loc 2) (.k (.int 1))) (.loc 3)) (.k (.int 0))) .nil))) (.cons (.eR (.cons (.k (.str [116,97,103])) (.cons (.loc 1) .nil))) .nil) .nil)
   (.cons (.ret (.tup (.cons (.idx (.idx (.loc 2) (.k (.int 1))) (.loc 3)) (.cons (.bin .shr (.loc 1) (.idx (.loc 2) (.k (.int 0)))) .nil)))) .nil)) [some (.int c),some (.int k),some (.tup [.int b,.tup (l.map .int)]),some (.int A)] Z=R->ak (ar ah aa n) aa mY.body [some (.int c),some (.int k),none,none] Z=R:=λh=>
  sg (v:=.tup [.int b,.tup (l.map .int)]) (bF rfl rfl g) (sg (v:=.int A) (cO (x:=k) (y:=2 ^ b.toNat-1) (z:=A) rfl (cO (x:=2 ^ b.toNat) (y:=1) (cO (x:=1) (y:=b) rfl (bF (x:=.tup [.int b,.tup (l.map .int)]) (y:=.int 0) rfl rfl rfl) Q6) rfl rfl) (congrArg some hA)) h)
 have t1:ag (ar ah aa n) aa (.cmp .ge (.loc 3) (.aF .len (.idx (.loc 2) (.k (.int 1))))) [some (.int c),some (.int k),some (.tup [.int b,.tup (l.map .int)]),some (.int A)] Z=some (.ok (.bool (decide (A>=(l.length:Int)))),Z):=
  dQ (x:=.int A) (y:=.int l.length) rfl (aC (bF (x:=.tup [.int b,.tup (l.map .int)]) (y:=.int 1) rfl rfl rfl) ((congrArg (λq=>FR.lift (az q (some (PV.int (l.map PV.int).length,Z)))) hf).trans (by rw[List.length_map];rfl))) rfl
 by_cases cZ:A<l.length
 ·have hn:A.toNat<l.length:=by omega
  have i2:=bF (cf:=ar ah aa n) (J:=[some (.int c),some (.int k),some (.tup [.int b,.tup (l.map .int)]),some (.int A)]) (a:=.idx (.loc 2) (.k (.int 1))) (i:=.loc 3) (bF (x:=.tup [.int b,.tup (l.map .int)]) (y:=.int 1) rfl rfl rfl) rfl (ix Pk cZ)
  have e1:=oo t1 λO=>dQ (o:=.lt) (b:=.k (.int 0)) (y:=.int 0) (r:=decide (cl l A.toNat<0)) i2 rfl rfl
  rw[decide_eq_false (show ¬A>=(l.length:Int) by omega),Bool.false_or] at e1
  rw[List.getElem?_eq_getElem hn]
  have Dk:l[A.toNat]=cl l A.toNat:=by rw[cl,List.getD_eq_getElem?_getD,List.getElem?_eq_getElem hn];rfl
  dsimp only
  rw[Dk]
  by_cases h0:cl l A.toNat<0
  ·rw[if_pos h0]
   rw[decide_eq_true h0] at e1
   exact oq rfl rfl (pre (gY e1 rfl))
  ·rw[if_neg h0]
   rw[decide_eq_false h0] at e1
   have e2:ag (ar ah aa n) aa (.tup (.cons (.idx (.idx (.loc 2) (.k (.int 1))) (.loc 3)) (.cons (.bin .shr (.loc 1) (.idx (.loc 2) (.k (.int 0)))) .nil))) [some (.int c),some (.int k),some (.tup [.int b,.tup (l.map .int)]),some (.int A)] Z=some (.ok (.tup [.int (cl l A.toNat),.int (k.fdiv (2 ^ b.toNat))]),Z):=
    aC (v:=[.int (cl l A.toNat),.int (k.fdiv (2 ^ b.toNat))]) (aC i2 (aC (v:=[.int (k.fdiv (2 ^ b.toNat))]) (aC (cO (x:=k) (y:=b) rfl (bF (x:=.tup [.int b,.tup (l.map .int)]) (y:=.int 0) rfl rfl rfl) Q7) rfl) rfl)) rfl
   exact bA rfl rfl (pre (gY e1 (y_ret e2)))
 ·have e1:=oo (b:=.cmp .lt (.idx (.idx (.loc 2) (.k (.int 1))) (.loc 3)) (.k (.int 0))) (y:=true) (aU:=Z) t1 λe=>absurd (of_decide_eq_false e) (λh=>h (by omega))
  rw[decide_eq_true (show A>=(l.length:Int) by omega)] at e1
  rw[List.getElem?_eq_none (by omega)]
  exact oq rfl rfl (pre (gY e1 rfl))
end
section
variable{c:Wc}
theorem DR(n:Nat):∀xs,Sd ((DO c.B).2 xs) (dc c (ar ah aa (n+1)) 2 xs):=bS λs=>bS λk=>dR (Sd.of λhk vs T Z hv w=>by
 match vs,hv with
 |[_,_],hv=>
  obtain ⟨rfl,rfl,_⟩:=hv
  obtain ⟨hc,p,hp⟩:=hk
  exact⟨_,Z,(zO n hc k).trans (by rw[xG,hp]),w,.refl _ _,by rw[bL,hp];rfl⟩)
theorem xH(v:PV)(n:Nat):∀xs,Sd ((mP v).2 xs) (dc c (ar ah aa (n+2)) 13 xs):=bS λs=>bS λk=>dR (Sd.of λhk vs T Z hv w=>by
 match vs,hv with
 |[_,_],hv=>
  obtain ⟨rfl,rfl,_⟩:=hv
  obtain ⟨hc,rfl⟩:=hk
  have e:=zO (Z:=Z) n (c:=s-512) (by omega) k
  have e0:ag (ar ah aa (n+1)) aa (.ax 2 (.cons (.bin .sub (.loc 0) (.gl 13)) (.cons (.loc 1) .nil))) [some (.int s),some (.int k)] Z=some (xG (s-512) k,Z):=e
  refine⟨iC s k,Z,?_,w,.refl _ _,rfl⟩
  rw[xG] at e0
  rw[iC]
  cases hs:cX (s-512) k with
  |none=>
   rw[hs] at e0
   have e1:aZ (ar ah aa (n+1)) aa (.kX (.cons (.ret (.ax 2 (.cons (.bin .sub (.loc 0) (.gl 13)) (.cons (.loc 1) .nil)))) .nil) .none) [some (.int s),some (.int k)] Z=some (.ok (.ret .none,[some (.int s),some (.int k)]),Z):=by
    show i3 (au (au (ag _ _ _ _ _) _) _) _ _=_
    rw[e0];rfl
   exact bA rfl rfl (aC e1 rfl)
  |some p=>
   rw[hs] at e0
   have e1:aZ (ar ah aa (n+1)) aa (.kX (.cons (.ret (.ax 2 (.cons (.bin .sub (.loc 0) (.gl 13)) (.cons (.loc 1) .nil)))) .nil) .none) [some (.int s),some (.int k)] Z=some (.ok (.ret (.tup [.int p.1,.int p.2]),[some (.int s),some (.int k)]),Z):=by
    show i3 (au (au (ag _ _ _ _ _) _) _) _ _=_
    rw[e0];rfl
   exact bA rfl rfl (aC e1 rfl))
theorem si{s k:Int}{p:Int×Int}(e:cX (s-512) k=some p):iC s k=.tup [.int p.1,.int p.2]:=by rw[iC,e]
theorem sj{s k:Int}(e:cX (s-512) k=.none):iC s k=.none:=by rw[iC,e]
theorem qR{A:Type}(f:A->Bool):∀(l:List A)(k:Nat),iz (λO r=>if f r=true then some (PV.bool true) else .none) k l=if l.any f=true then some (PV.bool true) else .none
 |[],_=>rfl
 |r::l,k=>by
  show (match (if f r=true then some (PV.bool true) else none) with | some v=>some v | .none=>iz (λO r=>if f r=true then some (PV.bool true) else .none) (k+1) l)=if (f r||l.any f)=true then some (PV.bool true) else none
  cases f r with
  |true=>rfl
  |false=>exact qR f l (k+1)
variable(h:WW c)
include h
theorem FL(fi:iu c.B)(n:Nat):∀xs,Sd ((eName c.B).2 xs) (dc c (ar ah aa (n+3)) 16 xs):=iB (bS λs=>bS λk=>BJ λv=>by
 cases v with
 |bool nn=>
  refine dR (r:=some (.v (.bool (da c.B s k nn)),[s<=518])) (Sd.of λhs=> ?_)
  have bH:=λv=>show zL c (ar ah aa (n+2)) [iR c.B,mP v] from ⟨jP h fi (n+1),xH v n,trivial⟩
  refine fS (X:=iH c h.ok (n+2) [iR c.B,mP .none] (bH _)) rfl rfl rfl rfl λn0 T=> ?_
  rw[da]
  refine eD (x:=.v (.bool (decide (s<512)))) (ps:=[]) (t:=decide (s<512)) rfl trivial rfl (λe=> ?_) λe=> ?_
  ·rw[if_pos (of_decide_eq_true e)]
   exact Rt.ne (dO (x:=.v (.bool (decide (k>=1)&&decide (k<=cnt c.B (s-256))))) (ps:=[]) rfl trivial rfl)
  ·have e:=of_decide_eq_false e
   rw[if_neg e]
   cases hp:cX (s-512) k with
   |none=>exact bc (aO:=[.ts,.v (.int s),.v (.int k),.v (.bool nn),.v .none]) (ps:=[(512<=s/\s<=518)/\iC s k=.none]) rfl ⟨⟨by omega,hs⟩,sj hp⟩ (eD (x:=.v (.bool true)) (ps:=[]) (t:=true) rfl trivial rfl (λO=>Rt.ne (dO (x:=.v (.bool true)) (ps:=[]) rfl trivial rfl)) Bool.noConfusion)
   |some p=>
    dsimp only
    refine(show XS (iH c h.ok (n+2) [iR c.B,mP (.tup [.int p.1,.int p.2])] (bH _)) n0 _ _ T _ from ?_ :)
    refine bc (aO:=[.ts,.v (.int s),.v (.int k),.v (.bool nn),.v (.tup [.int p.1,.int p.2])]) (ps:=[(512<=s/\s<=518)/\iC s k=.tup [.int p.1,.int p.2]]) rfl ⟨⟨by omega,hs⟩,si hp⟩
     (eD (x:=.v (.bool false)) (ps:=[]) (t:=false) rfl trivial rfl (Bool.noConfusion) λO=>
      eD (x:=.v (.bool (decide (p.2=0)))) (ps:=[]) (t:=decide (p.2=0)) rfl trivial rfl (λe=> ?_) λe=> ?_)
    ·rw[if_pos (of_decide_eq_true e)];exact Rt.ne (dO (x:=.v (.bool nn)) (ps:=[]) rfl trivial rfl)
    ·rw[if_neg (of_decide_eq_false e)];exact dO (x:=.v (.bool (decide (p.2>=1)&&decide (p.2<=cnt c.B p.1)))) (ps:=[]) rfl trivial rfl
 |_=>exact λO=>Sd.none)
theorem FN(n:Nat):∀xs,Sd (eList.2 xs) (dc c (ar ah aa (n+1)) 14 xs):=bS λt=>bS λP=>dR (Sd.give (fS (X:=iH c h.ok n [] trivial) rfl rfl rfl rfl λn0 T=>by
 refine zE (l:=lists) (gF:=pr) (bx:=λO r=>[.v (.int t),.v (.int P),.r 3 r]) (λO r=>if (decide (cl r 0=t)&&decide (cl r 1=P))=true then some (.bool true) else .none) (d4 (x:=.v (.tup (lists.map pr))) (ps:=[]) rfl trivial rfl) (λk r hr=>dP (x:=.r 3 r) rfl λZ=>⟨rfl,?_,by decide⟩) (λk r hr=> ?_) (λv hv f J Z hr=> ?_) λhv=> ?_
 ·have:∀r∈lists,r.length=3:=by decide
  exact this r (List.mem_of_getElem? hr)
 ·refine(xC (x:=.v (.bool (decide (cl r 0=t)&&decide (cl r 1=P)))) (y:=.v (.bool true)) (aO:=[.v (.int t),.v (.int P),.any]) (ps:=[]) (qs:=[]) rfl trivial rfl rfl trivial rfl rfl).imp λf J Z q=> ?_
  cases hb:(decide (cl r 0=t)&&decide (cl r 1=P)) with
  |true=>exact q.1 hb
  |false=>exact q.2 hb
 ·rw[qR λr:Row=>decide (cl r 0=t)&&decide (cl r 1=P)] at hv
  split at hv
  ·rename_i q;cases hv;rw[gT,q];exact hr
  ·cases hv
 ·rw[qR λr:Row=>decide (cl r 0=t)&&decide (cl r 1=P)] at hv
  split at hv
  ·cases hv
  ·rename_i q;rw[gT,Bool.eq_false_iff.mpr q];exact dO (x:=.v (.bool false)) (ps:=[]) rfl trivial rfl))
end
section
variable{X:Xc}{n0:Nat}{aq:List XV}{T:List PV}{R:Fl->Loc->ae->Prop}
theorem sk{i:Nat}{e:ME}{r:bq}{x:XV}(hd:gm x=false)(h:XGo X.toWc n0 aq (ag X.cf aa e) x)(k:XS X n0 r (dz aq i x) T R):XS X n0 (.cons (.aA i e) r) aq T R:=
 oi (λJ Z O l w=>let ⟨v,af,e,w',k',p⟩:=h J T Z l w;⟨.next,_,af,aC e rfl,k'.ks,.inl ⟨rfl,(l.mono k').qN i hd p,w'⟩⟩) k
theorem LX.at{c:Wc}{Z:ae}{J:Loc}(l:LX c n0 Z aq J)(i:Nat){v:PV}(e:bD aq i=.v v):bo J i=some v:=by
 obtain ⟨u,eu,hu⟩:=l.val i (by rw[e];rfl)
 rw[e] at hu
 cases hu
 exact eu
theorem UP{ss:bq}{Vm:Loc}(h:∀J Z,LX X.toWc n0 Z aq J->WS X.toWc T Z->∃f aN af,ak X.cf aa ss J Z=some (.ok (f,aN),af)/\KE X.it Z af/\R f aN af):XS X n0 ss aq T R:=λJ Z O l w=>
 let ⟨f,aN,af,e,k,r⟩:=h J Z l w;⟨f,aN,af,e,k.ks,r⟩
end
section
variable{cf:Nat->List PV->ae->Out PV}{J:Loc}{Z ai aU:ae}
theorem Mx{e a b:ME}{t:Bool}{v:PV}(h:ag cf aa e J Z=some (.ok (.bool t),ai))(k:ag cf aa (bif t then a else b) J ai=some (.ok v,aU)):ag cf aa (.ite e a b) J Z=some (.ok v,aU):=
by
 show au (ag cf aa e J Z) (λu Z=>pick (truth Z u) (ag cf aa a J Z) (ag cf aa b J Z))=_
 rw[h]
 cases t<;>exact k
theorem d6{i:Nat}{v:PV}(h:bo J i=some v):ag cf aa (.loc i) J Z=some (.ok v,Z):=by show FR.read Z (bo J i)=_;rw[h];rfl
theorem DS{a:ME}{r:Out PV}(h:ag cf aa a J Z=r):ag cf aa (.or (.cons a .nil)) J Z=r:=h
theorem xI{a b:ME}{r:bO}{x y:Bool}(ha:ag cf aa a J Z=some (.ok (.bool x),Z))(hb:ag cf aa (.or (.cons b r)) J Z=some (.ok (.bool y),Z)):ag cf aa (.or (.cons a (.cons b r))) J Z=some (.ok (.bool (x||y)),Z):=by
 show au (ag cf aa a J Z) (λv Z=>pick (truth Z v) (give v Z) (ag cf aa (.or (.cons b r)) J Z))=_
 rw[ha]
 show pick (some x) _ _=_
 cases x with
 |true=>rfl
 |false=>exact hb
end
section
variable{c:Wc}
theorem DT(t:List Nat)(l:List (List Nat)):isIn (.str t) (l.map .str)=some (th t l):=by
 induction l with
 |nil=>rfl
 |cons y r ih=>
  show ((eqv 6 (.str y) (.str t)).bind λb=>(isIn (.str t) (r.map .str)).bind λc=>some (b||c))=_
  rw[ih];rfl
theorem uo{Z:ae}{x:PV}{l:List PV}{b:Bool}(h:isIn x l=some b):kA .fk x (.tup l) Z=some !b:=by
 show ((isIn x l).bind λr=>some (!r))=_
 rw[h];rfl
theorem uq{X:Type}{p:Nat->X->Option Int}{Q:Int->Prop}:∀(l:List X)(k:Nat)(v:Int),(∀k x v,x∈l->p k x=some v->Q v)->iV p k l=some v->Q v
 |x::l,k,v,h,e=>by
  rw[iV] at e
  cases hp:p k x with
  |some w=>rw[hp] at e;cases e;exact h k x _ List.mem_cons_self hp
  |none=>rw[hp] at e;exact uq l (k+1) v (λk x v hx=>h k x v (List.mem_cons_of_mem _ hx)) e
theorem FP{B:Tb}(t:Int)(p:Nat)(o k:Int)(h:¬eC B t p o k=0):1<=eC B t p o k/\eC B t p o k<=cnt B t:=by
 rw[eC] at h⊢
 cases e:iV (xa B t p o k) 0 (cG 1 (cnt B t).toNat) with
 |none=>rw[e] at h;exact absurd rfl h
 |some v=>
  refine uq (Q:=λv=>1<=v/\v<=cnt B t) _ _ _ (λj x v hx hv=> ?_) e
  rw[xa] at hv
  split at hv
  ·cases hv;rw[ue] at hx;omega
  ·cases hv
theorem Jj(n:Nat){k:Int}(hk:1<=k/\k<=60000):dc c (ar ah aa (n+2)) 1 [.v (.int 3),.v (.int 20),.v (.int k)] (.v (.int (iv k))):=λvs T Z hv w=>by
 match vs,hv with
 |[_,_,_],hv=>
  obtain ⟨rfl,rfl,rfl,_⟩:=hv
  have e0:ar ah aa (n+1) 0 [.int k] Z=some (.ok .none,Z):=by
   have e1:=oo (cf:=ar ah aa n) (J:=[some (.int k)]) (Z:=Z) (a:=.cmp .lt (.loc 0) (.k (.int 0))) (b:=.cmp .ge (.loc 0) (.gl 0)) (x:=decide (k<0)) (y:=decide (k>=16777216)) rfl λO=>rfl
   rw[decide_eq_false (show ¬k<0 by omega),decide_eq_false (show ¬k>=16777216 by omega)] at e1
   have e2:ak (ar ah aa n) aa rn.body [some (.int k)] Z=some (.ok (.next,[some (.int k)]),Z):=gY e1 rfl
   exact mO rfl rfl e2
  have hs:gB .shl k 1=some (k*2):=by
   show az (small k) (az (decide ((0:Int)<=1)) (az (decide ((1:Int)<=64)) (some (k*2 ^ (1:Int).toNat))))=_
   rw[dy (by omega) (by omega)];rfl
  have e1:ag (ar ah aa (n+1)) aa (.bin .bor (.bin .shl (.loc 2) (.idx (.loc 3) (.k (.int 0)))) (.loc 4)) [some (.int 3),some (.int 20),some (.int k),some (.tup [.int 1,.tup [.int 20,.int 23]]),some (.int 0),some (.int 20)] Z=some (.ok (.int (iv k)),Z):=
   cO (x:=k*2) (y:=0) (cO (x:=k) (y:=1) rfl (bF (x:=.tup [.int 1,.tup [.int 20,.int 23]]) (y:=.int 0) rfl rfl rfl) hs) rfl rfl
  have e2:aZ (ar ah aa (n+1)) aa (.ba (.many [4,5]) (.enum (.idx (.loc 3) (.k (.int 1)))) (.cons (.aP (.and (.cons (.cmp .eq (.loc 5) (.loc 1)) (.cons (.cmp .ge (.loc 1) (.k (.int 0))) .nil))) (.cons (.ret (.bin .bor (.bin .shl (.loc 2) (.idx (.loc 3) (.k (.int 0)))) (.loc 4))) .nil) .nil) .nil))
    [some (.int 3),some (.int 20),some (.int k),some (.tup [.int 1,.tup [.int 20,.int 23]]),none,none] Z=some (.ok (.ret (.int (iv k)),[some (.int 3),some (.int 20),some (.int k),some (.tup [.int 1,.tup [.int 20,.int 23]]),some (.int 0),some (.int 20)]),Z):=
   (jL (s:=.tup [.int 20,.int 23]) (en:=true) rfl).trans (mq (cY:=[some (.int 3),some (.int 20),some (.int k),some (.tup [.int 1,.tup [.int 20,.int 23]]),some (.int 0),some (.int 20)]) rfl rfl (EC rfl (y_ret e1)))
  exact⟨_,Z,bA rfl rfl (aC (aC e0 rfl) (sg (v:=.tup [.int 1,.tup [.int 20,.int 23]]) rfl (aC e2 rfl))),w,.refl _ _,rfl⟩
variable(h:WW c)
include h
theorem DU(sh:Shape c.B)(n:Nat):∀xs,Sd ((DP c.B).2 xs) (dc c (ar ah aa (n+5)) 34 xs):=iB (bS λt=>bS λk=>dR (Sd.give (fS (X:=iH c h.ok (n+4) [FI c.B,kS c.B] ⟨zN h sh n,qQ h sh (n+2),trivial⟩) rfl rfl rfl rfl λn0 T=>by
 have hm:(cols (b8 t)).length=2:=by rw[b8];split<;>rfl
 refine sk (x:=.v (.int (b8 t))) rfl (λJ T Z l w=> ?_) ?_
 ·have e:ag (ar ah aa (n+4)) aa (.ite (.cmp .eq (.loc 1) (.gl 18)) (.gl 12) (.gl 11)) J Z=some (.ok (.int (b8 t)),Z):=by
   refine Mx (dQ (r:=decide (t=20)) (d6 (l.at 1 rfl)) (y:=.int 20) rfl rfl) ?_
   rw[b8]
   by_cases ht:t=20
   ·rw[if_pos ht,decide_eq_true ht];rfl
   ·rw[if_neg ht,decide_eq_false ht];rfl
  exact⟨_,Z,e,w,.refl _ _,rfl⟩
 ·rw[xg]
  refine bc (aO:=[.ts,.v (.int t),.v (.int k),.v (.int (b8 t)),.v (.int (eC c.B (b8 t) 1 t k))]) (ps:=[(0:Int)<=1/\(1:Int)<(cols (b8 t)).length]) rfl ⟨by decide,by rw[hm];decide⟩ ?_
  refine eD (x:=.v (.bool (decide (eC c.B (b8 t) 1 t k=0)))) (ps:=[]) (t:=decide (eC c.B (b8 t) 1 t k=0)) rfl trivial rfl (λe=> ?_) λe=> ?_
  ·rw[if_pos (of_decide_eq_true e)];exact Rt.ne (dO (x:=.v (.int (-1))) (ps:=[]) rfl trivial rfl)
  ·have e:=of_decide_eq_false e
   rw[if_neg e]
   have hr:=FP (B:=c.B) (b8 t) 1 t k e
   have hw:(bk c.B (b8 t) (eC c.B (b8 t) 1 t k)).length=2:=by rw[sh.m8 _ _ (gZ hr.1 hr.2),hm]
   exact dO (x:=.v (.int (cl (bk c.B (b8 t) (eC c.B (b8 t) 1 t k)) 0))) (ps:=[1<=eC c.B (b8 t) 1 t k/\eC c.B (b8 t) 1 t k<=cnt c.B (b8 t),0<=(0:Int)/\(0:Int)<(bk c.B (b8 t) (eC c.B (b8 t) 1 t k)).length/\(bk c.B (b8 t) (eC c.B (b8 t) 1 t k)).length<=65536]) rfl ⟨hr,by rw[hw];exact⟨by decide,by decide,by decide⟩⟩ rfl)))
theorem Jk(fi:iu c.B){T:List PV}{Z:ae}(w:WS c T Z)(n:Nat)(t:Int)(nm:List Nat)(s k:Int):
  ar ah aa (n+2) 9 [.inst 0 c.jx,.inst 0 c.jb,.int t,.tup [.str nm,.int s],.int k] Z=some (.ok (.bool (jf c.B t nm s k)),Z):=by
 obtain ⟨ix,gx,_⟩:=h.txt
 obtain ⟨ib,gb,_⟩:=h.gh
 have ex:ag (ar ah aa (n+1)) aa (.aK (.loc 0) 3 (.cons (.loc 4) .nil)) [some (.inst 0 c.jx),some (.inst 0 c.jb),some (.int t),some (.tup [.str nm,.int s]),some (.int k),none] Z=some (nU .str (c6 c.B.txt k),Z):=
  (hW (x:=.inst 0 c.jx) (vs:=[.int k]) rfl (jH (h.get w gx)) rfl).trans (Ms h fi n k w)
 have eb:ag (ar ah aa (n+1)) aa (.aK (.loc 1) 3 (.cons (.loc 4) .nil)) [some (.inst 0 c.jx),some (.inst 0 c.jb),some (.int t),some (.tup [.str nm,.int s]),some (.int k),none] Z=some (nU .bytes (c6 c.B.gh k),Z):=
  (hW (x:=.inst 0 c.jb) (vs:=[.int k]) rfl (jH (h.get w gb)) rfl).trans (Mt h n k w)
 have c4:ag (ar ah aa (n+1)) aa (.cmp .eq (.idx (.loc 3) (.k (.int 1))) (.gl 3)) [some (.inst 0 c.jx),some (.inst 0 c.jb),some (.int t),some (.tup [.str nm,.int s]),some (.int k),none] Z=some (.ok (.bool (decide (s=4))),Z):=
  dQ (x:=.int s) (y:=.int 4) (bF (x:=.tup [.str nm,.int s]) (y:=.int 1) rfl rfl rfl) rfl rfl
 have c5:ag (ar ah aa (n+1)) aa (.cmp .eq (.idx (.loc 3) (.k (.int 1))) (.gl 4)) [some (.inst 0 c.jx),some (.inst 0 c.jb),some (.int t),some (.tup [.str nm,.int s]),some (.int k),none] Z=some (.ok (.bool (decide (s=5))),Z):=
  dQ (x:=.int s) (y:=.int 5) (bF (x:=.tup [.str nm,.int s]) (y:=.int 1) rfl rfl rfl) rfl rfl
 have tr:∀{b:bq}{r:Out (Fl×Loc)}{v:PV}{J:Loc},ak (ar ah aa (n+1)) aa b [some (.inst 0 c.jx),some (.inst 0 c.jb),some (.int t),some (.tup [.str nm,.int s]),some (.int k),none] Z=r->
   (au (i3 r (.bool false) [some (.inst 0 c.jx),some (.inst 0 c.jb),some (.int t),some (.tup [.str nm,.int s]),some (.int k),none]) λf Z=>match f.1 with | .next=>ak (ar ah aa (n+1)) aa (.cons (.ret (.k (.bool true))) .nil) f.2 Z | _=>give f Z)=some (.ok (.ret v,J),Z)->
   ak (ar ah aa (n+1)) aa (.cons (.kX b (.bool false)) (.cons (.ret (.k (.bool true))) .nil)) [some (.inst 0 c.jx),some (.inst 0 c.jb),some (.int t),some (.tup [.str nm,.int s]),some (.int k),none] Z=some (.ok (.ret v,J),Z):=λ{b}{O}{O}{O} h1 h2=>by
  show au (i3 (ak (ar ah aa (n+1)) aa b _ Z) (.bool false) _) (λf Z=>match f.1 with | .next=>ak (ar ah aa (n+1)) aa (.cons (.ret (.k (.bool true))) .nil) f.2 Z | _=>give f Z)=_
  rw[h1];exact h2
 rw[jf]
 by_cases h4:s=4
 ·rw[if_pos h4]
  rw[decide_eq_true h4] at c4
  cases hs:c6 c.B.txt k with
  |none=>rw[hs] at ex;exact bA rfl rfl (tr (gY c4 (congrArg (λm=>au m _) (vS (sQ ex)))) rfl)
  |some u=>rw[hs] at ex;exact bA rfl rfl (tr (gY c4 (congrArg (λm=>au m _) (iL (jV ex)))) rfl)
 ·rw[if_neg h4]
  rw[decide_eq_false h4] at c4
  by_cases h5:s=5
  ·rw[if_pos h5]
   rw[decide_eq_true h5] at c5
   cases hs:c6 c.B.gh k with
   |none=>
    rw[hs] at eb
    exact bA rfl rfl (tr (gY c4 (congrArg (λm=>au m _) (gY c5 (congrArg (λm=>au m _) (vS (sQ (sQ eb))))))) rfl)
   |some u=>
    rw[hs] at eb
    have hf:fits u=true:=decide_eq_true (Nat.le_trans (fi.gh u (zK hs)) (by decide))
    have el:ag (ar ah aa (n+1)) aa (.aF .len (.aK (.loc 1) 3 (.cons (.loc 4) .nil))) [some (.inst 0 c.jx),some (.inst 0 c.jb),some (.int t),some (.tup [.str nm,.int s]),some (.int k),none] Z=some (.ok (.int u.length),Z):=aC eb (congrArg (λq=>FR.lift (az q (some (PV.int u.length,Z)))) hf)
    have eo:ag (ar ah aa (n+1)) aa (.or (.cons (.cmp .gt (.loc 5) (.k (.int 0))) (.cons (.cmp .fk (.loc 2) (.gl 6)) (.cons (.cmp .fk (.idx (.loc 3) (.k (.int 0))) (.gl 5)) .nil)))) [some (.inst 0 c.jx),some (.inst 0 c.jb),some (.int t),some (.tup [.str nm,.int s]),some (.int k),some (.int u.length)] Z=some (.ok (.bool (decide ((u.length:Int)>0)||(!gU t Bv|| !th nm Bw))),Z):=
     xI (dQ (x:=.int u.length) (y:=.int 0) rfl rfl rfl) (xI (dQ (x:=.int t) (y:=.tup (Bv.map .int)) rfl rfl (uo (ug t Bv))) (DS (dQ (x:=.str nm) (y:=.tup (Bw.map .str)) (bF (x:=.tup [.str nm,.int s]) (y:=.int 0) rfl rfl rfl) rfl (uo (DT nm Bw)))))
    exact bA rfl rfl (tr (gY c4 (congrArg (λm=>au m _) (gY c5 (congrArg (λm=>au m _) (sg el (y_ret eo)))))) rfl)
  ·rw[if_neg h5]
   rw[decide_eq_false h5] at c5
   exact bA rfl rfl (tr (gY c4 (congrArg (λm=>au m _) (gY c5 rfl))) rfl)
omit h in
theorem ur{cf:Nat->List PV->ae->Out PV}{J:Loc}{i:Nat}:∀(m l:List Row)(k n:Nat)(Z:ae),aj Z i=some (.list (l.map pr))->(∀r∈l,0<r.length/\r.length<=65536)->l=l.take k++m->k+m.length=l.length->m.length<n->l.length<=65536->
  bW (λx Z=>aX (cV cf aa .no [some x] Z) λc Z=>pick (ic Z c) (aX (ag cf aa (.idx (.loc 0) (.k (.int 0))) [some x] Z) λy Z=>give (some y) Z) (give .none Z)) (.live i) false n k Z=some (.ok (m.map λr=>.int (cl r 0)),Z)
 |_,_,_,0,_,_,_,_,_,hn,_=>absurd hn (Nat.not_lt_zero _)
 |[],l,k,n+1,Z,g,_,_,hk,_,_=>by
  have hk:k=l.length:=hk
  exact i9 ((fY g).trans (by rw[nth_get?,List.getElem?_map,List.getElem?_eq_none (Nat.le_of_eq hk.symm)];rfl))
 |x::m,l,k,n+1,Z,g,hr,hl,hk,hn,hf=>by
  have uj:k<l.length:=by rw[<-hk,List.length_cons];omega
  have hx:l[k]? =some x:=by
   rw[hl,List.getElem?_append_right (by rw[List.length_take];omega),List.length_take,Nat.min_eq_left (Nat.le_of_lt uj),Nat.sub_self];rfl
  have hw:=hr x (List.mem_of_getElem? hx)
  have ih:=ur (cf:=cf) (J:=J) m l (k+1) n Z g hr (by
    have h:=List.take_append_drop (k+1) l
    rw[List.take_add_one,hx] at h
    have h2:=hl.symm.trans h.symm
    rw[List.append_assoc] at h2
    have h3:=(List.cons.inj (List.append_cancel_left h2)).2
    rw[h3]
    exact(List.take_append_drop (k+1) l).symm) (by rw[<-hk,List.length_cons];omega) (Nat.lt_of_succ_lt_succ hn) hf
  have e:ag cf aa (.idx (.loc 0) (.k (.int 0))) [some (pr x)] Z=some (.ok (.int (cl x 0)),Z):=bF (x:=pr x) (y:=.int 0) rfl rfl (iw ⟨Int.le_refl 0,by omega,hw.2⟩)
  exact nF (x:=pr x) ((fY g).trans (by rw[nth_get?,List.getElem?_map,hx];rfl)) (Nat.le_trans (Nat.le_of_lt uj) hf) (by
   show aX (ag cf aa (.idx (.loc 0) (.k (.int 0))) [some (pr x)] Z) (λy Z=>give (some y) Z)=_
   rw[e];rfl) ih
noncomputable def Hx(B:Tb):Oe:=(25,pU (Hv (aE (some (.v (.int (kR B)),[])))))
theorem FQ(so:Sound c.B)(n:Nat):∀xs,Sd ((Hx c.B).2 xs) (dc c (ar ah aa (n+3)) 25 xs):=iB (xy (dR (Sd.give (by
 let X:=iH c h.ok (n+2) [pe c.B,iR c.B,FH c.B,um c.B] ⟨qP h so.toShape (n+1),jP h so.toiu (n+1),zM h so.toShape n,xB h so.toiu n,trivial⟩
 refine fS (X:=X) rfl rfl rfl rfl λn0 T=> ?_
 rw[kR]
 refine eD (x:=.v (.bool (decide (cnt c.B 32=0)|| !decide (nm c.B (cl (bk c.B 32 1) 7)=qJ)))) (ps:=[decide (cnt c.B 32=0)=false->(1<=(1:Int)/\(1:Int)<=cnt c.B 32)/\∃s,c6 c.B.txt (cl (bk c.B 32 1) 7)=some s]) (t:=decide (cnt c.B 32=0)|| !decide (nm c.B (cl (bk c.B 32 1) 7)=qJ)) rfl (λe=> ?_) rfl (λe=> ?_) λe=> ?_
 ·have e:=of_decide_eq_false e
  have hc:=lS so.toiu 32
  have h1:(1:Int)<=cnt c.B 32:=by omega
  exact⟨⟨Int.le_refl 1,h1⟩,so.tx 32 _ (gZ (Int.le_refl 1) h1) 7 rfl⟩
 ·rw[e];exact Rt.ne (dO (x:=.v (.int 0)) (ps:=[]) rfl trivial rfl)
 ·rw[e]
  refine sk (x:=.il (inner c.B)) rfl (λJ T Z l w=> ?_) ?_
  ·obtain ⟨v,ai,e1,w1,k1,i,rfl,ni,g,_⟩:=bR (X.hw) (X.ho) (.ax 5 (.cons (.loc 0) (.cons (.gl 23) .nil))) (.rl 2 (c.B.R 41)) [] rfl trivial J T Z l w
   have Hy:∀r∈c.B.R 41,0<r.length/\r.length<=65536:=λr hr=>by rw[so.m8 41 r hr];exact⟨by decide,by decide⟩
   have hl:=Nat.le_trans (so.len 41) (show 60000<=65536 by decide)
   have ec:=ur (cf:=X.cf) (J:=J) (c.B.R 41) (c.B.R 41) 0 ((c.B.R 41).length+1) ai g Hy rfl (Nat.zero_add _) (Nat.lt_succ_self _) hl
   refine⟨.ref ai.length,ai++[.list ((c.B.R 41).map λr=>.int (cl r 0))],?_,w1.new _,k1.trans (KE.new _ _ _),ai.length,rfl,Nat.ne_of_gt w1.lt,by rw[bz,inner,List.map_map];rfl⟩
   refine lD (i8 e1 (fR g)) ?_
   rw[eZ g,List.length_map]
   exact ec
  ·refine xD (x:=.v (.int 0)) (ps:=[]) (bx:=λk r=>[.ts,.tx,.il (inner c.B),.v (.int k),.r 6 r]) (He c.B) (bY (x:=.rl 6 (c.B.R 2)) (ps:=[]) rfl trivial rfl) (λk r hr=>jO (x:=.r 6 r) rfl λZ=>⟨rfl,so.m8 2 r (List.mem_of_getElem? hr),by decide⟩) (λk r hr=>⟨_,(k:Int)+1,rfl,?_⟩) rfl trivial rfl
   have hr:=List.mem_of_getElem? hr
   exact xC (x:=.v (.bool ((decide (nm c.B (cl r 2)=[])&&(decide (nm c.B (cl r 1)=xh)&&true))&& !gU (k+1) (inner c.B)))) (y:=.v (.int (k+1))) (ps:=[∃s,c6 c.B.txt (cl r 2)=some s,∃s,c6 c.B.txt (cl r 1)=some s]) (qs:=[]) rfl ⟨so.tx 2 r hr 2 rfl,so.tx 2 r hr 1 rfl⟩ rfl rfl trivial rfl rfl))))
end
noncomputable def DV:Oe:=(1,aI λa=>aI λb=>aI λk=>aE (some (.v (.int (iv k)),[(a=3/\b=20)/\1<=k/\k<=60000])))
noncomputable def qp:PV->List Nat
 |.tup (.str s::_)=>s
 |_=>[]
noncomputable def My:PV->Int
 |.tup (_::.int i::_)=>i
 |_=>0
noncomputable def DW(B:Tb):Oe:=(9,Hv (Mu (aI λt=>aV λv=>aI λk=>aE (some (.v (.bool (jf B t (qp v) (My v) k)),[v=ec (qp v,My v)])))))
noncomputable def oE(B:Tb):List Oe:=[pe B,iR B,FH B,um B,xA B,Ph,Hw,DO B,jj B,FI B,DP B,eList,eName B,DV,DW B]
section
variable{c:Wc}(h:WW c)
theorem DX(n:Nat):∀xs,Sd (DV.2 xs) (dc c (ar ah aa (n+2)) 1 xs):=bS λa=>bS λb=>bS λk=>dR (Sd.of λhk=>by
 obtain ⟨⟨rfl,rfl⟩,hk⟩:=hk
 exact Jj n hk)
include h
theorem DY(fi:iu c.B)(n:Nat):∀xs,Sd ((DW c.B).2 xs) (dc c (ar ah aa (n+2)) 9 xs):=xy (DN (bS λt=>BJ λv=>bS λk=>dR (Sd.of λhv vs T Z DI w=>by
 match vs,DI with
 |[_,_,_,_,_],DI=>
  obtain ⟨rfl,rfl,rfl,e,rfl,_⟩:=DI
  rw[e.trans hv]
  exact⟨_,Z,Jk h fi w n t _ _ k,w,.refl _ _,rfl⟩)))
theorem Hz(sh:Shape c.B)(n:Nat):zL c (ar ah aa (n+5)) (oE c.B):=
 ⟨qP h sh (n+4),jP h sh.toiu (n+4),zM h sh (n+3),xB h sh.toiu (n+3),DQ h sh.toiu (n+3),Mv h (n+4),FJ h (n+4),DR (n+4),ot h sh (n+2),zN h sh (n+1),DU h sh n,FN h (n+4),FL h sh.toiu (n+2),DX (n+3),DY h sh.toiu (n+3),trivial⟩
end
noncomputable def XX{c:Wc}(h:WW c)(sh:Shape c.B)(n:Nat):Xc:=iH c h.ok (n+5) (oE c.B) (Hz h sh n)
section
variable{X:Xc}{n0:Nat}{aq aO:List XV}{T:List PV}{R:Fl->Loc->ae->Prop}
theorem XS.sw{X jo:Xc}{n0:Nat}{aq aO:List XV}{T U:List PV}{ss:bq}(hc:jo.toWc=X.toWc)(hf:jo.cf=X.cf)(k:XS jo n0 ss aq T (Nx jo n0 aO U)):XS X n0 ss aq T (Nx X n0 aO U):=by
 unfold XS Nx at k⊢
 rw[hc,hf] at k
 exact k
theorem pf{f:Nat}{es:bO}{r:bq}{xs:List XV}{ps:List Prop}{M:List PV}(e:zA X.o X.B aq es=some (xs,ps))(a:All ps)(ht:Tells X.toWc X.cf f xs M)(hb:big (T++M))(k:XS X n0 r aq (T++M) R):XS X n0 (.cons (.expr (.ax f es)) r) aq T R:=
 oi (λJ Z O l w=>by
  obtain ⟨vs,ai,e1,w1,k1,p1⟩:=n9 X.hw X.ho es _ _ e a J T Z l w
  obtain ⟨aU,e2,w2,k2⟩:=ht vs T ai p1 w1 hb
  exact⟨.next,J,aU,aC (aC e1 e2) rfl,(k1.trans k2).ks,.inl ⟨rfl,(l.mono k1).mono k2,w2⟩⟩) k
theorem zP(m:og aq aO=aO):XS X n0 (.cons .cont .nil) aq T λf J Z=>f≠ .next/\Nx X n0 aO T f J Z:=λJ Z O l w=>⟨.cont,J,Z,rfl,.refl _ _ _,Fl.noConfusion,rfl,l.weak m,w⟩
end
theorem eL{X:Xc}{n0:Nat}{A:Type}{body:bq}{t:iY}{en:Bool}{gF:A->PV}{l:List A}{it:MI}{aq aO:List XV}{T:List PV}{bx:Nat->A->List XV}(p:Nat->A->List PV)(mM:jw X n0 aq it en (l.map gF))(je:∀k x,l[k]? =some x->Bd X n0 t en k (gF x) aq (bx k x))(m:og aq aO=aO)(hT:big (T++tell p 0 l))
  (hb:∀k x T,l[k]? =some x->big (T++p k x)->XS X n0 body (bx k x) T (Nx X n0 aq (T++p k x))):XS X n0 (.cons (.ba t it body) .nil) aq T (Nx X n0 aO (T++tell p 0 l)):=cy p mM je hT hb (ji m)
theorem Mz{X:Xc}{n0:Nat}{aq aO:List XV}{T U:List PV}{e:ME}{a:bq}{x:XV}{t:Bool}{ps:List Prop}(h:xE X.o X.B aq e=some (x,ps))(al:All ps)(ht:xt x=some t)(m:og aq aO=aO)(hT:big (T++if t=true then U else []))(h1:t=true->big (T++U)->XS X n0 a aq T (Nx X n0 aO (T++U))):
  XS X n0 (.cons (.aP e a .nil) .nil) aq T (Nx X n0 aO (T++if t=true then U else [])):=by
 cases t with
 |true=>exact vj h al ht (λe=>h1 e hT) Bool.noConfusion
 |false=>exact vj h al ht Bool.noConfusion λO=>(List.append_nil T).symm▸ji m
section
variable{c:Wc}(h:WW c)(sh:Shape c.B)(n:Nat)
noncomputable abbrev fh(c:Wc)(n f:Nat)(xs:List XV)(M:List PV):Prop:=Tells c (ar ah aa (n+6)) f xs M
theorem qS{X:Xc}{n0:Nat}{aq:List XV}{i:Nat}{t:Int}(ht:t∈aB)(e:bD aq i=.v (.int t)):jw X n0 aq (.enum (.idx (.gl 2) (.loc i))) true ((cols t).map ec):=
 uk (x:=.v (.tup ((cols t).map ec))) (λO O O l w=>⟨_,_,bF rfl (d6 (l.at i e)) (r3 (I4 ht)),w,.refl _ _,rfl⟩) rfl
theorem pg{X:Xc}{n0 i j k:Nat}{aq:List XV}{r:Row}:Bd X n0 (.many [i,j]) true k (pr r) aq (dz (dz aq i (.v (.int k))) j (.rs r)):=jO (x:=.rs r) rfl λO=>rfl
include sh in
theorem ov{t:Int}{j:Nat}{e:List Nat×Int}(hj:(cols t)[j]? =some e){r:Row}{k:Nat}(hr:(c.B.R t)[k]? =some r):0<=(j:Int)/\(j:Int)<r.length/\r.length<=65536:=by
 have h1:=(List.getElem?_eq_some_iff.mp hj).1
 rw[sh.m8 t r (List.mem_of_getElem? hr)]
 exact⟨Int.natCast_nonneg _,Int.ofNat_lt.mpr h1,Nat.le_trans (fP t) (by decide)⟩
include sh in
theorem ow{k:Nat}{t:Int}(ht:c.B.keys[k]? =some t):t∈aB:=sh.keys t (List.mem_of_getElem? ht)
include h sh
theorem MA:fh c n 12 [.ts,.told] (tags c.B):=by
 have Pl:=λv=>show zL c (ar ah aa (n+5)) [pe c.B,mP v] from ⟨qP h sh (n+4),xH v (n+3),trivial⟩
 refine bM (X:=XX h sh n) rfl rfl rfl rfl λn0 T hT=> ?_
 refine cy (λO t=>Bx c.B t) (bx:=λO t=>[.ts,.told,.v (.int t),.any,.any,.any,.any]) (d4 (x:=.il c.B.keys) (ps:=[]) rfl trivial rfl) (λO t O=>dP (x:=.v (.int t)) rfl λO=>rfl) hT (λO t T ht hT=> ?_) cN
 refine eL (λj e=>if decide (e.2>=512) then Ha c.B t j (e.2-512) else []) (qS (ow sh ht) rfl) (bx:=λj e=>[.ts,.told,.v (.int t),.v (.int j),.v (ec e),.any,.any]) (λj e O=>jO (x:=.v (ec e)) rfl λO=>rfl) rfl hT λj e T he hT=> ?_
 refine Mz (x:=.v (.bool (decide (e.2>=512)))) (ps:=[]) rfl trivial rfl rfl hT λh5 hT=> ?_
 have h5:=of_decide_eq_true h5
 have hc:o6 e=true:=zy (ow sh ht) e (List.mem_of_getElem? he)
 have hs:512<=e.2/\e.2<=518:=by simp only [o6,Bool.or_eq_true,Bool.and_eq_true,decide_eq_true_eq] at hc;omega
 refine eL _ (bY (x:=.rl (cols t).length (c.B.R t)) (ps:=[]) rfl trivial rfl) (bx:=λk r=>[.ts,.told,.v (.int t),.v (.int j),.v (ec e),.v (.int k),.rs r]) (λk r O=>pg) rfl hT λk r T hr hT=> ?_
 have hi:=ov sh he hr
 cases hp:cX (e.2-512) (cl r j) with
 |none=>exact XS.sw (jo:=iH c h.ok (n+5) [pe c.B,mP .none] (Pl _)) rfl rfl (bC (cA:=[.ts,.told,.v (.int t),.v (.int j),.v (ec e),.v (.int k),.rs r]) (g:=[[msg t (k+1) rU]]) (ps:=[0<=(j:Int)/\(j:Int)<r.length/\r.length<=65536,(512<=e.2/\e.2<=518)/\iC e.2 (cl r j)=.none]) rfl ⟨hi,hs,sj hp⟩ rfl rfl (hp▸hT))
 |some p=>exact XS.sw (jo:=iH c h.ok (n+5) [pe c.B,mP (.tup [.int p.1,.int p.2])] (Pl _)) rfl rfl (bC (cA:=[.ts,.told,.v (.int t),.v (.int j),.v (ec e),.v (.int k),.rs r]) (g:=[[]]) (ps:=[0<=(j:Int)/\(j:Int)<r.length/\r.length<=65536,(512<=e.2/\e.2<=518)/\iC e.2 (cl r j)=.tup [.int p.1,.int p.2]]) rfl ⟨hi,hs,si hp⟩ rfl rfl (hp▸hT))
end
section
variable{c:Wc}(h:WW c)(sh:Shape c.B)(n:Nat)
include sh in
theorem eX{X:Xc}{n0 i j k w:Nat}{aq:List XV}{r:Row}{t:Int}(hr:(c.B.R t)[k]? =some r)(hw:(cols t).length=w):Bd X n0 (.many [i,j]) true k (pr r) aq (dz (dz aq i (.v (.int k))) j (.r w r)):=
 jO (x:=.r w r) rfl λO=>⟨rfl,(sh.m8 t r (List.mem_of_getElem? hr)).trans hw,hw▸Nat.le_trans (fP t) (by decide)⟩
include h sh
theorem DZ:fh c n 15 [.ts,.told] (parents c.B):=by
 refine bM (X:=XX h sh n) rfl rfl rfl rfl λn0 T hT=> ?_
 refine cy (λO t=>Fw c.B t) (bx:=λO t=>[.ts,.told,.v (.int t),.any,.any,.any,.any,.any]) (d4 (x:=.il c.B.keys) (ps:=[]) rfl trivial rfl) (λO t O=>dP (x:=.v (.int t)) rfl λO=>rfl) hT (λO t T ht hT=> ?_) cN
 refine eL (λj e=>if decide (e.2<256)||gT t j then [] else LW c.B t j e.2 (k8 t e.1)) (qS (ow sh ht) rfl) (bx:=λj e=>[.ts,.told,.v (.int t),.v (.int j),.v (ec e),.any,.any,.any]) (λj e O=>jO (x:=.v (ec e)) rfl λO=>rfl) rfl hT λj e T he hT=> ?_
 refine eD (x:=.v (.bool (decide (e.2<256)||gT t j))) (ps:=[]) (t:=decide (e.2<256)||gT t j) rfl trivial rfl (λq=> ?_) λq=> ?_
 ·rw[if_pos q,List.append_nil];exact zP rfl
 ·have q:¬(decide (e.2<256)||gT t j)=true:=by rw[q];exact Bool.noConfusion
  rw[if_neg q] at hT⊢
  have hc:o6 e=true:=zy (ow sh ht) e (List.mem_of_getElem? he)
  have hs:e.2<=518:=by simp only [o6,Bool.or_eq_true,Bool.and_eq_true,decide_eq_true_eq] at hc;omega
  refine bc (aO:=[.ts,.told,.v (.int t),.v (.int j),.v (ec e),.v (.bool (k8 t e.1)),.any,.any]) (ps:=[]) rfl trivial ?_
  exact eL _ (bY (x:=.rl (cols t).length (c.B.R t)) (ps:=[]) rfl trivial rfl) (bx:=λk r=>[.ts,.told,.v (.int t),.v (.int j),.v (ec e),.v (.bool (k8 t e.1)),.v (.int k),.rs r]) (λk r O=>pg) rfl hT λk r T hr hT=>
   bC (cA:=[.ts,.told,.v (.int t),.v (.int j),.v (ec e),.v (.bool (k8 t e.1)),.v (.int k),.rs r]) (g:=[if !da c.B e.2 (cl r j) (k8 t e.1) then [msg t (k+1) gV] else []]) (ps:=[0<=(j:Int)/\(j:Int)<r.length/\r.length<=65536,e.2<=518]) rfl ⟨ov sh he hr,hs⟩ rfl rfl hT
theorem Jl:fh c n 8 [.ts,.tx,.bl,.told] (Bz c.B):=by
 refine bM (X:=XX h sh n) rfl rfl rfl rfl λn0 T hT=> ?_
 refine cy (λO t=>By c.B t) (bx:=λO t=>[.ts,.tx,.bl,.told,.v (.int t),.any,.any,.any,.any]) (d4 (x:=.il c.B.keys) (ps:=[]) rfl trivial rfl) (λO t O=>dP (x:=.v (.int t)) rfl λO=>rfl) hT (λO t T ht hT=> ?_) cN
 refine eL (λj e=>Hb c.B t j e) (qS (ow sh ht) rfl) (bx:=λj e=>[.ts,.tx,.bl,.told,.v (.int t),.v (.int j),.v (ec e),.any,.any]) (λj e O=>jO (x:=.v (ec e)) rfl λO=>rfl) rfl hT λj e T he hT=> ?_
 exact eL _ (bY (x:=.rl (cols t).length (c.B.R t)) (ps:=[]) rfl trivial rfl) (bx:=λk r=>[.ts,.tx,.bl,.told,.v (.int t),.v (.int j),.v (ec e),.v (.int k),.rs r]) (λk r O=>pg) rfl hT λk r T hr hT=>
   bC (cA:=[.ts,.tx,.bl,.told,.v (.int t),.v (.int j),.v (ec e),.v (.int k),.rs r]) (g:=[if !jf c.B t e.1 e.2 (cl r j) then [msg t (k+1) lK] else []]) (ps:=[0<=(j:Int)/\(j:Int)<r.length/\r.length<=65536,ec e=ec e]) rfl ⟨ov sh he hr,rfl⟩ rfl rfl hT
noncomputable def e3(r:Row):PV:=.tup [.int (cl r 0),.int (cl r 1),.int (cl r 2)]
theorem Jm:fh c n 17 [.ts,.told] (xd c.B):=by
 refine bM (X:=XX h sh n) rfl rfl rfl rfl λn0 T hT=> ?_
 refine cy (λO r=>listOf c.B (cl r 0) (cl r 1).toNat (cl r 2)) (bx:=λO r=>[.ts,.told,.v (.int (cl r 0)),.v (.int (cl r 1)),.v (.int (cl r 2)),.any,.any,.any,.any,.any]) (l:=lists) (gF:=e3) (d4 (x:=.v (.tup (lists.map e3))) (ps:=[]) rfl trivial rfl) (λO r O=>zF rfl) hT (λO r T hr hT=> ?_) cN
 have hP:∀r∈lists,0<=cl r 1/\cl r 1<(cols (cl r 0)).length:=by decide
 have hP:=hP r (List.mem_of_getElem? hr)
 generalize cl r 0=t at*
 generalize cl r 1=P at*
 generalize cl r 2=o at*
 refine bc (aO:=[.ts,.told,.v (.int t),.v (.int P),.v (.int o),.rl (cols t).length (c.B.R t),.any,.any,.any,.any]) (ps:=[]) rfl trivial ?_
 rw[listOf] at hT⊢
 rw[<-List.append_assoc]
 refine pd (aO:=[.ts,.told,.v (.int t),.v (.int P),.v (.int o),.rl (cols t).length (c.B.R t),.any,.any,.any,.any]) (g:=[if decide (cnt c.B t=0)&&decide (cnt c.B o>0) then [msg o 1 gE] else []]) (ps:=[fits (c.B.R t)=true]) rfl (decide_eq_true (Nat.le_trans (sh.len t) (by decide))) (λO=>cv hT) ?_
 show XS _ n0 _ _ (T++if decide (cnt c.B t=0)&&decide (cnt c.B o>0) then [msg o 1 gE] else []) _
 have hT:=cw hT
 generalize T++(if decide (cnt c.B t=0)&&decide (cnt c.B o>0) then [msg o 1 gE] else [])=T at hT⊢
 refine bc (aO:=[.ts,.told,.v (.int t),.v (.int P),.v (.int o),.rl (cols t).length (c.B.R t),.v (.int 1),.any,.any,.any]) (ps:=[]) rfl trivial ?_
 refine eE (λlast=>[.ts,.told,.v (.int t),.v (.int P),.v (.int o),.rl (cols t).length (c.B.R t),.v (.int last),.any,.any,.any]) (λO O=>True) (o7 c.B t P.toNat o) 1 (bY (x:=.rl (cols t).length (c.B.R t)) (ps:=[]) rfl trivial rfl)
  (bx:=λlast k r=>[.ts,.told,.v (.int t),.v (.int P),.v (.int o),.rl (cols t).length (c.B.R t),.v (.int last),.v (.int k),.rs r,.any]) (λO k r O=>pg) trivial hT (λlast k r T hr O hT=>⟨trivial,?_⟩) λO=>ji rfl
 have hw:0<=P/\P<r.length/\r.length<=65536:=by rw[sh.m8 t r (List.mem_of_getElem? hr)];exact⟨hP.1,hP.2,Nat.le_trans (fP t) (by decide)⟩
 refine bc (aO:=[.ts,.told,.v (.int t),.v (.int P),.v (.int o),.rl (cols t).length (c.B.R t),.v (.int last),.v (.int k),.rs r,.v (.int (cl r P.toNat))]) (ps:=[0<=P/\P<r.length/\r.length<=65536]) rfl hw ?_
 refine vj (x:=.v (.bool (BA c.B P.toNat o last k r))) (ps:=[]) rfl trivial rfl (λq=> ?_) λq=> ?_
 ·have e:o7 c.B t P.toNat o last k r=(last,[msg t (k+1) gE]):=if_pos q
  rw[e] at hT⊢
  exact bC (cA:=[.ts,.told,.v (.int t),.v (.int P),.v (.int o),.rl (cols t).length (c.B.R t),.v (.int last),.v (.int k),.rs r,.v (.int (cl r P.toNat))]) (g:=[[msg t (k+1) gE]]) (ps:=[]) rfl trivial rfl rfl hT
 ·have e:o7 c.B t P.toNat o last k r=(cl r P.toNat,[]):=if_neg (by rw[q];exact Bool.noConfusion)
  rw[e] at hT⊢
  exact bC (cA:=[.ts,.told,.v (.int t),.v (.int P),.v (.int o),.rl (cols t).length (c.B.R t),.v (.int (cl r P.toNat)),.v (.int k),.rs r,.v (.int (cl r P.toNat))]) (g:=[]) (ps:=[]) rfl trivial rfl rfl hT
omit h in
theorem gG{t:Int}{k:Nat}{r:Row}(hr:(c.B.R t)[k]? =some r):k<=60000:=Nat.le_trans (Nat.le_of_lt (List.getElem?_eq_some_iff.mp hr).1) (sh.len t)
omit h sh in
theorem oy{m:IM}{k:Nat}(h:m.length<=k)(hk:k<=60000):fits (ce m)=true:=map_fits (l:=m) (Nat.le_trans h (Nat.le_trans hk (by decide)))
omit h sh in
theorem ko{es:Es}{k:Nat}(h:es.length<=k)(hk:k<=60000):fits es=true:=decide_eq_true (Nat.le_trans h (Nat.le_trans hk (by decide)))
theorem MB:fh c n 11 [.ts,.told] (BD c.B):=by
 refine bM (X:=XX h sh n) rfl rfl rfl rfl λn0 T hT=> ?_
 refine cy (λO t=>ve c.B t) (bx:=λO t=>[.ts,.told,.v (.int t),.any,.any,.any]) (l:=[18,21]) (gF:=PV.int) (d4 (x:=.v (.tup [.int 18,.int 21])) (ps:=[]) rfl trivial rfl) (λO t O=>dP (x:=.v (.int t)) rfl λO=>rfl) hT (λO t T ht hT=> ?_) cN
 have hw:∀t∈[(18:Int),21],0<(cols t).length:=by decide
 have hw:=hw t (List.mem_of_getElem? ht)
 refine bc (aO:=[.ts,.told,.v (.int t),.m [],.any,.any]) (ps:=[]) rfl trivial ?_
 refine eE (λm=>[.ts,.told,.v (.int t),.m m,.any,.any]) (λk (m:IM)=>m.length<=k) (Hd t) [] (bY (x:=.rl (cols t).length (c.B.R t)) (ps:=[]) rfl trivial rfl) (bx:=λm k r=>[.ts,.told,.v (.int t),.m m,.v (.int k),.rs r]) (λO k r O=>pg) (Nat.le_refl _) hT
  (λm k r T hr hm hT=>⟨Nat.le_trans (mI _ _ _) (Nat.succ_le_succ hm),?_⟩) λO=>ji rfl
 have hi:0<=(0:Int)/\(0:Int)<r.length/\r.length<=65536:=by rw[sh.m8 t r (List.mem_of_getElem? hr)];exact⟨Int.le_refl 0,Int.ofNat_lt.mpr hw,Nat.le_trans (fP t) (by decide)⟩
 exact bC (cA:=[.ts,.told,.v (.int t),.m (gw m (cl r 0) 1),.v (.int k),.rs r]) (g:=[if (cc m (cl r 0)).isSome then [msg t (k+1) BB] else []]) (ps:=[0<=(0:Int)/\(0:Int)<r.length/\r.length<=65536,0<=(0:Int)/\(0:Int)<r.length/\r.length<=65536,fits (ce m)=true]) rfl ⟨hi,hi,oy hm (gG sh hr)⟩ rfl rfl hT
theorem FT:fh c n 28 [.ts,.told] (lO (c.B.R 6)):=by
 refine bM (X:=XX h sh n) rfl rfl rfl rfl λn0 T hT=> ?_
 exact cy (λk r=>if tn r then [msg 6 (k+1) rV] else []) (bY (x:=.rl 6 (c.B.R 6)) (ps:=[]) rfl trivial rfl) (bx:=λk r=>[.ts,.told,.v (.int k),.r 6 r,.any]) (λk r hr=>eX sh hr rfl) hT (λk r T hr hT=>
  bC (cA:=[.ts,.told,.v (.int k),.r 6 r,.v (.bool (!decide (Builtin.bitAnd (cl r 2) 1024=0)||decide (cl r 1>4096)))]) (g:=[if tn r then [msg 6 (k+1) rV] else []]) (ps:=[]) rfl trivial rfl rfl hT) cN
end
section
variable{c:Wc}(h:WW c)(so:Sound c.B)(n:Nat)
include h so
theorem Jn:fh c n 20 [.ts,.tx,.told] (names c.B):=by
 have sh:=so.toShape
 refine bM (X:=XX h sh n) rfl rfl rfl rfl λn0 T hT=> ?_
 refine cy (λO x=>BC c.B x.1 x.2.2) (bx:=λO x=>[.ts,.tx,.told,.v (.int x.1),.v (.str x.2.1),.any,.any,.any]) (l:=named) (gF:=en) (d4 (x:=.v (.tup (named.map en))) (ps:=[]) rfl trivial rfl) (λO x O=>zF rfl) hT (λO x T hx hT=> ?_) cN
 have hx:=List.mem_of_getElem? hx
 have h4:∀x∈named,((cols x.1)[x.2.2]?.map Prod.snd)=some 4:=by decide
 have h4:=h4 x hx
 have HA:∀Z,ar ah aa (n+5) 3 [.int x.1,.str x.2.1] Z=some (.ok (.int x.2.2),Z):=by
  intro Z
  simp only [named,List.mem_cons,List.not_mem_nil,or_false] at hx
  rcases hx with hx | hx | hx | hx | hx | hx | hx | hx | hx | hx | hx<;>subst hx<;>rfl
 obtain ⟨t,w,p⟩:=x
 dsimp only at h4 HA hT⊢
 obtain ⟨e,he,_⟩:=Option.map_eq_some_iff.mp h4
 have HA:∀Z,(XX h sh n).cf 3 [.int t,.str w] Z=some (.ok (.int p),Z):=HA
 refine sk (x:=.v (.int p)) rfl (λJ T Z l ws=>⟨_,Z,aC (v:=[.int t,.str w]) (aC (d6 (l.at 3 rfl)) (aC (v:=[.str w]) (aC (d6 (l.at 4 rfl)) rfl) rfl)) (HA Z),ws,.refl _ _,rfl⟩) ?_
 exact eL (λk r=>if decide (nm c.B (cl r p)=[]) then [msg t (k+1) j6] else []) (bY (x:=.rl (cols t).length (c.B.R t)) (ps:=[]) rfl trivial rfl) (bx:=λk r=>[.ts,.tx,.told,.v (.int t),.v (.str w),.v (.int p),.v (.int k),.rs r]) (λk r O=>pg) rfl hT λk r T hr hT=>
  bC (cA:=[.ts,.tx,.told,.v (.int t),.v (.str w),.v (.int p),.v (.int k),.rs r]) (g:=[if decide (nm c.B (cl r p)=[]) then [msg t (k+1) j6] else []]) (ps:=[0<=(p:Int)/\(p:Int)<r.length/\r.length<=65536,∃s,c6 c.B.txt (cl r p)=some s]) rfl ⟨ov sh he hr,so.tx t r (List.mem_of_getElem? hr) p h4⟩ rfl rfl hT
theorem Jo:fh c n 27 [.ts,.tx,.bl,.told] (lL c.B):=by
 have sh:=so.toShape
 refine bM (X:=XX h sh n) rfl rfl rfl rfl λn0 T hT=> ?_
 exact cy _ (bY (x:=.rl 6 (c.B.R 6)) (ps:=[]) rfl trivial rfl) (bx:=λk r=>[.ts,.tx,.bl,.told,.v (.int k),.r 6 r]) (λk r hr=>eX sh hr rfl) hT (λk r T hr hT=>
  bC (cA:=[.ts,.tx,.bl,.told,.v (.int k),.r 6 r]) (g:=[if decide (nm c.B (cl r 3)=[46,99,99,116,111,114]) then (if !nz (Builtin.bitAnd (cl r 2) 16)|| !decide (bb c.B (cl r 4)=[0,0,1]) then [msg 6 (k+1) tj] else []) else []])
   (ps:=[∃s,c6 c.B.txt (cl r 3)=some s,decide (nm c.B (cl r 3)=[46,99,99,116,111,114])=true->(!nz (Builtin.bitAnd (cl r 2) 16))=false->(∃s,c6 c.B.gh (cl r 4)=some s)/\aa 28=jv (n7 (aa 28))]) rfl ⟨so.tx 6 r (List.mem_of_getElem? hr) 3 rfl,λO O=>⟨so.bl 6 r (List.mem_of_getElem? hr) 4 rfl,rfl⟩⟩ rfl rfl hT) cN
omit h in
theorem FU{l:Row}(hl:l∈lists){k:Int}(hk:1<=k/\k<=cnt c.B (cl l 0)):1<=fv c.B (cl l 0) (cl l 1).toNat k/\fv c.B (cl l 0) (cl l 1).toNat k<=cnt c.B (cl l 2)+1:=so.ls l hl _ (gZ hk.1 hk.2)
omit h in
theorem FV{l:Row}(hl:l∈lists){k:Int}(hk:1<=k/\k<=cnt c.B (cl l 0)):1<=gk c.B (cl l 0) (cl l 1).toNat (cl l 2) k/\gk c.B (cl l 0) (cl l 1).toNat (cl l 2) k<=cnt c.B (cl l 2)+1:=by
 rw[gk]
 split
 ·rename_i q;exact so.ls l hl _ (gZ (Int.le_trans hk.1 (Int.le_add_of_nonneg_right (by decide))) q)
 ·have:=lS so.toiu (cl l 2);omega
omit h in
theorem tB{X:Xc}{n0:Nat}{aq:List XV}{a b:ME}{x0 x1 o:Int}(e0:xE X.o X.B aq a=some (.v (.int x0),[]))(e1:xE X.o X.B aq b=some (.v (.int x1),[]))(h0:1<=x0/\x0<=cnt c.B o+1)(h1:1<=x1/\x1<=cnt c.B o+1):jw X n0 aq (.df a b) false ((cG x0 (x1-x0).toNat).map .int):=
 src_range e0 trivial e1 trivial (by have:=lS so.toiu o;omega)
omit h so in
theorem lU{x0 x1 o x:Int}{k:Nat}(h0:1<=x0)(h1:x1<=o+1)(hx:(cG x0 (x1-x0).toNat)[k]? =some x):1<=x/\x<=o:=by
 have:=xF hx;omega
theorem FW:fh c n 30 [.ts,.told] (params c.B):=by
 have sh:=so.toShape
 refine bM (X:=XX h sh n) rfl rfl rfl rfl λn0 T hT=> ?_
 have e:params c.B=tell (λO k=>zz c.B k) 0 (cG 1 (cnt c.B 6+1-1).toNat):=by rw[Int.add_sub_cancel];rfl
 rw[e] at hT⊢
 refine cy _ (lT sh.toiu rfl rfl (by decide)) (bx:=λO k=>[.ts,.told,.v (.int k),.any,.any,.any,.any,.any]) (λO k O=>dP (x:=.v (.int k)) rfl λO=>rfl) hT (λO k T hk hT=> ?_) cN
 have hk:=lU (Int.le_refl 1) (Int.le_refl _) hk
 have hA:=FU so (l:=[6,5,8]) (by decide) hk
 have hB:=FV so (l:=[6,5,8]) (by decide) hk
 refine bc (aO:=[.ts,.told,.v (.int k),.v (.int (fv c.B 6 5 k)),.v (.int (gk c.B 6 5 8 k)),.any,.any,.any]) (ps:=[((0:Int)<=5/\(5:Int)<(cols 6).length)/\1<=k/\k<=cnt c.B 6]) rfl ⟨by decide,hk⟩ ?_
 refine bc (aO:=[.ts,.told,.v (.int k),.v (.int (fv c.B 6 5 k)),.v (.int (gk c.B 6 5 8 k)),.v (.int (-1)),.any,.any]) (ps:=[]) rfl trivial ?_
 refine eE (λlast=>[.ts,.told,.v (.int k),.v (.int (fv c.B 6 5 k)),.v (.int (gk c.B 6 5 8 k)),.v (.int last),.any,.any]) (λO O=>True) (Hc c.B) (-1) (tB so rfl rfl hA hB) (bx:=λlast O x=>[.ts,.told,.v (.int k),.v (.int (fv c.B 6 5 k)),.v (.int (gk c.B 6 5 8 k)),.v (.int last),.v (.int x),.any]) (λO O x O=>dP (x:=.v (.int x)) rfl λO=>rfl) trivial hT (λlast O x T hx O hT=>⟨trivial,?_⟩) λO=>ji rfl
 exact bC (cA:=[.ts,.told,.v (.int k),.v (.int (fv c.B 6 5 k)),.v (.int (gk c.B 6 5 8 k)),.v (.int (cl (bk c.B 8 x) 1)),.v (.int x),.v (.int (cl (bk c.B 8 x) 1))]) (g:=[if decide (cl (bk c.B 8 x) 1<=last) then [msg 8 x tm] else []]) (ps:=[1<=x/\x<=cnt c.B 8]) rfl (lU hA.1 hB.2 hx) rfl rfl hT
theorem FX:fh c n 24 [.ts,.told] (lN c.B):=by
 have sh:=so.toShape
 refine bM (X:=XX h sh n) rfl rfl rfl rfl λn0 T hT=> ?_
 refine cy (xe c.B) (bY (x:=.rl 6 (c.B.R 2)) (ps:=[]) rfl trivial rfl) (bx:=λk r=>[.ts,.told,.v (.int k),.r 6 r,.any,.any,.any]) (λk r hr=>eX sh hr rfl) hT (λk r T hr hT=> ?_) cN
 rw[xe] at hT⊢
 refine eD (x:=.v (.bool !isIf r)) (ps:=[0<6]) (t:= !isIf r) rfl (Nat.succ_pos 5) rfl (λq=> ?_) λq=> ?_
 ·rw[if_neg (by rw[Bool.not_eq_true'] at q;rw[q];exact Bool.noConfusion),List.append_nil];exact zP rfl
 ·rw[Bool.not_eq_false'] at q
  rw[if_pos q] at hT⊢
  have hk:1<=(k:Int)+1/\(k:Int)+1<=cnt c.B 2:=by have:=(List.getElem?_eq_some_iff.mp hr).1;simp only [cnt];omega
  have hA:=FU so (l:=[2,4,4]) (by decide) hk
  have hB:=FV so (l:=[2,4,4]) (by decide) hk
  refine pd (aO:=[.ts,.told,.v (.int k),.r 6 r,.any,.any,.any]) (g:=[if nz ((cl r 3).fdiv 4) then [msg 2 (k+1) lM] else []]) (ps:=[]) rfl trivial (λO=>cv hT) ?_
  rw[<-List.append_assoc]
  refine bc (aO:=[.ts,.told,.v (.int k),.r 6 r,.v (.int (fv c.B 2 4 (k+1))),.v (.int (gk c.B 2 4 4 (k+1))),.any]) (ps:=[((0:Int)<=4/\(4:Int)<(cols 2).length)/\1<=(k:Int)+1/\(k:Int)+1<=cnt c.B 2]) rfl ⟨by decide,hk⟩ ?_
  exact eL _ (tB so rfl rfl hA hB) (bx:=λO x=>[.ts,.told,.v (.int k),.r 6 r,.v (.int (fv c.B 2 4 (k+1))),.v (.int (gk c.B 2 4 4 (k+1))),.v (.int x)]) (λO x O=>dP (x:=.v (.int x)) rfl λO=>rfl) rfl (cw hT) λO x T hx hT=>
   bC (cA:=[.ts,.told,.v (.int k),.r 6 r,.v (.int (fv c.B 2 4 (k+1))),.v (.int (gk c.B 2 4 4 (k+1))),.v (.int x)]) (g:=[if !nz (Builtin.bitAnd (cl (bk c.B 4 x) 0) 16) then [msg 4 x lM] else []]) (ps:=[1<=x/\x<=cnt c.B 4]) rfl (lU hA.1 hB.2 hx) rfl rfl hT
theorem MC:fh c n 26 [.ts,.tx,.told] (bases c.B):=by
 have sh:=so.toShape
 refine bM (X:=iH c h.ok (n+5) (Hx c.B::oE c.B) ⟨FQ h so (n+2),Hz h sh n⟩) rfl rfl rfl rfl λn0 T hT=> ?_
 have e:bases c.B=tell (λO x=>if tu c.B (kR c.B) x then [msg 2 x j8] else []) 0 (cG 2 (cnt c.B 2+1-2).toNat):=by rw[show cnt c.B 2+1-2=cnt c.B 2-1 by omega];rfl
 rw[e] at hT⊢
 refine bc (aO:=[.ts,.tx,.told,.v (.int (kR c.B)),.any,.any]) (ps:=[]) rfl trivial ?_
 exact cy _ (lT sh.toiu rfl rfl (by decide)) (bx:=λO x=>[.ts,.tx,.told,.v (.int (kR c.B)),.v (.int x),.any]) (λO x O=>dP (x:=.v (.int x)) rfl λO=>rfl) hT (λO x T hx hT=>
  bC (cA:=[.ts,.tx,.told,.v (.int (kR c.B)),.v (.int x),.r 6 (bk c.B 2 x)]) (g:=[if tu c.B (kR c.B) x then [msg 2 x j8] else []]) (ps:=[1<=x/\x<=cnt c.B 2,0<6]) rfl ⟨have hx:2<=x/\x<cnt c.B 2+1:=xF hx;⟨by omega,by omega⟩,Nat.succ_pos 5⟩ rfl rfl hT) cN
omit h in
theorem D0{t:Int}{r:Row}(hr:r∈c.B.R t)(j:Nat)(e:List Nat×Int)(hj:(cols t)[j]? =some e)(h5:e.2>=512)(hm:k8 t e.1=false)(hl:gT t j=false):
  1<=(bL c.B (e.2-512) (cl r j)).2/\(bL c.B (e.2-512) (cl r j)).2<=cnt c.B (bL c.B (e.2-512) (cl r j)).1:=by
 have h:=so.nr t r hr j e hj (by rw[hl,Bool.or_false];exact decide_eq_false (by omega))
 obtain ⟨p,hp⟩:=so.tg t r hr j e hj h5
 rw[da,if_neg (by omega),hp,hm] at h
 rw[bL,hp]
 dsimp only at h
 by_cases h0:p.2=0
 ·rw[if_pos h0] at h;cases h
 ·rw[if_neg h0,Bool.and_eq_true] at h
  exact⟨of_decide_eq_true h.1,of_decide_eq_true h.2⟩
theorem y4:fh c n 29 [.ts,.told] (constants c.B):=by
 have sh:=so.toShape
 refine bM (X:=XX h sh n) rfl rfl rfl rfl λn0 T hT=> ?_
 rw[constants] at hT⊢
 refine bc (aO:=[.ts,.told,.d (.tup [.i,.i]) [],.any,.any,.any,.any,.any,.any]) (ps:=[]) rfl trivial ?_
 refine eE (λes=>[.ts,.told,.d (.tup [.i,.i]) es,.any,.any,.any,.any,.any,.any]) (λk (es:Es)=>es.length<=k) (stepK c.B) [] (bY (x:=.rl 3 (c.B.R 11)) (ps:=[]) rfl trivial rfl) (bx:=λes k r=>[.ts,.told,.d (.tup [.i,.i]) es,.v (.int k),.r 3 r,.any,.any,.any,.any]) (λO k r hr=>eX sh hr rfl) (Nat.le_refl _) (cv hT) (λes k r T hr hm hT=>⟨Nat.le_trans (gW _ _ _) (Nat.succ_le_succ hm),?_⟩) λO=> ?_
 ·have pS:=List.mem_of_getElem? hr
  have hg:=D0 so pS 1 _ rfl (by decide) rfl rfl
  exact bC (cA:=[.ts,.told,.d (.tup [.i,.i]) (stepK c.B es k r).1,.v (.int k),.r 3 r,.v (.int (bL c.B 1 (cl r 1)).1),.v (.int (bL c.B 1 (cl r 1)).2),.any,.any]) (g:=[if L3 c.B es (bL c.B 1 (cl r 1)) then [msg 11 (k+1) f7] else []])
   (ps:=[((0:Int)<=1/\(1:Int)<=6)/\∃p,cX 1 (cl r 1)=some p,(aT es (fg (bL c.B 1 (cl r 1)).1 (bL c.B 1 (cl r 1)).2)).isSome=false->(!decide ((bL c.B 1 (cl r 1)).1=4))=false->1<=(bL c.B 1 (cl r 1)).2/\(bL c.B 1 (cl r 1)).2<=cnt c.B 4,fits es=true]) rfl
   ⟨⟨by decide,so.tg 11 r pS 1 _ rfl (by decide)⟩,λO q=>of_decide_eq_true (Bool.not_inj (y:=true) q)▸hg,ko hm (gG sh hr)⟩ rfl rfl hT
 ·rw[<-List.append_assoc]
  exact cy (λk r=>if Fy (bt (stepK c.B) [] 0 (c.B.R 11)).1 k r then [msg 4 (k+1) f7] else []) (bY (x:=.rl 3 (c.B.R 4)) (ps:=[]) rfl trivial rfl) (bx:=λk r=>[.ts,.told,.d (.tup [.i,.i]) (bt (stepK c.B) [] 0 (c.B.R 11)).1,.v (.int k),.r 3 r,.any,.any,.any,.any]) (λk r hr=>eX sh hr rfl) (cw hT) (λk r T hr hT=>
   bC (cA:=[.ts,.told,.d (.tup [.i,.i]) (bt (stepK c.B) [] 0 (c.B.R 11)).1,.v (.int k),.r 3 r,.any,.any,.v (.bool (aT (bt (stepK c.B) [] 0 (c.B.R 11)).1 (fg 4 (k+1))).isSome),.t (nz (Builtin.bitAnd (cl r 0) 64)&& !((aT (bt (stepK c.B) [] 0 (c.B.R 11)).1 (fg 4 (k+1))).isSome&&nz (Builtin.bitAnd (cl r 0) 16)))])
    (g:=[if Fy (bt (stepK c.B) [] 0 (c.B.R 11)).1 k r then [msg 4 (k+1) f7] else []]) (ps:=[]) rfl trivial rfl rfl hT) cN
theorem BK:fh c n 31 [.ts,.tx,.told] (iQ c.B):=by
 have sh:=so.toShape
 refine bM (X:=XX h sh n) rfl rfl rfl rfl λn0 T hT=> ?_
 refine bc (aO:=[.ts,.tx,.told,.m [],.any,.any,.any,.any,.any]) (ps:=[]) rfl trivial ?_
 refine bc (aO:=[.ts,.tx,.told,.m [],.d (.tup [.i,.s]) [],.any,.any,.any,.any]) (ps:=[]) rfl trivial ?_
 refine eE (λs:IM×Es=>[.ts,.tx,.told,.m s.1,.d (.tup [.i,.s]) s.2,.any,.any,.any,.any]) (λk (s:IM×Es)=>s.1.length<=k/\s.2.length<=k) (vf c.B) ([],[]) (bY (x:=.rl 4 (c.B.R 42)) (ps:=[]) rfl trivial rfl) (bx:=λs k r=>[.ts,.tx,.told,.m s.1,.d (.tup [.i,.s]) s.2,.v (.int k),.r 4 r,.any,.any]) (λO k r hr=>eX sh hr rfl) ⟨Nat.le_refl _,Nat.le_refl _⟩ hT
  (λs k r T hr hm hT=>⟨⟨Nat.le_trans (mI _ _ _) (Nat.succ_le_succ hm.1),Nat.le_trans (gW _ _ _) (Nat.succ_le_succ hm.2)⟩,?_⟩) λO=>cN
 exact bC (cA:=[.ts,.tx,.told,.m (vf c.B s k r).1.1,.d (.tup [.i,.s]) (vf c.B s k r).1.2,.v (.int k),.r 4 r,.v (.int ((cc s.1 (cl r 2)).getD 0)),.v (.tup [.int (cl r 2),.str (nm c.B (cl r 3))])]) (g:=[if !decide (cl r 0=(cc s.1 (cl r 2)).getD 0) then [msg 42 (k+1) qI] else [],if (aT s.2 (Fx c.B r)).isSome then [msg 42 (k+1) fc] else []])
  (ps:=[fits (ce s.1)=true,∃s,c6 c.B.txt (cl r 3)=some s,fits s.2=true]) rfl ⟨oy hm.1 (gG sh hr),so.tx 42 r (List.mem_of_getElem? hr) 3 rfl,ko hm.2 (gG sh hr)⟩ rfl rfl hT
theorem Jp:fh c n 35 [.ts,.told] (o9 c.B):=by
 have sh:=so.toShape
 refine bM (X:=XX h sh n) rfl rfl rfl rfl λn0 T hT=> ?_
 refine bc (aO:=[.ts,.told,.d (.tup [.i,.i]) [],.any,.any,.any,.any]) (ps:=[]) rfl trivial ?_
 refine eE (λes=>[.ts,.told,.d (.tup [.i,.i]) es,.any,.any,.any,.any]) (λk (es:Es)=>es.length<=k) (stepI c.B) [] (bY (x:=.rl 3 (c.B.R 25)) (ps:=[]) rfl trivial rfl) (bx:=λes k r=>[.ts,.told,.d (.tup [.i,.i]) es,.v (.int k),.r 3 r,.any,.any]) (λO k r hr=>eX sh hr rfl) (Nat.le_refl _) hT (λes k r T hr hm hT=>⟨Nat.le_trans (gW _ _ _) (Nat.succ_le_succ hm),?_⟩) λO=>cN
 exact bC (cA:=[.ts,.told,.d (.tup [.i,.i]) (stepI c.B es k r).1,.v (.int k),.r 3 r,.v (.int (bL c.B 4 (cl r 1)).1),.v (.int (bL c.B 4 (cl r 1)).2)]) (g:=[(stepI c.B es k r).2])
  (ps:=[((0:Int)<=4/\(4:Int)<=6)/\∃p,cX 4 (cl r 1)=some p,(!decide ((bL c.B 4 (cl r 1)).1=6))=false->(0:Int)<=5/\(5:Int)<(cols 2).length,fits es=true]) rfl ⟨⟨by decide,so.tg 25 r (List.mem_of_getElem? hr) 1 _ rfl (by decide)⟩,λO=>by decide,ko hm (gG sh hr)⟩ rfl rfl hT
theorem y5:fh c n 32 [.ts,.told] (fQ c.B):=by
 have sh:=so.toShape
 refine bM (X:=XX h sh n) rfl rfl rfl rfl λn0 T hT=> ?_
 rw[fQ] at hT⊢
 refine bc (aO:=[.ts,.told,.d (.tup [.i,.i]) [],.any,.any,.any,.any,.any]) (ps:=[]) rfl trivial ?_
 refine eE (λes=>[.ts,.told,.d (.tup [.i,.i]) es,.any,.any,.any,.any,.any]) (λk (es:Es)=>es.length<=k) (eP c.B) [] (bY (x:=.rl 3 (c.B.R 24)) (ps:=[]) rfl trivial rfl) (bx:=λes k r=>[.ts,.told,.d (.tup [.i,.i]) es,.v (.int k),.r 3 r,.any,.any,.any]) (λO k r hr=>eX sh hr rfl) (Nat.le_refl _) (cv hT) (λes k r T hr hm hT=>⟨Nat.le_trans (gW _ _ _) (Nat.succ_le_succ hm),?_⟩) λO=> ?_
 ·exact bC (cA:=[.ts,.told,.d (.tup [.i,.i]) (eP c.B es k r).1,.v (.int k),.r 3 r,.v (.int (bL c.B 3 (cl r 2)).1),.v (.int (bL c.B 3 (cl r 2)).2),.any]) (g:=[(eP c.B es k r).2])
   (ps:=[((0:Int)<=3/\(3:Int)<=6)/\∃p,cX 3 (cl r 2)=some p,(!n4 (cl r 0) (bL c.B 3 (cl r 2)).1||(aT es (fg (cl r 0) (cl r 2))).isSome)=false->(0:Int)<=5/\(5:Int)<(cols 2).length,fits es=true]) rfl ⟨⟨by decide,so.tg 24 r (List.mem_of_getElem? hr) 2 _ rfl (by decide)⟩,λO=>by decide,ko hm (gG sh hr)⟩ rfl rfl hT
 ·rw[<-List.append_assoc]
  have e:L5 (bt (eP c.B) [] 0 (c.B.R 24)).1 (cnt c.B 20)=tell (λO x=>if !(aT (bt (eP c.B) [] 0 (c.B.R 24)).1 (fg 8 (iv x))).isSome|| !(aT (bt (eP c.B) [] 0 (c.B.R 24)).1 (fg 16 (iv x))).isSome then [msg 20 x pa] else []) 0 (cG 1 (cnt c.B 20+1-1).toNat):=by rw[Int.add_sub_cancel];rfl
  rw[e] at hT⊢
  exact cy _ (lT sh.toiu rfl rfl (by decide)) (bx:=λO x=>[.ts,.told,.d (.tup [.i,.i]) (bt (eP c.B) [] 0 (c.B.R 24)).1,.any,.any,.any,.v (.int x),.any]) (λO x O=>dP (x:=.v (.int x)) rfl λO=>rfl) (cw hT) (λO x T hx hT=>
   bC (cA:=[.ts,.told,.d (.tup [.i,.i]) (bt (eP c.B) [] 0 (c.B.R 24)).1,.any,.any,.any,.v (.int x),.v (.int (iv x))]) (g:=[if !(aT (bt (eP c.B) [] 0 (c.B.R 24)).1 (fg 8 (iv x))).isSome|| !(aT (bt (eP c.B) [] 0 (c.B.R 24)).1 (fg 16 (iv x))).isSome then [msg 20 x pa] else []])
    (ps:=[((3:Int)=3/\(20:Int)=20)/\1<=x/\x<=60000]) rfl ⟨⟨rfl,rfl⟩,by have h1:=lU (Int.le_refl 1) (Int.le_refl _) hx;exact⟨h1.1,Int.le_trans h1.2 (lS so.toiu 20).2⟩⟩ rfl rfl hT) cN
end
section
variable{c:Wc}{n0:Nat}{aq:List XV}{cf:Nat->List PV->ae->Out PV}
theorem XGo.S5{a b:ME}{r:bO}(h:XGo c n0 aq (ag cf aa a) (.v (.bool true))):XGo c n0 aq (ag cf aa (.or (.cons a (.cons b r)))) (.v (.bool true)):=λJ T Z l w=>
 cu.au (k:=λv Z=>pick (truth Z v) (give v Z) (ag cf aa (.or (.cons b r)) J Z)) (h J T Z l w) λv ai w1 O p1=>by cases p1;exact cu.give w1 rfl
theorem XGo.ite{e a b:ME}{x y:XV}{t:Bool}(h:XGo c n0 aq (ag cf aa e) x)(ht:xt x=some t)(k:XGo c n0 aq (ag cf aa (bif t then a else b)) y):XGo c n0 aq (ag cf aa (.ite e a b)) y:=λJ T Z l w=>
 cu.au (k:=λv Z=>pick (truth Z v) (ag cf aa a J Z) (ag cf aa b J Z)) (h J T Z l w) λv ai w1 k1 p1=>cu.pick (sd ht p1) (λe=>by rw[e] at k;exact k J T ai (l.mono k1) w1) λe=>by rw[e] at k;exact k J T ai (l.mono k1) w1
theorem FY{X:Xc}{T:List PV}{e:ME}{a:bq}{x:XV}{g:List (List PV)}{ps:List Prop}(h:XGo X.toWc n0 aq (ag X.cf aa e) x)(ht:xt x=some true)(ha:xr X.o X.B aq a=some (g,ps))(al:All ps)(hb:big (T++cat g)):XS X n0 (.cons (.aP e a .nil) .nil) aq T (En X (T++cat g)):=
 oi (aO:=aq) (U:=T++cat g) (λJ Z O l w=>by
  obtain ⟨u,ai,eu,w1,k1,p1⟩:=h J T Z l w
  obtain ⟨aU,e2,w2,k2⟩:=sa (n0:=n0) a g ps ha al J T ai (l.mono k1) w1 λO=>hb
  refine⟨.next,J,aU,?_,(k1.trans k2).ks,.inl ⟨rfl,(l.mono k1).mono k2,w2⟩⟩
  exact(fC eu).trans (by rw[sd ht p1];exact e2)) cN
end
noncomputable def Wh(X:Xc)(n0:Nat)(e:ME)(body:bq)(F:Nat)(aq:List XV)(T:List PV)(aO:List XV):Prop:=∀J Z,n0<=Z.length->LX X.toWc n0 Z aq J->WS X.toWc T Z->
 ∃aN af,eS (ag X.cf aa e) (ak X.cf aa body) F J Z=some (.ok (.next,aN),af)/\KS X.it n0 Z af/\LX X.toWc n0 af aO aN/\WS X.toWc T af
section
variable{c:Wc}(h:WW c)(so:Sound c.B)(n:Nat)
include h so
theorem FZ:fh c n 10 [.ts,.tx,.told] (jN c.B):=by
 have sh:=so.toShape
 refine bM (X:=XX h sh n) rfl rfl rfl rfl λn0 T hT=> ?_
 rw[jN] at hT⊢
 refine cy (λO t=>if !decide (cnt c.B t=1) then [msg t (cnt c.B t) j7] else []) (bx:=λO t=>[.ts,.tx,.told,.v (.int t),.any]) (l:=[0,32]) (gF:=PV.int) (d4 (x:=.v (.tup [.int 0,.int 32])) (ps:=[]) rfl trivial rfl) (λO t O=>dP (x:=.v (.int t)) rfl λO=>rfl) (cv hT)
  (λO t T O hT=>bC (cA:=[.ts,.tx,.told,.v (.int t),.any]) (g:=[if !decide (cnt c.B t=1) then [msg t (cnt c.B t) j7] else []]) (ps:=[]) rfl trivial rfl rfl hT) ?_
 have hT:=cw hT
 rw[<-List.append_assoc]
 generalize T++tell (λO t=>if !decide (cnt c.B t=1) then [msg t (cnt c.B t) j7] else []) 0 [0,32]=T at hT⊢
 refine bc (aO:=[.ts,.tx,.told,.any,.rl 6 (c.B.R 2)]) (ps:=[]) rfl trivial ?_
 have hm:=so.tx 2
 have hl:=so.len 2
 unfold Dz at hT⊢
 generalize c.B.R 2=l at hm hl hT⊢
 cases l with
 |nil=>
  exact FY (g:=[[msg 2 1 mJ]]) (ps:=[]) (XGo.S5 (bR (XX h sh n).hw (XX h sh n).ho (.cmp .eq (.aF .len (.loc 4)) (.k (.int 0))) (.v (.bool true)) [fits ([]:List Row)=true] rfl rfl)) rfl rfl trivial hT
 |cons r l=>
  have ht:=hm r List.mem_cons_self 1 rfl
  exact pd (aO:=[.ts,.tx,.told,.any,.rl 6 (r::l)]) (g:=[if !decide (nm c.B (cl r 1)=modName)||(isIf r||nz ((cl r 3).fdiv 4)) then [msg 2 1 mJ] else []]) (ps:=[fits (r::l)=true,decide ((((r::l).length:Nat):Int)=0)=false->(∃s,c6 c.B.txt (cl r 1)=some s)/\((!decide (nm c.B (cl r 1)=modName))=false->0<6)]) rfl ⟨decide_eq_true (Nat.le_trans hl (by decide)),λO=>⟨ht,λO=>Nat.succ_pos 5⟩⟩ (λO=>hT) cN
omit h so in
theorem tC{X:Xc}{n0 F:Nat}{aq:List XV}{T:List PV}{e:ME}{body:bq}(h:XGo X.toWc n0 aq (ag X.cf aa e) (.v (.bool false))):Wh X n0 e body (F+1) aq T aq:=λJ Z O l w=>by
 obtain ⟨v,ai,e1,w1,k1,p1⟩:=h J T Z l w
 cases p1
 exact⟨J,ai,yz e1,k1.ks,l.mono k1,w1⟩
omit h so in
theorem Ou{X:Xc}{n0 F:Nat}{aq cA aO:List XV}{T:List PV}{e:ME}{body:bq}(h:XGo X.toWc n0 aq (ag X.cf aa e) (.v (.bool true)))(hb:XS X n0 body aq T (Nx X n0 cA T))(k:Wh X n0 e body F cA T aO):Wh X n0 e body (F+1) aq T aO:=λJ Z hs l w=>by
 obtain ⟨v,ai,e1,w1,k1,p1⟩:=h J T Z l w
 cases p1
 obtain ⟨f,dB,aU,e2,k2,hf,l2,w2⟩:=hb J ai (Nat.le_trans hs k1.len) (l.mono k1) w1
 obtain ⟨sf,lQ,e3,k3,l3,w3⟩:=k dB aU (Nat.le_trans (Nat.le_trans hs k1.len) k2.len) l2 w2
 refine⟨sf,lQ,?_,(k1.ks.trans k2).trans k3,l3,w3⟩
 rw[B7 e1 e2]
 cases f with
 |ret v=>cases hf
 |_=>exact e3
omit h so in
theorem zQ{X:Xc}{n0:Nat}{m:IM}(hm:m.length<=60000){r:Row}{kv:PV}{T:List PV}:∀(d F:Nat)(st x:Int),st=m.length+1-d->d+1<=F->
  ∃eV,Wh X n0 (.and (.cons (.cmp .isin (.loc 5) (.loc 2)) (.cons (.cmp .ne (.loc 5) (.idx (.loc 4) (.k (.int 0)))) (.cons (.cmp .le (.loc 6) (.aF .len (.loc 2))) .nil)))) (.cons (.aA 5 (.idx (.loc 2) (.loc 5))) (.cons (.aug 6 .add (.k (.int 1))) .nil)) F
   [.ts,.told,.m m,.v kv,.r 2 r,.v (.int x),.v (.int st)] T [.ts,.told,.m m,.v kv,.r 2 r,.v (.int (walk m (cl r 0) d x)),.v (.int eV)]
 |_,0,_,_,_,hF=>absurd hF (Nat.not_succ_le_zero _)
 |d,F+1,st,x,m6,hF=>by
  have test:XGo X.toWc n0 [.ts,.told,.m m,.v kv,.r 2 r,.v (.int x),.v (.int st)] (ag X.cf aa (.and (.cons (.cmp .isin (.loc 5) (.loc 2)) (.cons (.cmp .ne (.loc 5) (.idx (.loc 4) (.k (.int 0)))) (.cons (.cmp .le (.loc 6) (.aF .len (.loc 2))) .nil))))) (.v (.bool ((cc m x).isSome&&(!decide (x=cl r 0)&&decide (st<=(m.length:Int)))))):=
   bR X.hw X.ho _ _ [(cc m x).isSome=true->(!decide (x=cl r 0))=true->fits (ce m)=true] rfl λO O=>oy (Nat.le_refl _) hm
  cases d with
  |zero=>
   rw[decide_eq_false (show ¬st<=(m.length:Int) by omega),Bool.and_false,Bool.and_false] at test
   exact⟨st,tC test⟩
  |succ d=>
   rw[walk]
   cases hi:cc m x with
   |none=>rw[hi] at test;exact⟨st,tC test⟩
   |some v=>
    dsimp only
    by_cases hx:x=cl r 0
    ·rw[decide_eq_true hx,hi] at test
     rw[if_pos hx]
     exact⟨st,tC test⟩
    ·rw[if_neg hx]
     rw[decide_eq_false hx,hi,decide_eq_true (show st<=(m.length:Int) by omega)] at test
     obtain ⟨eV,k⟩:=zQ hm d F (st+1) v (by omega) (by omega)
     refine⟨eV,Ou test ?_ k⟩
     have hv:(cc m x).getD 0=v:=by rw[hi];rfl
     refine bc (aO:=[.ts,.told,.m m,.v kv,.r 2 r,.v (.int ((cc m x).getD 0)),.v (.int st)]) (ps:=[(cc m x).isSome=true]) rfl (show (cc m x).isSome=true by rw[hi];rfl) (bc (aO:=[.ts,.told,.m m,.v kv,.r 2 r,.v (.int ((cc m x).getD 0)),.v (.int (st+1))]) (ps:=[]) rfl trivial ?_)
     rw[hv]
     exact ji rfl
theorem F6:fh c n 36 [.ts,.told] (nested c.B):=by
 have sh:=so.toShape
 refine bM (X:=XX h sh n) rfl rfl rfl rfl λn0 T hT=> ?_
 rw[nested] at hT⊢
 refine bc (aO:=[.ts,.told,.m [],.any,.any,.any,.any]) (ps:=[]) rfl trivial ?_
 refine eE (λm=>[.ts,.told,.m m,.any,.any,.any,.any]) (λk (m:IM)=>m.length<=k) iW [] (bY (x:=.rl 2 (c.B.R 41)) (ps:=[]) rfl trivial rfl) (bx:=λm k r=>[.ts,.told,.m m,.v (.int k),.r 2 r,.any,.any]) (λO k r hr=>eX sh hr rfl) (Nat.le_refl _) (cv hT) (λm k r T hr hm hT=> ?_) λhm=> ?_
 ·refine⟨by rw[iW];split;exact Nat.le_succ_of_le hm;exact Nat.le_trans (mI _ _ _) (Nat.succ_le_succ hm),?_⟩
  refine vj (x:=.v (.bool (cc m (cl r 0)).isSome)) (ps:=[]) rfl trivial rfl (λq=> ?_) λq=> ?_
  ·have e:iW m k r=(m,[msg 41 (k+1) gX]):=if_pos q
   rw[e] at hT⊢
   exact bC (cA:=[.ts,.told,.m m,.v (.int k),.r 2 r,.any,.any]) (g:=[[msg 41 (k+1) gX]]) (ps:=[]) rfl trivial rfl rfl hT
  ·have e:iW m k r=(gw m (cl r 0) (cl r 1),[]):=if_neg (by rw[q];exact Bool.noConfusion)
   rw[e] at hT⊢
   exact bC (cA:=[.ts,.told,.m (gw m (cl r 0) (cl r 1)),.v (.int k),.r 2 r,.any,.any]) (g:=[]) (ps:=[fits (ce m)=true]) rfl (oy hm (gG sh hr)) rfl rfl hT
 ·rw[<-List.append_assoc]
  have hm:=Nat.le_trans hm (sh.len 41)
  refine cy (λk r=>if decide (walk (bt iW [] 0 (c.B.R 41)).1 (cl r 0) ((bt iW [] 0 (c.B.R 41)).1.length+1) (cl r 1)=cl r 0) then [msg 41 (k+1) gX] else []) (bY (x:=.rl 2 (c.B.R 41)) (ps:=[]) rfl trivial rfl) (bx:=λk r=>[.ts,.told,.m (bt iW [] 0 (c.B.R 41)).1,.v (.int k),.r 2 r,.any,.any]) (λk r hr=>eX sh hr rfl) (cw hT) (λk r T hr hT=> ?_) cN
  generalize (bt iW [] 0 (c.B.R 41)).1=m at hm hT⊢
  refine bc (aO:=[.ts,.told,.m m,.v (.int k),.r 2 r,.v (.int (cl r 1)),.any]) (ps:=[]) rfl trivial ?_
  refine bc (aO:=[.ts,.told,.m m,.v (.int k),.r 2 r,.v (.int (cl r 1)),.v (.int 0)]) (ps:=[]) rfl trivial ?_
  obtain ⟨eV,wh⟩:=zQ (X:=XX h sh n) (n0:=n0) hm (r:=r) (kv:=.int k) (T:=T) (m.length+1) turns 0 (cl r 1) (by omega) (by simp only [turns];omega)
  refine oi (U:=T) (λJ Z hs l w=>let ⟨aN,af,e,k,l,w⟩:=wh J Z hs l w;⟨.next,aN,af,e,k,.inl ⟨rfl,l,w⟩⟩) ?_
  exact bC (cA:=[.ts,.told,.m m,.v (.int k),.r 2 r,.v (.int (walk m (cl r 0) (m.length+1) (cl r 1))),.v (.int eV)]) (g:=[if decide (walk m (cl r 0) (m.length+1) (cl r 1)=cl r 0) then [msg 41 (k+1) gX] else []]) (ps:=[]) rfl trivial rfl rfl hT
end
section
variable{c:Wc}(h:WW c)(so:Sound c.B)
include h so
theorem mQ(n:Nat)(l:Row)(hl:l∈lists)(t P o:Int)(ht:cl l 0=t)(hp:cl l 1=P)(ho:cl l 2=o)(hP:0<=P/\P<(cols t).length)(np:Nat)(sp:Int)
  (hn:((cols o)[np]?.map Prod.snd)=some 4) (hs:sp= -1\/(0<=sp/\((cols o)[sp.toNat]?.map Prod.snd)=some 5)):
  Tells c (ar ah aa (n+5)) 22 [.ts,.tx,.bl,.told,.v (.tup [.int t,.int P,.int o]),.v (.int np),.v (.int sp)] (dM c.B t P.toNat o np sp):=by
 have sh:=so.toShape
 refine bM (X:=iH c h.ok (n+4) [iR c.B,kS c.B,um c.B,xA c.B,jj c.B] ⟨jP h sh.toiu (n+3),qQ h sh (n+2),xB h sh.toiu (n+2),DQ h sh.toiu (n+2),ot h sh (n+1),trivial⟩) rfl rfl rfl rfl λn0 T hT=> ?_
 have e:dM c.B t P.toNat o np sp=tell (λO k=>xj c.B t P.toNat o np sp k) 0 (cG 1 (cnt c.B t+1-1).toNat):=by rw[Int.add_sub_cancel];rfl
 rw[e] at hT⊢
 refine bc (aO:=[.ts,.tx,.bl,.told,.v (.tup [.int t,.int P,.int o]),.v (.int np),.v (.int sp),.v (.int t),.v (.int P),.v (.int o),.any,.any,.any,.any,.any,.any,.any,.any]) (ps:=[]) rfl trivial ?_
 refine cy _ (lT sh.toiu rfl rfl (by decide)) (bx:=λO k=>[.ts,.tx,.bl,.told,.v (.tup [.int t,.int P,.int o]),.v (.int np),.v (.int sp),.v (.int t),.v (.int P),.v (.int o),.v (.int k),.any,.any,.any,.any,.any,.any,.any]) (λO k O=>dP (x:=.v (.int k)) rfl λO=>rfl) hT (λO k T hk hT=> ?_) cN
 have hk:1<=k/\k<=cnt c.B t:=lU (Int.le_refl 1) (Int.le_refl _) hk
 have hA:=FU so hl (ht▸hk)
 have hB:=FV so hl (ht▸hk)
 rw[ht,hp,ho] at hA hB
 rw[xj] at hT⊢
 refine bc (aO:=[.ts,.tx,.bl,.told,.v (.tup [.int t,.int P,.int o]),.v (.int np),.v (.int sp),.v (.int t),.v (.int P),.v (.int o),.v (.int k),.v (.int (fv c.B t P.toNat k)),.v (.int (gk c.B t P.toNat o k)),.any,.any,.any,.any,.any]) (ps:=[(0<=P/\P<(cols t).length)/\1<=k/\k<=cnt c.B t]) rfl ⟨hP,hk⟩ ?_
 generalize fv c.B t P.toNat k=x0 at hA hT⊢
 generalize gk c.B t P.toNat o k=x1 at hB hT⊢
 refine bc (aO:=[.ts,.tx,.bl,.told,.v (.tup [.int t,.int P,.int o]),.v (.int np),.v (.int sp),.v (.int t),.v (.int P),.v (.int o),.v (.int k),.v (.int x0),.v (.int x1),.d (.tup [.s,.n]) [],.any,.any,.any,.any]) (ps:=[]) rfl trivial ?_
 refine eE (λes=>[.ts,.tx,.bl,.told,.v (.tup [.int t,.int P,.int o]),.v (.int np),.v (.int sp),.v (.int t),.v (.int P),.v (.int o),.v (.int k),.v (.int x0),.v (.int x1),.d (.tup [.s,.n]) es,.any,.any,.any,.any]) (λk (es:Es)=>es.length<=k) (rW c.B o np sp) [] (tB so rfl rfl hA hB)
  (bx:=λes O x=>[.ts,.tx,.bl,.told,.v (.tup [.int t,.int P,.int o]),.v (.int np),.v (.int sp),.v (.int t),.v (.int P),.v (.int o),.v (.int k),.v (.int x0),.v (.int x1),.d (.tup [.s,.n]) es,.v (.int x),.any,.any,.any]) (λO O x O=>dP (x:=.v (.int x)) rfl λO=>rfl) (Nat.le_refl _) hT (λes j x T hx hm hT=>⟨Nat.le_trans (gW _ _ _) (Nat.succ_le_succ hm),?_⟩) λO=>ji rfl
 have hj:j<=60000:=by
  have:=(List.getElem?_eq_some_iff.mp hx).1
  rw[oj] at this
  have:=lS so.toiu o
  omega
 have hx:1<=x/\x<=cnt c.B o:=lU hA.1 hB.2 hx
 have hr:=gZ hx.1 hx.2
 have iA:∀{j:Nat}{v:Int},((cols o)[j]?.map Prod.snd)=some v->0<=(j:Int)/\(j:Int)<(bk c.B o x).length/\(bk c.B o x).length<=65536:=λhj=>by
  obtain ⟨e,he,_⟩:=Option.map_eq_some_iff.mp hj
  exact ov sh he (tA hx.1 hx.2)
 refine bc (aO:=[.ts,.tx,.bl,.told,.v (.tup [.int t,.int P,.int o]),.v (.int np),.v (.int sp),.v (.int t),.v (.int P),.v (.int o),.v (.int k),.v (.int x0),.v (.int x1),.d (.tup [.s,.n]) es,.v (.int x),.rs (bk c.B o x),.any,.any]) (ps:=[1<=x/\x<=cnt c.B o]) rfl hx ?_
 refine sk (x:=.o (mK c.B (bk c.B o x) sp)) rfl (XGo.ite (bR (iH c h.ok (n+4) [iR c.B,kS c.B,um c.B,xA c.B,jj c.B] _).hw (iH c h.ok (n+4) [iR c.B,kS c.B,um c.B,xA c.B,jj c.B] _).ho _ (.v (.bool (decide (sp>=0)))) [] rfl trivial) rfl ?_) ?_
 ·rcases hs with hs | ⟨h0,hb⟩
  ·subst hs;exact λJ T Z l w=>⟨_,Z,rfl,w,.refl _ _,rfl⟩
  ·rw[decide_eq_true h0,mK,if_pos h0]
   have h1:=iA hb
   rw[Int.toNat_of_nonneg h0] at h1
   exact bR (iH c h.ok (n+4) [iR c.B,kS c.B,um c.B,xA c.B,jj c.B] _).hw (iH c h.ok (n+4) [iR c.B,kS c.B,um c.B,xA c.B,jj c.B] _).ho _ _ [0<=sp/\sp<(bk c.B o x).length/\(bk c.B o x).length<=65536,∃s,c6 c.B.gh (cl (bk c.B o x) sp.toNat)=some s] rfl ⟨h1,so.bl o _ hr _ hb⟩
 ·exact bC (cA:=[.ts,.tx,.bl,.told,.v (.tup [.int t,.int P,.int o]),.v (.int np),.v (.int sp),.v (.int t),.v (.int P),.v (.int o),.v (.int k),.v (.int x0),.v (.int x1),.d (.tup [.s,.n]) (rW c.B o np sp es j x).1,.v (.int x),.rs (bk c.B o x),.o (mK c.B (bk c.B o x) sp),.kv (.tup [.str (nm c.B (cl (bk c.B o x) np)),jv (mK c.B (bk c.B o x) sp)]) (.tup [.s,.n]) (xi (nm c.B (cl (bk c.B o x) np)) (mK c.B (bk c.B o x) sp))])
   (g:=[(rW c.B o np sp es j x).2]) (ps:=[0<=(np:Int)/\(np:Int)<(bk c.B o x).length/\(bk c.B o x).length<=65536,∃s,c6 c.B.txt (cl (bk c.B o x) np)=some s,fits es=true]) rfl ⟨iA hn,so.tx o _ hr np hn,ko hm hj⟩ rfl rfl hT
theorem Jq(n:Nat):fh c n 21 [.ts,.tx,.bl,.told] (n5 c.B):=by
 have sh:=so.toShape
 refine bM (X:=XX h sh n) rfl rfl rfl rfl λn0 T hT=> ?_
 rw[n5] at hT⊢
 refine bc (aO:=[.ts,.tx,.bl,.told,.m [],.any,.any,.any,.any]) (ps:=[]) rfl trivial ?_
 have hz:∀(l:List Row)(m:IM)(k:Nat),(bt (λ(m:IM) (O:Nat) (r:Row)=>(gw m (cl r 0) (cl r 1),([]:List PV))) m k l).2=[]:=by
  intro l
  induction l with
  |nil=>exact λO O=>rfl
  |cons x l ih=>exact λm k=>ih _ _
 have S6:big (T++[]):=by simp only [big,List.length_append,List.length_nil] at hT⊢;omega
 refine eE (λm=>[.ts,.tx,.bl,.told,.m m,.any,.any,.any,.any]) (λk (m:IM)=>m.length<=k) (λ(m:IM) O r=>(gw m (cl r 0) (cl r 1),[])) [] (d4 (x:=.rl 2 (c.B.R 41)) (ps:=[]) rfl trivial rfl) (bx:=λm O r=>[.ts,.tx,.bl,.told,.m m,.r 2 r,.any,.any,.any]) (λO k r hr=>dP (x:=.r 2 r) rfl λO=>⟨rfl,sh.m8 41 r (List.mem_of_getElem? hr),by decide⟩) (Nat.le_refl _) (by rw[hz];exact S6)
  (λm k r T hr hm hT=>⟨Nat.le_trans (mI _ _ _) (Nat.succ_le_succ hm),bC (cA:=[.ts,.tx,.bl,.told,.m (gw m (cl r 0) (cl r 1)),.r 2 r,.any,.any,.any]) (g:=[]) (ps:=[fits (ce m)=true]) rfl (oy hm (gG sh hr)) rfl rfl hT⟩) λO=> ?_
 rw[hz,List.append_nil]
 show XS _ n0 _ [.ts,.tx,.bl,.told,.m (encl c.B),.any,.any,.any,.any] T _
 refine bc (aO:=[.ts,.tx,.bl,.told,.m (encl c.B),.any,.d (.tup [.i,.s,.s]) [],.any,.any]) (ps:=[]) rfl trivial ?_
 refine eE (λes=>[.ts,.tx,.bl,.told,.m (encl c.B),.any,.d (.tup [.i,.s,.s]) es,.any,.any]) (λk (es:Es)=>es.length<=k) (stepT c.B (encl c.B)) [] (bY (x:=.rl 6 (c.B.R 2)) (ps:=[]) rfl trivial rfl) (bx:=λes k r=>[.ts,.tx,.bl,.told,.m (encl c.B),.r 6 r,.d (.tup [.i,.s,.s]) es,.v (.int k),.any]) (λO k r hr=>eX sh hr rfl) (Nat.le_refl _) (cv hT) (λes k r T hr hm hT=>⟨Nat.le_trans (gW _ _ _) (Nat.succ_le_succ hm),?_⟩) λO=> ?_
 ·have pS:=List.mem_of_getElem? hr
  exact bC (cA:=[.ts,.tx,.bl,.told,.m (encl c.B),.r 6 r,.d (.tup [.i,.s,.s]) (stepT c.B (encl c.B) es k r).1,.v (.int k),.v (.tup [.int ((cc (encl c.B) (k+1)).getD 0),.str (nm c.B (cl r 2)),.str (nm c.B (cl r 1))])]) (g:=[(stepT c.B (encl c.B) es k r).2]) (ps:=[∃s,c6 c.B.txt (cl r 2)=some s,∃s,c6 c.B.txt (cl r 1)=some s,fits es=true]) rfl ⟨so.tx 2 r pS 2 rfl,so.tx 2 r pS 1 rfl,ko hm (gG sh hr)⟩ rfl rfl hT
 have hT:=cw hT
 rw[<-List.append_assoc]
 show XS _ n0 _ _ (T++kb c.B) _
 have hT:big (T++kb c.B++_):=hT
 generalize T++kb c.B=T at hT⊢
 refine bc (aO:=[.ts,.tx,.bl,.told,.m (encl c.B),.any,.d (.tup [.i,.s,.s]) [],.any,.any]) (ps:=[]) rfl trivial ?_
 refine eE (λes=>[.ts,.tx,.bl,.told,.m (encl c.B),.any,.d (.tup [.i,.s,.s]) es,.any,.any]) (λk (es:Es)=>es.length<=k) (vg c.B) [] (bY (x:=.rl 3 (c.B.R 1)) (ps:=[]) rfl trivial rfl) (bx:=λes k r=>[.ts,.tx,.bl,.told,.m (encl c.B),.r 3 r,.d (.tup [.i,.s,.s]) es,.v (.int k),.any]) (λO k r hr=>eX sh hr rfl) (Nat.le_refl _) (cv hT) (λes k r T hr hm hT=>⟨Nat.le_trans (gW _ _ _) (Nat.succ_le_succ hm),?_⟩) λO=> ?_
 ·have pS:=List.mem_of_getElem? hr
  exact bC (cA:=[.ts,.tx,.bl,.told,.m (encl c.B),.r 3 r,.d (.tup [.i,.s,.s]) (vg c.B es k r).1,.v (.int k),.v (.tup [.int (cl r 0),.str (nm c.B (cl r 2)),.str (nm c.B (cl r 1))])]) (g:=[(vg c.B es k r).2]) (ps:=[∃s,c6 c.B.txt (cl r 2)=some s,∃s,c6 c.B.txt (cl r 1)=some s,fits es=true]) rfl ⟨so.tx 1 r pS 2 rfl,so.tx 1 r pS 1 rfl,ko hm (gG sh hr)⟩ rfl rfl hT
 have hT:=cw hT
 rw[<-List.append_assoc]
 show XS _ n0 _ _ (T++j9 c.B) _
 have hT:big (T++j9 c.B++_):=hT
 generalize T++j9 c.B=T at hT⊢
 refine pf (xs:=[.ts,.tx,.bl,.told,.v (.tup [.int 2,.int 4,.int 4]),.v (.int 1),.v (.int 2)]) (ps:=[]) rfl trivial (mQ h so n [2,4,4] (by decide) 2 4 4 rfl rfl rfl (by decide) 1 2 rfl (.inr ⟨by decide,rfl⟩)) (cv hT) ?_
 have hT:=cw hT
 rw[<-List.append_assoc]
 refine pf (xs:=[.ts,.tx,.bl,.told,.v (.tup [.int 2,.int 5,.int 6]),.v (.int 3),.v (.int 4)]) (ps:=[]) rfl trivial (mQ h so n [2,5,6] (by decide) 2 5 6 rfl rfl rfl (by decide) 3 4 rfl (.inr ⟨by decide,rfl⟩)) (cv hT) ?_
 have hT:=cw hT
 rw[<-List.append_assoc]
 refine pf (xs:=[.ts,.tx,.bl,.told,.v (.tup [.int 21,.int 1,.int 23]),.v (.int 1),.v (.int 2)]) (ps:=[]) rfl trivial (mQ h so n [21,1,23] (by decide) 21 1 23 rfl rfl rfl (by decide) 1 2 rfl (.inr ⟨by decide,rfl⟩)) (cv hT) ?_
 have hT:=cw hT
 rw[<-List.append_assoc]
 exact pf (xs:=[.ts,.tx,.bl,.told,.v (.tup [.int 18,.int 1,.int 20]),.v (.int 1),.v (.int (-1))]) (ps:=[]) rfl trivial (mQ h so n [18,1,20] (by decide) 18 1 20 rfl rfl rfl (by decide) 1 (-1) rfl (.inl rfl)) hT cN
end
theorem xJ{X:Type}{p:Nat->X->List PV}:∀{l:List X}{k:Nat},tell p k l=[]->∀(i:Nat)(x:X),l[i]? =some x->∃k,p k x=[]
 |y::l,k,e,0,x,h=>by cases h;exact⟨k,(List.append_eq_nil_iff.mp e).1⟩
 |y::l,k,e,i+1,x,h=>xJ (l:=l) (List.append_eq_nil_iff.mp e).2 i x h
theorem kT{X:Type}{p:Nat->X->List PV}:∀{l:List X}{k:Nat},tell p k l=[]->∀(i:Nat)(x:X),l[i]? =some x->p (k+i) x=[]
 |y::l,k,e,0,x,h=>by cases h;exact(List.append_eq_nil_iff.mp e).1
 |y::l,k,e,i+1,x,h=>by rw[show k+(i+1)=k+1+i by omega];exact kT (l:=l) (List.append_eq_nil_iff.mp e).2 i x h
theorem fT{X:Type}{p:Nat->X->List PV}{l:List X}{k:Nat}(e:tell p k l=[]){x:X}(h:x∈l):∃i,p i x=[]:=by
 obtain ⟨i,hi⟩:=List.getElem?_of_mem h
 exact xJ e i x hi
theorem xK{b:Bool}{x:PV}(h:(if b=true then [x] else [])=[]):b=false:=by
 cases b with
 |true=>cases h
 |false=>rfl
theorem uu{B:Tb}{t:Int}{p:Nat}{o:Int}:∀{l:List Row}{last:Int}{k:Nat},(bt (o7 B t p o) last k l).2=[]->∀r∈l,last<=cl r p/\cl r p<=cnt B o+1
 |y::l,last,k,e,r,h=>by
  obtain ⟨e1,e2⟩:=List.append_eq_nil_iff.mp e
  rw[o7] at e1 e2
  cases hb:BA B p o last k y with
  |true=>rw[hb] at e1;cases e1
  |false=>
   rw[hb] at e2
   simp only [BA,Bool.or_eq_false_iff,decide_eq_false_iff_not] at hb
   rcases List.mem_cons.mp h with h | h
   ·subst h;omega
   ·have:cl y p<=cl r p/\cl r p<=cnt B o+1:=uu e2 r h
    omega
theorem Sound.of{B:Tb}(sh:Shape B)(hk:∀t,B.R t≠[]->t∈B.keys)(he:early B=[]):Sound B:=by
 simp only [early,List.append_eq_nil_iff] at he
 obtain ⟨e1,e2,e3,e4⟩:=he
 have key:∀{t r},r∈B.R t->t∈B.keys:=λh=>hk _ (List.ne_nil_of_mem h)
 have place:∀{t:Int}{r:Row}{j:Nat}{e:List Nat×Int},r∈B.R t->(cols t)[j]? =some e->jf B t e.1 e.2 (cl r j)=true:=λhr hj=>by
  obtain ⟨_,h⟩:=fT e4 (key hr)
  have h:=kT h _ _ hj
  rw[Nat.zero_add] at h
  obtain ⟨_,h⟩:=fT h hr
  exact Bool.not_inj (y:=true) (xK h)
 refine {sh with tx:= ?_,bl:= ?_,nr:= ?_,tg:= ?_,ls:= ?_}
 ·intro t r hr j hj
  obtain ⟨e,hc,hj⟩:=Option.map_eq_some_iff.mp hj
  have h:=place hr hc
  rw[jf,if_pos hj] at h
  exact Option.isSome_iff_exists.mp h
 ·intro t r hr j hj
  obtain ⟨e,hc,hj⟩:=Option.map_eq_some_iff.mp hj
  have h:=place hr hc
  rw[jf,if_neg (by omega),if_pos hj] at h
  cases hs:c6 B.gh (cl r j) with
  |none=>rw[hs] at h;cases h
  |some s=>exact⟨s,rfl⟩
 ·intro t r hr j e hc hh
  obtain ⟨_,h⟩:=fT e2 (key hr)
  have h:=kT h j e hc
  rw[Nat.zero_add,if_neg (by rw[hh];exact Bool.noConfusion)] at h
  obtain ⟨_,h⟩:=fT h hr
  exact Bool.not_inj (y:=true) (xK h)
 ·intro t r hr j e hc hh
  obtain ⟨_,h⟩:=fT e1 (key hr)
  have h:=kT h j e hc
  rw[if_pos (decide_eq_true hh),Nat.zero_add] at h
  obtain ⟨_,h⟩:=fT h hr
  have h:=xK h
  cases hs:cX (e.2-512) (cl r j) with
  |none=>rw[hs] at h;cases h
  |some s=>exact⟨s,rfl⟩
 ·intro l hl r hr
  obtain ⟨_,h⟩:=fT e3 hl
  exact uu (List.append_eq_nil_iff.mp h).2 r hr
section
variable{c:Wc}{cf:Nat->List PV->ae->Out PV}
noncomputable def Done(c:Wc)(U:List PV)(m:Out (Fl×Loc)):Prop:=∃Z J,m=some (.ok (.ret (.ref c.it),J),Z)/\aj Z c.it=some (.list U)
noncomputable def lo(c:Wc):Loc:=[some (.inst 1 c.jt),some (.inst 0 c.jx),some (.inst 0 c.jb),some (.ref c.it)]
theorem tD{f:Nat}{es:bO}{rest:bq}{Z:ae}{xs:List XV}{vs T M U:List PV}(ht:Tells c cf f xs M)(KD:bg cf aa es (lo c) Z=some (.ok vs,Z))(hv:jg c Z xs vs)(w:WS c T Z)(hb:big (T++M))
  (hk:∀af,WS c (T++M) af->Done c U (ak cf aa rest (lo c) af)):Done c U (ak cf aa (.cons (.expr (.ax f es)) rest) (lo c) Z):=by
 obtain ⟨af,e,w',_⟩:=ht vs T Z hv w hb
 obtain ⟨aU,J,e2,g⟩:=hk af w'
 exact⟨aU,J,aC (aC (aC KD e) rfl) e2,g⟩
theorem kq{f:Nat}{rest:bq}{Z:ae}{T M U:List PV}(ht:Tells c cf f [.ts,.told] M)(w:WS c T Z)(hb:big (T++M))(hk:∀af,WS c (T++M) af->Done c U (ak cf aa rest (lo c) af)):
  Done c U (ak cf aa (.cons (.expr (.ax f (.cons (.loc 0) (.cons (.loc 3) .nil)))) rest) (lo c) Z):=tD ht rfl ⟨rfl,rfl,trivial⟩ w hb hk
theorem BL{f:Nat}{rest:bq}{Z:ae}{T M U:List PV}(ht:Tells c cf f [.ts,.tx,.told] M)(w:WS c T Z)(hb:big (T++M))(hk:∀af,WS c (T++M) af->Done c U (ak cf aa rest (lo c) af)):
  Done c U (ak cf aa (.cons (.expr (.ax f (.cons (.loc 0) (.cons (.loc 1) (.cons (.loc 3) .nil))))) rest) (lo c) Z):=tD ht rfl ⟨rfl,rfl,rfl,trivial⟩ w hb hk
theorem F7{f:Nat}{rest:bq}{Z:ae}{T M U:List PV}(ht:Tells c cf f [.ts,.tx,.bl,.told] M)(w:WS c T Z)(hb:big (T++M))(hk:∀af,WS c (T++M) af->Done c U (ak cf aa rest (lo c) af)):
  Done c U (ak cf aa (.cons (.expr (.ax f (.cons (.loc 0) (.cons (.loc 1) (.cons (.loc 2) (.cons (.loc 3) .nil)))))) rest) (lo c) Z):=tD ht rfl ⟨rfl,rfl,rfl,rfl,trivial⟩ w hb hk
noncomputable def told(B:Tb):List PV:=if early B=[] then qK B else early B
theorem F8(h:WW c)(sh:Shape c.B)(hk:∀t,c.B.R t≠[]->t∈c.B.keys)(h1:big (early c.B))(h2:early c.B=[]->big (qK c.B))(n:Nat):
  ∃af,ar ah aa (n+7) 4 [.inst 1 c.jt,.inst 0 c.jx,.inst 0 c.jb] c.kg=some (.ok (.ref c.it),af)/\aj af c.it=some (.list (told c.B)):=by
 have key:Done c (told c.B) (ak (ar ah aa (n+6)) aa lB.body [some (.inst 1 c.jt),some (.inst 0 c.jx),some (.inst 0 c.jb),none] c.kg):=by
  have w0:WS c [] (c.kg++[.list []]):=⟨λi hi=>dv _ _ _ (by rw[<-h.it];exact hi),by rw[h.it];exact bz _ _⟩
  have st:∀{rest:bq}{U:List PV},Done c U (ak (ar ah aa (n+6)) aa rest (lo c) (c.kg++[.list []]))->Done c U (ak (ar ah aa (n+6)) aa (.cons (.aA 3 (.list .nil)) rest) [some (.inst 1 c.jt),some (.inst 0 c.jx),some (.inst 0 c.jb),none] c.kg):=by
   intro rest U hd
   rw[lo,h.it] at hd
   exact hd
  refine st ?_
  have pV:big ([]++(tags c.B++(parents c.B++(xd c.B++Bz c.B)))):=h1
  refine kq (MA h sh n) w0 (cv pV) λZ w=> ?_
  have pV:=cw pV
  refine kq (DZ h sh n) w (cv pV) λZ w=> ?_
  have pV:=cw pV
  refine kq (Jm h sh n) w (cv pV) λZ w=> ?_
  have pV:=cw pV
  refine F7 (Jl h sh n) w pV λZ w=> ?_
  rw[List.append_assoc,List.append_assoc,List.append_assoc] at w
  have w:WS c (early c.B) Z:=w
  have tr:truth Z (.ref c.it)=some (!(early c.B).isEmpty):=zh w.2 (big.fits h1)
  have go:∀{rest:bq}{U:List PV}(b:Bool),(!(early c.B).isEmpty)=b->Done c U (bif b then some (.ok (.ret (.ref c.it),lo c),Z) else ak (ar ah aa (n+6)) aa rest (lo c) Z)->Done c U (ak (ar ah aa (n+6)) aa (.cons (.aP (.loc 3) (.cons (.ret (.loc 3)) .nil) .nil) rest) (lo c) Z):=by
   intro rest U b hb ⟨aU,J,e,g⟩
   refine⟨aU,J,?_,g⟩
   show au (pick (truth Z (.ref c.it)) _ _) _=_
   rw[tr,hb]
   cases b with
   |true=>exact e
   |false=>exact e
  by_cases hn:early c.B=[]
  ·refine go false (by rw[hn];rfl) ?_
   rw[told,if_pos hn]
   rw[hn] at w
   have so:=Sound.of sh hk hn
   have bV:big ([]++qK c.B):=h2 hn
   rw[qK] at bV
   refine BL (FZ h so n) w (cv bV) λZ w=> ?_
   have bV:=cw bV
   refine kq (MB h sh n) w (cv bV) λZ w=> ?_
   have bV:=cw bV
   refine BL (Jn h so n) w (cv bV) λZ w=> ?_
   have bV:=cw bV
   refine F7 (Jq h so n) w (cv bV) λZ w=> ?_
   have bV:=cw bV
   refine kq (FX h so n) w (cv bV) λZ w=> ?_
   have bV:=cw bV
   refine BL (MC h so n) w (cv bV) λZ w=> ?_
   have bV:=cw bV
   refine F7 (Jo h so n) w (cv bV) λZ w=> ?_
   have bV:=cw bV
   refine kq (FT h sh n) w (cv bV) λZ w=> ?_
   have bV:=cw bV
   refine kq (y4 h so n) w (cv bV) λZ w=> ?_
   have bV:=cw bV
   refine kq (FW h so n) w (cv bV) λZ w=> ?_
   have bV:=cw bV
   refine BL (BK h so n) w (cv bV) λZ w=> ?_
   have bV:=cw bV
   refine kq (y5 h so n) w (cv bV) λZ w=> ?_
   have bV:=cw bV
   refine kq (Jp h so n) w (cv bV) λZ w=> ?_
   have bV:=cw bV
   refine kq (F6 h so n) w bV λZ w=> ?_
   have w2:=w.2
   simp only [List.nil_append,List.append_assoc] at w2
   exact⟨Z,lo c,rfl,w2⟩
  ·refine go true ?_ ⟨Z,lo c,rfl,by rw[told,if_neg hn];exact w.2⟩
   cases hh:early c.B with
   |nil=>exact absurd hh hn
   |cons a l=>rfl
 obtain ⟨af,J,e,g⟩:=key
 exact⟨af,bA rfl rfl e,g⟩
end
noncomputable def up(R:Int->List Row)(t:Int)(l:List Row):Int->List Row:=λk=>if k=t then l else R k
noncomputable def fw(f:Int->Nat)(t:Int)(i:Nat):Int->Nat:=λk=>if k=t then i else f k
noncomputable def Fr(n:Nat)(Z af:ae):Prop:=Z.length<=af.length/\∀i<n,aj af i=aj Z i
theorem Fr.refl(n:Nat)(Z:ae):Fr n Z Z:=⟨Nat.le_refl _,λO O=>rfl⟩
theorem Fr.trans{n:Nat}{a b c:ae}(h:Fr n a b)(g:Fr n b c):Fr n a c:=⟨Nat.le_trans h.1 g.1,λi hi=>(g.2 i hi).trans (h.2 i hi)⟩
theorem Fr.app{n:Nat}(Z x:ae)(h:n<=Z.length):Fr n Z (Z++x):=⟨by rw[List.length_append];exact Nat.le_add_right _ _,λi hi=>dv _ _ _ (Nat.lt_of_lt_of_le hi h)⟩
theorem Fr.set{n:Nat}(Z:ae){i:Nat}(o:MO)(h:n<=i):Fr n Z (sset Z i o):=⟨Nat.le_of_eq (fB Z i o).symm,λj hj=>bB _ _ _ _ (Nat.ne_of_lt (Nat.lt_of_lt_of_le hj h))⟩
theorem Fr.mono{n m:Nat}{Z af:ae}(h:Fr n Z af)(l:m<=n):Fr m Z af:=⟨h.1,λi hi=>h.2 i (Nat.lt_of_lt_of_le hi l)⟩
theorem Fr.get{n:Nat}{Z af:ae}(h:Fr n Z af){i:Nat}{o:MO}(g:aj Z i=some o)(l:i<n):aj af i=some o:=(h.2 i l).trans g
theorem D1{x k:Int}{v:PV}{es:Es}:aT ((Key.int x,v)::es) (.int k)=if x=k then some v else aT es (.int k):=by
 show (if Key.int x=Key.int k then some v else aT es (.int k))=_
 by_cases h:x=k
 ·rw[if_pos h,if_pos (congrArg Key.int h)]
 ·rw[if_neg h,if_neg λe=>h (o8 e)]
theorem D2{x k:Int}{v w:PV}{es:Es}:bZ ((Key.int x,v)::es) (.int k) w=if x=k then (Key.int x,w)::es else (Key.int x,v)::bZ es (.int k) w:=by
 show (if Key.int x=Key.int k then (Key.int x,w)::es else (Key.int x,v)::bZ es (.int k) w)=_
 by_cases h:x=k
 ·rw[if_pos h,if_pos (congrArg Key.int h)]
 ·rw[if_neg h,if_neg λe=>h (o8 e)]
noncomputable def dT(loc:Int->Nat)(ks:List Int):Es:=ks.map λk=>(Key.int k,PV.ref (loc k))
theorem xM(loc:Int->Nat)(k:Int){ks:List Int}(h:k∈ks):aT (dT loc ks) (.int k)=some (.ref (loc k)):=by
 induction ks with
 |nil=>exact absurd h List.not_mem_nil
 |cons x ks ih=>
  refine D1.trans ?_
  by_cases e:x=k
  ·rw[if_pos e,e]
  ·rw[if_neg e];exact ih ((List.mem_cons.mp h).resolve_left λh=>e h.symm)
theorem HB(loc:Int->Nat)(k:Int){ks:List Int}(h:k∉ks):aT (dT loc ks) (.int k)=.none:=by
 induction ks with
 |nil=>rfl
 |cons x ks ih=>exact D1.trans ((if_neg λ(e:x=k)=>h (e▸List.mem_cons_self)).trans (ih λm=>h (List.mem_cons_of_mem _ m)))
theorem Jr(loc:Int->Nat)(k:Int)(i:Nat){ks:List Int}(h:k∉ks):dT (fw loc k i) ks=dT loc ks:=
 List.map_congr_left λx m=>by rw[fw,if_neg λ(e:x=k)=>h (e▸m)]
theorem MD(loc:Int->Nat)(k:Int)(i:Nat){ks:List Int}(h:k∈ks)(nd:ks.Nodup):bZ (dT loc ks) (.int k) (.ref i)=dT (fw loc k i) ks:=by
 induction ks with
 |nil=>exact absurd h List.not_mem_nil
 |cons x ks ih=>
  have nd:=List.nodup_cons.mp nd
  refine D2.trans ?_
  show _=(Key.int x,PV.ref (fw loc k i x))::dT (fw loc k i) ks
  by_cases e:x=k
  ·rw[if_pos e,fw,if_pos e,Jr loc k i (e▸nd.1)];rfl
  ·rw[if_neg e,fw,if_neg e,<-ih ((List.mem_cons.mp h).resolve_left λh=>e h.symm) nd.2];rfl
theorem Ov(loc:Int->Nat)(k:Int)(i:Nat){ks:List Int}(h:k∉ks):bZ (dT loc ks) (.int k) (.ref i)=dT (fw loc k i) (ks++[k]):=by
 induction ks with
 |nil=>show [(Key.int k,PV.ref i)]=[(Key.int k,PV.ref (fw loc k i k))];rw[fw,if_pos rfl]
 |cons x ks ih=>
  have e:¬x=k:=λe=>h (e▸List.mem_cons_self)
  refine D2.trans ?_
  show _=(Key.int x,PV.ref (fw loc k i x))::dT (fw loc k i) (ks++[k])
  rw[if_neg e,fw,if_neg e,<-ih λm=>h (List.mem_cons_of_mem _ m)];rfl
structure RD(d n0 b:Nat)(ks:List Int)(loc:Int->Nat)(R:Int->List Row)(Z:ae):Prop where
 dict:aj Z d=some (.dict .int (dT loc ks))
 at_:∀k∈ks,aj Z (loc k)=some (.list ((R k).map pr))
 inj:∀k∈ks,∀k'∈ks,loc k=loc k'->k=k'
 nd:n0<=d
 nl:∀k∈ks,n0<=loc k
 ln:∀k∈ks,(R k).length<=b
 nk:ks.Nodup
 lk:ks.length<=60
section
variable{d n0 b:Nat}{ks:List Int}{loc:Int->Nat}{R:Int->List Row}{Z:ae}
theorem RD.keep(h:RD d n0 b ks loc R Z){af:ae}(hk:∀i o,aj Z i=some o->aj af i=some o):RD d n0 b ks loc R af:=
 {h with dict:=hk _ _ h.dict,at_:=λk dj=>hk _ _ (h.at_ k dj)}
theorem bG(Z x:ae):∀i o,aj Z i=some o->aj (Z++x) i=some o:=λi O g=>(dv _ _ _ (bh _ _ _ g)).trans g
theorem RD.ne(h:RD d n0 b ks loc R Z){k:Int}(hk:k∈ks):loc k≠d:=λe=>by have:=h.at_ k hk;rw[e,h.dict] at this;exact nomatch this
theorem RD.mono(h:RD d n0 b ks loc R Z){b':Nat}(l:b<=b'):RD d n0 b' ks loc R Z:={h with ln:=λk hk=>Nat.le_trans (h.ln k hk) l}
theorem RD.push(h:RD d n0 b ks loc R Z){k:Int}(hk:k∈ks)(r:Row):RD d n0 (b+1) ks loc (up R k (R k++[r])) (sset Z (loc k) (.list ((R k).map pr++[pr r]))):=by
 refine {h with dict:= ?_,at_:=λk' dj=> ?_,ln:=λk' dj=> ?_}
 ·exact(bB _ _ _ _ (Ne.symm (h.ne hk))).trans h.dict
 ·by_cases e:k'=k
  ·subst e
   rw[up,if_pos rfl,List.map_append]
   exact ez _ _ _ (bh _ _ _ (h.at_ _ hk))
  ·rw[up,if_neg e]
   exact(bB _ _ _ _ λx=>e (h.inj _ dj _ hk x)).trans (h.at_ _ dj)
 ·by_cases e:k'=k
  ·rw[up,if_pos e,List.length_append];exact Nat.succ_le_succ (h.ln k hk)
  ·rw[up,if_neg e];exact Nat.le_succ_of_le (h.ln k' dj)
theorem RD.put(h:RD d n0 b ks loc R Z){k:Int}(hk:k∈ks){ai:ae}{i b':Nat}{l:List Row}(hs:∀i o,aj Z i=some o->aj ai i=some o)(hi:Z.length<=i)(hn:n0<=i)(hg:aj ai i=some (.list (l.map pr)))(hb:b<=b')(hl:l.length<=b'):
  RD d n0 b' ks (fw loc k i) (up R k l) (sset ai d (.dict .int (bZ (dT loc ks) (.int k) (.ref i)))):=by
 have hd:=bh _ _ _ h.dict
 have lt:∀k'∈ks,loc k'≠i:=λk' dj=>Nat.ne_of_lt (Nat.lt_of_lt_of_le (bh _ _ _ (h.at_ k' dj)) hi)
 refine⟨?_,λk' dj=> ?_,λk1 h1 k2 h2 e=> ?_,h.nd,λk' dj=> ?_,λk' dj=> ?_,h.nk,h.lk⟩
 ·rw[MD loc k i hk h.nk];exact ez _ _ _ (bh _ _ _ (hs _ _ h.dict))
 ·by_cases e:k'=k
  ·rw[fw,if_pos e,up,if_pos e];exact(bB _ _ _ _ (Nat.ne_of_gt (Nat.lt_of_lt_of_le hd hi))).trans hg
  ·rw[fw,if_neg e,up,if_neg e];exact(bB _ _ _ _ (h.ne dj)).trans (hs _ _ (h.at_ _ dj))
 ·have e:(if k1=k then i else loc k1)=(if k2=k then i else loc k2):=e
  by_cases e1:k1=k<;>by_cases e2:k2=k
  ·exact e1.trans e2.symm
  ·rw[if_pos e1,if_neg e2] at e;exact absurd e.symm (lt _ h2)
  ·rw[if_neg e1,if_pos e2] at e;exact absurd e (lt _ h1)
  ·rw[if_neg e1,if_neg e2] at e;exact h.inj _ h1 _ h2 e
 ·by_cases e:k'=k
  ·rw[fw,if_pos e];exact hn
  ·rw[fw,if_neg e];exact h.nl _ dj
 ·by_cases e:k'=k
  ·rw[up,if_pos e];exact hl
  ·rw[up,if_neg e];exact Nat.le_trans (h.ln _ dj) hb
variable{cf:Nat->List PV->ae->Out PV}{gl:Nat->PV}{J:Loc}{i:Nat}
theorem fits_of{α:Type}{l:List α}{b:Nat}(h:l.length<=b)(hb:b<=65536):fits l=true:=decide_eq_true (Nat.le_trans h hb)
theorem RD.get(h:RD d n0 b ks loc R Z){k:Int}(hk:k∈ks):index (.ref d) (.int k) Z=some (.ref (loc k)):=(qL h.dict (y:=.int k) rfl).trans (xM loc k hk)
theorem RD.idx(h:RD d n0 b ks loc R Z)(hl:bo J i=some (.ref d)){k:Int}(hk:k∈ks):ag cf gl (.idx (.loc i) (.k (.int k))) J Z=some (.ok (.ref (loc k)),Z):=by
 show au (FR.read Z (bo J i)) (λx Z=>au (give (PV.int k) Z) λy Z=>FR.read Z (index x y Z))=_
 rw[hl]
 show FR.read Z (index (.ref d) (.int k) Z)=_
 rw[h.get hk];rfl
theorem RD.fits(h:RD d n0 b ks loc R Z)(hb:b<=60000){k:Int}(hk:k∈ks):fits ((R k).map pr)=true:=map_fits (Nat.le_trans (h.ln k hk) (Nat.le_trans hb (by decide)))
theorem RD.len(h:RD d n0 b ks loc R Z)(hb:b<=60000)(hl:bo J i=some (.ref d)){k:Int}(hk:k∈ks):ag cf gl (.aF .len (.idx (.loc i) (.k (.int k)))) J Z=some (.ok (.int (R k).length),Z):=
 aC (h.idx hl hk) (by rw[len_list (h.at_ k hk) (h.fits hb hk),List.length_map];rfl)
theorem RD.app(h:RD d n0 b ks loc R Z)(hb:b<=60000)(hl:bo J i=some (.ref d)){k:Int}(hk:k∈ks){e:ME}{r:Row}(he:ag cf gl e J Z=some (.ok (pr r),Z)):
  aZ cf gl (.expr (.aK (.idx (.loc i) (.k (.int k))) 2 (.cons e .nil))) J Z=some (.ok (.next,J),sset Z (loc k) (.list ((R k).map pr++[pr r]))):=by
 refine jV (u:=.none) ?_
 show au (ag cf gl (.idx (.loc i) (.k (.int k))) J Z) (λx Z=>az (cU 2 x Z) (au (au (ag cf gl e J Z) λv Z=>au (give [] Z) λvs Z=>give (v::vs) Z) λvs Z=>fW cf x 2 vs Z))=_
 rw[h.idx hl hk]
 show az (cU 2 (.ref (loc k)) Z) (au (au (ag cf gl e J Z) λv Z=>au (give [] Z) λvs Z=>give (v::vs) Z) λvs Z=>fW cf (.ref (loc k)) 2 vs Z)=_
 rw[sR (h.at_ k hk),he]
 show FR.lift (sG (.ref (loc k)) (pr r) Z)=_
 rw[vT (h.at_ k hk) (h.fits hb hk)];rfl
theorem add_lists{Z:ae}{i j:Nat}{l m:List PV}(g:aj Z i=some (.list l))(g2:aj Z j=some (.list m))(hf:FR.fits (l++m)=true):binop .add (.ref i) (.ref j) Z=some (.ref Z.length,Z++[.list (l++m)]):=by
 show az true (((aj Z i).bind cL).bind λx=>((aj Z j).bind cL).bind λy=>az (FR.fits (x++y)) (some (PV.ref Z.length,Z++[.list (x++y)])))=_
 rw[g,g2]
 show az (FR.fits (l++m)) _=_
 rw[hf];rfl
theorem RD.cat(h:RD d n0 b ks loc R Z)(hb:b<=60000)(hl:bo J i=some (.ref d)){k:Int}(hk:k∈ks){e:ME}{l:List Row}(S7:l.length<=2)(he:ag cf gl e J Z=some (.ok (.ref Z.length),Z++[.list (l.map pr)])):
  ∃aY af,aZ cf gl (.bP (.loc i) (.k (.int k)) (.bin .add (.idx (.loc i) (.k (.int k))) e)) J Z=some (.ok (.next,J),af)/\RD d n0 (b+2) ks aY (up R k (R k++l)) af/\Fr n0 Z af:=by
 have hi:=h.idx (cf:=cf) (gl:=gl) hl hk
 have hd:=Nat.le_trans h.nd (Nat.le_of_lt (bh _ _ _ h.dict))
 have h1:aj (Z++[.list (l.map pr)]) (loc k)=_:=bG Z [.list (l.map pr)] _ _ (h.at_ k hk)
 have hlen:(R k++l).length<=b+2:=by rw[List.length_append];exact Nat.add_le_add (h.ln k hk) S7
 have hf:FR.fits ((R k).map pr++l.map pr)=true:=by rw[<-List.map_append];exact map_fits (Nat.le_trans hlen (Nat.le_trans (Nat.add_le_add_right hb 2) (by decide)))
 have h2:aj (Z++[.list (l.map pr)]++[.list ((R k).map pr++l.map pr)]) d=_:=bG _ [.list ((R k).map pr++l.map pr)] _ _ (bG Z [.list (l.map pr)] _ _ h.dict)
 have MF:FR.fits (dT loc ks)=true:=map_fits (Nat.le_trans h.lk (by decide))
 have l1:Z.length<=(Z++[MO.list (l.map pr)]).length:=by rw[List.length_append];exact Nat.le_add_right _ _
 refine⟨_,_,?_,h.put (i:=(Z++[MO.list (l.map pr)]).length) (l:=R k++l) (b':=b+2) hk (ai:=Z++[.list (l.map pr)]++[.list ((R k).map pr++l.map pr)]) (λi o g=>bG _ _ _ _ (bG _ _ _ _ g)) l1 (Nat.le_trans hd l1) ?_ (Nat.le_add_right _ _) hlen,?_⟩
 ·show au (au (ag cf gl (.idx (.loc i) (.k (.int k))) J Z) λx Z=>au (ag cf gl e J Z) λy Z=>FR.lift (binop .add x y Z)) (λv Z=>au (FR.read Z (bo J i)) λa Z=>au (give (PV.int k) Z) λi Z=>FR.put J (setItem a i v Z))=_
  rw[hi]
  show au (au (ag cf gl e J Z) λy Z=>FR.lift (binop .add (.ref (loc k)) y Z)) (λv Z=>au (FR.read Z (bo J i)) λa Z=>au (give (PV.int k) Z) λi Z=>FR.put J (setItem a i v Z))=_
  rw[he]
  show au (FR.lift (binop .add (.ref (loc k)) (.ref Z.length) (Z++[.list (l.map pr)]))) (λv Z=>au (FR.read Z (bo J i)) λa Z=>au (give (PV.int k) Z) λi Z=>FR.put J (setItem a i v Z))=_
  rw[add_lists h1 (bz _ _) hf,hl]
  show FR.put J (setItem (.ref d) (.int k) (.ref (Z++[MO.list (l.map pr)]).length) (Z++[.list (l.map pr)]++[.list ((R k).map pr++l.map pr)]))=_
  rw[nH h2 (y:=.int k) rfl MF];rfl
 ·rw[List.map_append];exact bz _ _
 ·exact((Fr.app Z _ hd).trans (Fr.app _ _ (Nat.le_trans hd l1))).trans (Fr.set _ _ h.nd)
end
theorem lV{body:Loc->ae->Out (Fl×Loc)}{t:iY}{en:Bool}{src:Src}{l:List PV}{Inv:Nat->Loc->ae->Prop}
  (hs:∀k J Z,Inv k J Z->b9 Z k src=some l[k]?)
  (hb:∀k x J Z,l[k]? =some x->Inv k J Z->∃cY,eN t (wrap en k x) J=some cY/\∃aN af,body cY Z=some (.ok (.next,aN),af)/\Inv (k+1) aN af):
  ∀(j k:Nat)(J:Loc)(Z:ae),k+j=l.length->Inv k J Z->∃aN af,forL body t src en (j+1) k J Z=some (.ok (.next,aN),af)/\Inv l.length aN af
 |0,k,J,Z,e,hi=>by
  have e:k=l.length:=e
  exact⟨J,Z,qf (by rw[hs k J Z hi,List.getElem?_eq_none (Nat.le_of_eq e.symm)]),e▸hi⟩
 |j+1,k,J,Z,e,hi=>by
  have hx:=List.getElem?_eq_getElem (l:=l) (i:=k) (e▸Nat.lt_add_of_pos_right (Nat.succ_pos j))
  obtain ⟨cY,e1,dB,aU,e2,S9⟩:=hb k _ J Z hx hi
  obtain ⟨aN,af,e3,Mn⟩:=lV hs hb j (k+1) dB aU ((Nat.succ_add_eq_add_succ k j).trans e) S9
  exact⟨aN,af,(mq ((hs k J Z hi).trans (congrArg some hx)) e1 e2).trans e3,Mn⟩
theorem lW{Z:ae}{i k:Nat}{l:List PV}(h:aj Z i=some (.list l)):b9 Z k (.live i)=some l[k]? :=(fY h).trans (congrArg some (nth_get? l k))
theorem MG{Z:ae}{k:Nat}{l:List PV}:b9 Z k (.tup l)=some l[k]? :=congrArg some (nth_get? l k)
theorem aG{cf:Nat->List PV->ae->Out PV}{gl:Nat->PV}{s:MS}{rest:bq}{J cY:Loc}{Z ai:ae}{r:Out (Fl×Loc)}(h:aZ cf gl s J Z=some (.ok (.next,cY),ai))(hk:ak cf gl rest cY ai=r):ak cf gl (.cons s rest) J Z=r:=(eI h).trans hk
noncomputable def MH(core:Int):List (Int×List Row):=[(0,[[0,2,1,0,0]]),
 (1,[[6,17,0],[6,18,0]]),
 (2,[[0,1,0,0,1,1],[1,2,0,5,1,1],[161,3,0,0,4,7],[2,2,0,5,5,8]]),
 (4,[[6,4,1],[32854,4,2],[6,5,1],[22,22,1],[6,4,1]]),
 (6,[[1,0,2054,6,5,1],[5,0,2054,7,4,1],[9,0,2054,8,4,3],[13,0,2054,9,4,4],[17,0,6161,10,3,5],[21,0,6,11,4,5],[0,0,1478,12,4,7],[0,4101,6,11,4,7]]),
 (8,[[0,0,0],[0,1,19],[0,1,19],[0,1,0],[0,1,19],[0,2,18]]),
 (9,[[2,12]]),
 (10,[[9,10,4]]),
 (11,[[8,8,8]]),
 (17,[[8]]),
 (18,[[2,1]]),
 (20,[[0,14,5]]),
 (21,[[2,1]]),
 (23,[[0,13,6],[0,13,7]]),
 (24,[[2,1,3],[1,2,3],[8,3,2],[16,4,2]]),
 (25,[[2,2,3]]),
 (27,[[8]]),
 (32,[[0,0,0,0,0,0,0,2+21*core,0]]),
 (35,[[0,0,0,0,0,0,18,0,0]]),
 (41,[[4,2]]),
 (42,[[0,1,6,15],[0,0,13,15],[1,0,13,16]]),
 (43,[[12,8]]),
 (44,[[2,5]])]
noncomputable def R0(core:Int)(t:Int):List Row:=look [] (MH core) t
structure E where
 nm:Int
 sp:Int
 ex:Int
 f:Nat
 m:Nat
noncomputable def gL:Nat->List Row
 |0=>[]
 |1=>[[6,4,1]]
 |_=>[[6,4,1],[6,5,1]]
noncomputable def gM:Nat->List Row
 |0=>[]
 |1=>[[25,0,6,11,4,7]]
 |_=>[[25,0,6,11,4,7],[26,0,6,11,5,7]]
noncomputable def len(R:Int->List Row)(t:Int):Int:=((R t).length:Int)
noncomputable def oz(R:Int->List Row)(e:E):Int->List Row:=
 up (up (up R 2 (R 2++[[1,e.nm,e.sp,e.ex,len R 4+1,len R 6+1]])) 4 (R 4++gL e.f)) 6 (R 6++gM e.m)
noncomputable def bU(core:Int)(qT:Nat)(x:Int):E:=
 let sp:Int:=if qT=2\/(x.fdiv 36).fmod 2=1 then 19 else 0
 let c:Bool:=decide (qT=0)&&decide ((x.fdiv 9).fmod 2=1)
 let ex:Int:=if (x.fdiv 18).fmod 2=1 then 8 else 5
 ⟨if c then 17 else cl [20,21,2] qT,sp,if c&&(decide (core=1)&&decide (sp=0)) then 0 else ex,(x.fmod 3).toNat,((x.fdiv 3).fmod 3).toNat⟩
noncomputable def eY(core:Int):Nat->List Int->(Int->List Row)->(Int->List Row)
 |_,[],R=>R
 |k,x::xs,R=>eY core (k+1) xs (oz R (bU core k x))
noncomputable def tail3(R:Int->List Row):Int->List Row:=
 up (up (up R 9 (R 9++[[len R 2,len R 2*4]])) 43 (R 43++[[len R 6*2,8]])) 44 (R 44++[[3,len R 2*4]])
noncomputable def BM(cf:Nat->List PV->ae->Out PV)(J:Loc):bO->List (List Row)->Prop
 |.nil,[]=>True
 |.cons e r,l::ls=>(∀Z,ag cf aa e J Z=some (.ok (.ref Z.length),Z++[.list (l.map pr)]))/\BM cf J r ls
 |_,_=>False
noncomputable def refs(n:Nat):Nat->Nat->List PV
 |_,0=>[]
 |i,k+1=>.ref (n+i)::refs n (i+1) k
theorem F9{cf:Nat->List PV->ae->Out PV}{J:Loc}(ls:List (List Row)):∀(es:bO)(Z:ae)(x:ae),BM cf J es ls->
  bg cf aa es J (Z++x)=some (.ok (refs Z.length x.length ls.length),Z++(x++ls.map λl=>.list (l.map pr))):=by
 induction ls with
 |nil=>
  intro es Z x h
  cases es with
  |nil=>rw[List.map_nil,List.append_nil];rfl
  |cons _ _=>exact h.elim
 |cons l ls ih=>
  intro es Z x h
  cases es with
  |nil=>exact h.elim
  |cons e r=>
   have ih:=ih r Z (x++[.list (l.map pr)]) h.2
   rw[<-List.append_assoc] at ih
   refine aC (h.1 _) (aC ih ?_)
   rw[List.length_append,List.length_append,List.append_assoc]
   rfl
theorem Ga(Z x:ae)(i:Nat):aj (Z++x) (Z.length+i)=aj x i:=by
 induction Z with
 |nil=>rw[List.nil_append,List.length_nil,Nat.zero_add]
 |cons o Z ih=>rw[List.length_cons,Nat.succ_add];exact ih
noncomputable def BN(core:Int):List (List Row):=aB.map (R0 core)
theorem Js(cf:Nat->List PV->ae->Out PV)(core:Int)(r:Loc):BM cf (some (.int core)::r) lA (BN core):=by
 unfold lA
 repeat' first
  |exact trivial
  |refine⟨λO=>rfl,?_⟩
theorem xN(f:Int->MO){k:Int}:∀{ks:List Int},k∈ks->aj (ks.map f) (ks.idxOf k)=some (f k)
 |[],h=>absurd h List.not_mem_nil
 |x::ks,h=>by
  rw[List.idxOf_cons]
  by_cases e:x=k
  ·rw[e,beq_self_eq_true];rfl
  ·rw[beq_false_of_ne e]
   exact xN f ((List.mem_cons.mp h).resolve_left λh=>e h.symm)
theorem Jt(cf:Nat->List PV->ae->Out PV)(core:Int)(r:Loc)(Z:ae):
  ∃loc af,aZ cf aa (.aA 2 (.kz [0,1,2,4,6,8,9,10,11,17,18,20,21,23,24,25,27,32,35,41,42,43,44] lA)) (some (.int core)::r) Z=some (.ok (.next,cD (some (.int core)::r) 2 (.ref (Z.length+23))),af)/\
   RD (Z.length+23) Z.length 10 aB loc (R0 core) af/\Fr Z.length Z af:=by
 have h:=F9 (BN core) lA Z [] (Js cf core r)
 rw[List.append_nil] at h
 have hr:(BN core).map (λ(l:List Row)=>MO.list (l.map pr))=aB.map λk=>MO.list ((R0 core k).map pr):=List.map_map
 rw[hr,List.nil_append] at h
 have at_:∀{k},k∈aB->aj (Z++aB.map λk=>MO.list ((R0 core k).map pr)) (Z.length+aB.idxOf k)=some (.list ((R0 core k).map pr)):=λhk=>(Ga _ _ _).trans (xN _ hk)
 have hl:(Z++aB.map λk=>MO.list ((R0 core k).map pr)).length=Z.length+23:=by rw[List.length_append];rfl
 refine⟨λk=>Z.length+aB.idxOf k,(Z++aB.map λk=>MO.list ((R0 core k).map pr))++[.dict .int (dT (λk=>Z.length+aB.idxOf k) aB)],?_,⟨?_,λk hk=>bG _ _ _ _ (at_ hk),λk hk k' dj e=> ?_,Nat.le_add_right _ _,λO O=>Nat.le_add_right _ _,λk hk=> ?_,by decide,by decide⟩,(Fr.app Z _ (Nat.le_refl _)).trans (Fr.app _ _ (hl▸Nat.le_add_right _ _))⟩
 ·have e1:iJ aB=true:=by decide+kernel
  refine dI ((ED (ks:=aB) h e1 rfl).trans ?_)
  rw[hl]
  rfl
 ·rw[<-hl];exact bz _ _
 ·have key:∀k∈aB,∀k'∈aB,aB.idxOf k=aB.idxOf k'->k=k':=by decide
  exact key k hk k' dj (Nat.add_left_cancel e)
 ·have key:(aB.all λk=>decide ((R0 core k).length<=10))=true:=rfl
  exact of_decide_eq_true (List.all_eq_true.mp key k hk)
theorem Ta(R:Int->List Row)(t k:Int)(l:List Row)(h:k≠t):(up R t l) k=R k:=if_neg h
theorem UQ{k:Int}(h:k=2\/k=4\/k=6\/k=9\/k=43\/k=44\/k=32):k∈aB:=by rcases h with h | h | h | h | h | h | h<;>subst h<;>decide
theorem vm(x:Int):x.fmod 2=0\/x.fmod 2=1:=by
 have h1:0<=x.fmod 2:=Int.fmod_nonneg_of_pos _ (by decide)
 have h2:x.fmod 2<2:=Int.fmod_lt_of_pos _ (by decide)
 omega
theorem BO(x:Int):x.fmod 3=0\/x.fmod 3=1\/x.fmod 3=2:=by
 have h1:0<=x.fmod 3:=Int.fmod_nonneg_of_pos _ (by decide)
 have h2:x.fmod 3<3:=Int.fmod_lt_of_pos _ (by decide)
 omega
section
variable(cf:Nat->List PV->ae->Out PV)
theorem Tc(a b c p q r s t:Option PV)(k:Nat)(hk:k<3)(x:Int)(Z:ae):
  aZ cf aa (.aP (.or (.cons (.cmp .eq (.loc 3) (.k (.int 2))) (.cons (.cmp .eq (.bin .mod (.bin .fdiv (.loc 4) (.k (.int 36))) (.k (.int 2))) (.k (.int 1))) .nil)))
 (.cons (.aA 8 (.k (.int 19)))
 .nil)
 .nil) [a,b,c,some (.int k),some (.int x),p,q,r,some (.int 0),t] Z=
   some (.ok (.next,[a,b,c,some (.int k),some (.int x),p,q,r,some (.int (bU 0 k x).sp),t]),Z):=by
 have hX:(decide ((k:Int)=2)||decide ((x.fdiv 36).fmod 2=1))=decide (k=2\/(x.fdiv 36).fmod 2=1):=by rw[Bool.decide_or,show decide ((k:Int)=2)=decide (k=2) from decide_eq_decide.mpr (Int.ofNat_inj (n:=2))]
 refine(fC (xI (x:=decide ((k:Int)=2)) (y:=decide ((x.fdiv 36).fmod 2=1)) rfl (DS rfl))).trans ?_
 rw[hX]
 by_cases c:k=2\/(x.fdiv 36).fmod 2=1
 ·rw[decide_eq_true c,show (bU 0 k x).sp=19 from if_pos c];rfl
 ·rw[decide_eq_false c,show (bU 0 k x).sp=0 from if_neg c];rfl
theorem Td(a b c s p q r t u:Option PV)(x:Int)(Z:ae):
  aZ cf aa (.aA 9 (.idx (.tup (.cons (.k (.int 5)) (.cons (.k (.int 8)) .nil))) (.bin .mod (.bin .fdiv (.loc 4) (.k (.int 18))) (.k (.int 2))))) [a,b,c,s,some (.int x),p,q,r,t,u] Z=
   some (.ok (.next,[a,b,c,s,some (.int x),p,q,r,t,some (.int (if (x.fdiv 18).fmod 2=1 then 8 else 5))]),Z):=by
 refine dI (bF (x:=.tup [.int 5,.int 8]) (y:=.int ((x.fdiv 18).fmod 2)) rfl rfl ?_)
 rcases vm (x.fdiv 18) with e | e<;>rw[e]<;>rfl
theorem Te(core:Int)(b c p q s9:Option PV)(k:Nat)(hk:k<3)(x:Int)(hs:s9=some (.int (if (x.fdiv 18).fmod 2=1 then 8 else 5)))(Z:ae):
  aZ cf aa (.aP (.and (.cons (.cmp .eq (.loc 3) (.k (.int 0))) (.cons (.cmp .eq (.bin .mod (.bin .fdiv (.loc 4) (.k (.int 9))) (.k (.int 2))) (.k (.int 1))) .nil)))
 (.cons (.aA 7 (.k (.int 17)))
 (.cons (.aP (.and (.cons (.cmp .eq (.loc 0) (.k (.int 1))) (.cons (.cmp .eq (.loc 8) (.k (.int 0))) .nil)))
 (.cons (.aA 9 (.k (.int 0)))
 .nil)
 .nil)
 .nil))
 .nil) [some (.int core),b,c,some (.int k),some (.int x),p,q,some (.int (cl [20,21,2] k)),some (.int (bU 0 k x).sp),s9] Z=
   some (.ok (.next,[some (.int core),b,c,some (.int k),some (.int x),p,q,some (.int (bU core k x).nm),some (.int (bU core k x).sp),some (.int (bU core k x).ex)]),Z):=by
 have h0:decide ((k:Int)=0)=decide (k=0):=decide_eq_decide.mpr (Int.ofNat_inj (n:=0))
 have Tf:(bU 0 k x).sp=(bU core k x).sp:=rfl
 rw[Tf]
 have Tg:(bU core k x).nm=if (decide (k=0)&&decide ((x.fdiv 9).fmod 2=1)) then 17 else cl [20,21,2] k:=rfl
 have hex:(bU core k x).ex=if (decide (k=0)&&decide ((x.fdiv 9).fmod 2=1))&&(decide (core=1)&&decide ((bU core k x).sp=0)) then 0 else (if (x.fdiv 18).fmod 2=1 then 8 else 5):=rfl
 rw[Tg,hex,hs,<-h0]
 generalize (bU core k x).sp=sp
 generalize (if (x.fdiv 18).fmod 2=1 then (8:Int) else 5)=ex
 generalize cl [20,21,2] k=Th
 refine(fC (lE (x:=decide ((k:Int)=0)) (y:=decide ((x.fdiv 9).fmod 2=1)) rfl (oO rfl))).trans ?_
 cases (decide ((k:Int)=0)&&decide ((x.fdiv 9).fmod 2=1)) with
 |false=>rfl
 |true=>
  have e3:aZ cf aa (.aA 7 (.k (.int 17))) [some (.int core),b,c,some (.int k),some (.int x),p,q,some (.int Th),some (.int sp),some (.int ex)] Z=some (.ok (.next,[some (.int core),b,c,some (.int k),some (.int x),p,q,some (.int 17),some (.int sp),some (.int ex)]),Z):=rfl
  refine(eI e3).trans ?_
  have e2:=lE (cf:=cf) (gl:=aa) (Z:=Z) (J:=[some (.int core),b,c,some (.int k),some (.int x),p,q,some (.int 17),some (.int sp),some (.int ex)]) (a:=.cmp .eq (.loc 0) (.k (.int 1))) (b:=.cmp .eq (.loc 8) (.k (.int 0))) (r:=.nil) (x:=decide (core=1)) (y:=decide (sp=0)) rfl (oO rfl)
  refine iL ((fC e2).trans ?_)
  cases (decide (core=1)&&decide (sp=0))<;>rfl
theorem Ti(a b c s p q r t u:Option PV)(x:Int)(Z:ae):
  ag cf aa (.comp (.tup (.cons (.k (.int 6)) (.cons (.bin .add (.k (.int 4)) (.loc 0)) (.cons (.k (.int 1)) .nil)))) (.gA (.bin .mod (.loc 4) (.k (.int 3)))) .no) [a,b,c,s,some (.int x),p,q,r,t,u] Z=some (.ok (.ref Z.length),Z++[.list ((gL (x.fmod 3).toNat).map pr)]):=by
 have hm:ag cf aa (.bin .mod (.loc 4) (.k (.int 3))) [a,b,c,s,some (.int x),p,q,r,t,u] Z=some (.ok (.int (x.fmod 3)),Z):=rfl
 rcases BO x with e | e | e<;>rw[e] at hm⊢ <;>exact lD (rx hm rfl) rfl
theorem Q8(a b c s p q r t u:Option PV)(x:Int)(Z:ae):
  ag cf aa (.comp (.tup (.cons (.bin .add (.k (.int 25)) (.loc 0)) (.cons (.k (.int 0)) (.cons (.k (.int 6)) (.cons (.k (.int 11)) (.cons (.bin .add (.k (.int 4)) (.loc 0)) (.cons (.k (.int 7)) .nil))))))) (.gA (.bin .mod (.bin .fdiv (.loc 4) (.k (.int 3))) (.k (.int 3)))) .no) [a,b,c,s,some (.int x),p,q,r,t,u] Z=some (.ok (.ref Z.length),Z++[.list ((gM ((x.fdiv 3).fmod 3).toNat).map pr)]):=by
 have hm:ag cf aa (.bin .mod (.bin .fdiv (.loc 4) (.k (.int 3))) (.k (.int 3))) [a,b,c,s,some (.int x),p,q,r,t,u] Z=some (.ok (.int ((x.fdiv 3).fmod 3)),Z):=rfl
 rcases BO (x.fdiv 3) with e | e | e<;>rw[e] at hm⊢ <;>exact lD (rx hm rfl) rfl
end
section
variable(cf:Nat->List PV->ae->Out PV)
theorem cB{R:Int->List Row}{t k:Int}{l:List Row}(h:k≠t):up R t l k=R k:=if_neg h
theorem up_eq{R:Int->List Row}{t:Int}{l:List Row}:up R t l t=l:=if_pos rfl
theorem tE{cf:Nat->List PV->ae->Out PV}{J:Loc}{Z:ae}{a b:ME}{x y:Int}(ha:ag cf aa a J Z=some (.ok (.int x),Z))(hb:ag cf aa b J Z=some (.ok (.int y),Z)):
  ag cf aa (.tup (.cons a (.cons b .nil))) J Z=some (.ok (pr [x,y]),Z):=by
 exact aC (v:=[.int x,.int y]) (aC ha (aC (v:=[.int y]) (aC hb rfl) rfl)) rfl
theorem xO{cf:Nat->List PV->ae->Out PV}{J:Loc}{Z:ae}{a:ME}{x c:Int}(ha:ag cf aa a J Z=some (.ok (.int x),Z))(hs:small x=true):
  ag cf aa (.bin .mul a (.k (.int c))) J Z=some (.ok (.int (x*c)),Z):=by
 exact cO ha rfl (congrArg (λq=>az q (some (x*c))) hs)
theorem uv(n:Nat):(gL n).length<=2:=by rcases n with _ | _ | n<;>exact Nat.le_of_ble_eq_true rfl
theorem uw(n:Nat):(gM n).length<=2:=by rcases n with _ | _ | n<;>exact Nat.le_of_ble_eq_true rfl
theorem Tj(k:Nat)(hk:k<3)(P:Int)(hP:P=k)(Z:ae):index (.tup [.int 20,.int 21,.int 2]) (.int P) Z=some (.int (cl [20,21,2] k)):=by
 subst hP
 rcases k with _ | _ | _ | k
 ·rfl
 ·rfl
 ·rfl
 ·exact absurd hk (Nat.not_lt.mpr (Nat.le_add_left 3 k))
theorem Q9(a b c p q r s t:Option PV)(k:Nat)(hk:k<3)(P:Int)(hP:P=k)(x:Int)(Z:ae):
  aZ cf aa (.aP (.or (.cons (.cmp .eq (.loc 3) (.k (.int 2))) (.cons (.cmp .eq (.bin .mod (.bin .fdiv (.loc 4) (.k (.int 36))) (.k (.int 2))) (.k (.int 1))) .nil)))
 (.cons (.aA 8 (.k (.int 19)))
 .nil)
 .nil) [a,b,c,some (.int P),some (.int x),p,q,r,some (.int 0),t] Z=
   some (.ok (.next,[a,b,c,some (.int P),some (.int x),p,q,r,some (.int (bU 0 k x).sp),t]),Z):=by subst hP;exact Tc cf a b c p q r s t k hk x Z
theorem Ra(core:Int)(b c p q s9:Option PV)(k:Nat)(hk:k<3)(P:Int)(hP:P=k)(x:Int)(hs:s9=some (.int (if (x.fdiv 18).fmod 2=1 then 8 else 5)))(Z:ae):
  aZ cf aa (.aP (.and (.cons (.cmp .eq (.loc 3) (.k (.int 0))) (.cons (.cmp .eq (.bin .mod (.bin .fdiv (.loc 4) (.k (.int 9))) (.k (.int 2))) (.k (.int 1))) .nil)))
 (.cons (.aA 7 (.k (.int 17)))
 (.cons (.aP (.and (.cons (.cmp .eq (.loc 0) (.k (.int 1))) (.cons (.cmp .eq (.loc 8) (.k (.int 0))) .nil)))
 (.cons (.aA 9 (.k (.int 0)))
 .nil)
 .nil)
 .nil))
 .nil) [some (.int core),b,c,some (.int P),some (.int x),p,q,some (.int (cl [20,21,2] k)),some (.int (bU 0 k x).sp),s9] Z=
   some (.ok (.next,[some (.int core),b,c,some (.int P),some (.int x),p,q,some (.int (bU core k x).nm),some (.int (bU core k x).sp),some (.int (bU core k x).ex)]),Z):=by subst hP;exact Te cf core b c p q s9 k hk x hs Z
noncomputable def qU(core:Int)(e d:Nat)(v:Nat->Option PV):Loc:=[some (.int core),some (.ref e),some (.ref d),v 0,v 1,v 2,v 3,v 4,v 5,v 6]
noncomputable def D3(l:Loc)(i:Nat):Option PV:=l.getD i none
theorem Ju{d n0 b e:Nat}{loc:Int->Nat}{R:Int->List Row}{Z:ae}(core:Int)(h:RD d n0 b aB loc R Z)(hb:b<=50000)(k:Nat)(hk:k<3)(P:Int)(hP:P=k)(x:Int)(p q r s t:Option PV):
  ∃v af,ak cf aa rk [some (.int core),some (.ref e),some (.ref d),some (.int P),some (.int x),p,q,r,s,t] Z=some (.ok (.next,qU core e d v),af)/\
   (∃aY,RD d n0 (b+5) aB aY (oz R (bU core k x)) af)/\Fr n0 Z af:=by
 have Hq:b+1<=60000:=Nat.le_trans (Nat.add_le_add_right hb 1) (by decide)
 have Tn:b+1+2<=60000:=Nat.le_trans (Nat.add_le_add_right hb 3) (by decide)
 have MJ:b<=60000:=Nat.le_of_succ_le Hq
 have h1:=h.push (k:=2) (by decide) [1,(bU core k x).nm,(bU core k x).sp,(bU core k x).ex,len R 4+1,len R 6+1]
 have Pm:=Fr.set (n:=n0) Z (.list ((R 2).map pr++[pr [1,(bU core k x).nm,(bU core k x).sp,(bU core k x).ex,len R 4+1,len R 6+1]])) (h.nl 2 (by decide))
 obtain ⟨eF,aU,e2,h2,Pn⟩:=h1.cat (cf:=cf) (gl:=aa) (i:=2) (k:=4) (J:=[some (.int core),some (.ref e),some (.ref d),some (.int P),some (.int x),some (.int (len R 4+1)),some (.int (len R 6+1)),some (.int (bU core k x).nm),some (.int (bU core k x).sp),some (.int (bU core k x).ex)]) Hq rfl (by decide) (uv _) (Ti cf _ _ _ _ _ _ _ _ _ x _)
 obtain ⟨Rb,lQ,e3,h3,Po⟩:=h2.cat (cf:=cf) (gl:=aa) (i:=2) (k:=6) (J:=[some (.int core),some (.ref e),some (.ref d),some (.int P),some (.int x),some (.int (len R 4+1)),some (.int (len R 6+1)),some (.int (bU core k x).nm),some (.int (bU core k x).sp),some (.int (bU core k x).ex)]) Tn rfl (by decide) (uw _) (Q8 cf _ _ _ _ _ _ _ _ _ x _)
 refine⟨D3 [some (.int P),some (.int x),some (.int (len R 4+1)),some (.int (len R 6+1)),some (.int (bU core k x).nm),some (.int (bU core k x).sp),some (.int (bU core k x).ex)],lQ,?_,⟨Rb,?_⟩,(Pm.trans Pn).trans Po⟩
 ·clear h1 h2 h3 Pm Pn Po
  refine aG (dI (cO (h.len MJ rfl (by decide)) rfl rfl)) (aG (dI (cO (h.len MJ rfl (by decide)) rfl rfl)) ?_)
  refine aG (dI (bF (x:=.tup [.int 20,.int 21,.int 2]) (y:=.int P) rfl rfl (Tj k hk P hP Z))) (aG (dI (u:=.int 0) (ai:=Z) rfl) ?_)
  refine aG (Q9 cf _ _ _ _ _ _ none _ k hk P hP x Z) (aG (Td cf _ _ _ _ _ _ _ _ _ x Z) (aG (Ra cf core _ _ _ _ _ k hk P hP x rfl Z) ?_))
  exact aG (h.app MJ rfl (by decide) (r:=[1,(bU core k x).nm,(bU core k x).sp,(bU core k x).ex,len R 4+1,len R 6+1]) rfl) (aG e2 (aG e3 rfl))
 ·rw[cB (R:=R) (t:=2) (k:=4) (by decide),cB (t:=4) (k:=6) (by decide),cB (R:=R) (t:=2) (k:=6) (by decide)] at h3
  exact h3
theorem y6(core:Int)(x:Int)(xs:List Int):∀(j:Nat)(R:Int->List Row),eY core j (xs++[x]) R=oz (eY core j xs R) (bU core (j+xs.length) x):=by
 induction xs with
 |nil=>exact λO O=>rfl
 |cons y xs ih=>exact λj R=>(ih (j+1) (oz R (bU core j y))).trans (by rw[List.length_cons,Nat.succ_add_eq_add_succ];rfl)
theorem Jv{d n0 e:Nat}{loc:Int->Nat}{Z:ae}(core:Int)(xs:List Int)(hx:xs.length<=3)(R:Int->List Row)(h:RD d n0 10 aB loc R Z)(he:e<n0)(hs:aj Z e=some (.list (xs.map .int)))(v:Nat->Option PV):
  ∃v' af,aZ cf aa (.ba (.many [3,4]) (.enum (.loc 1)) rk) (qU core e d v) Z=some (.ok (.next,qU core e d v'),af)/\(∃aY,RD d n0 25 aB aY (eY core 0 xs R) af)/\Fr n0 Z af:=by
 have hf:=lV (body:=ak cf aa rk) (t:=.many [3,4]) (en:=true) (src:=.live e) (l:=xs.map .int)
  (Inv:=λk J af=>(∃aY,RD d n0 (10+5*k) aB aY (eY core 0 (xs.take k) R) af)/\Fr n0 Z af/\∃v,J=qU core e d v)
  (λk J af hi=>lW (hi.2.1.get hs he)) ?_ xs.length 0 (qU core e d v) Z ((Nat.zero_add _).trans (List.length_map _).symm) ⟨⟨loc,by rw[List.take_zero];exact h⟩,Fr.refl _ _,v,rfl⟩
 ·obtain ⟨aN,af,e1,⟨aY,h1⟩,h2,v',rfl⟩:=hf
  rw[List.length_map,List.take_length] at h1
  refine⟨v',af,(jL (EE (v:=.ref e) rfl (fR hs))).trans ?_,⟨aY,h1.mono (Nat.add_le_add_left (Nat.mul_le_mul_left 5 hx) 10)⟩,h2⟩
  rw[eZ hs,List.length_map]
  exact e1
 ·intro k x J ai Pp hi
  obtain ⟨⟨fj,hr⟩,fr,v,rfl⟩:=hi
  rw[List.getElem?_map] at Pp
  obtain ⟨y,hy,rfl⟩:=Option.map_eq_some_iff.mp Pp
  have cZ:=(List.getElem?_eq_some_iff.mp hy).1
  have Pq:=Nat.lt_of_lt_of_le cZ hx
  refine⟨_,rfl,?_⟩
  obtain ⟨v',af,e1,⟨aY,h1⟩,h2⟩:=Ju cf (e:=e) core hr (Nat.le_trans (Nat.add_le_add_left (Nat.mul_le_mul_left 5 (Nat.le_of_lt Pq)) 10) (by decide)) k Pq k rfl y (v 2) (v 3) (v 4) (v 5) (v 6)
  refine⟨_,af,e1,⟨aY,?_⟩,fr.trans h2,v',rfl⟩
  rw[List.take_add_one,hy,Option.toList_some,y6,List.length_take,Nat.zero_add,Nat.min_eq_left (Nat.le_of_lt cZ)]
  exact h1
noncomputable def cP(core:Int)(xs:List Int):Int->List Row:=if xs=[] then eY core 0 xs (R0 core) else tail3 (eY core 0 xs (R0 core))
theorem Jw{d n0 e:Nat}{loc:Int->Nat}{R:Int->List Row}{Z:ae}{core:Int}(v:Nat->Option PV)(h2:RD d n0 25 aB loc R Z):∃eG,ak cf aa (.cons (.expr (.aK (.idx (.loc 2) (.k (.int 9))) 2 (.cons (.tup (.cons (.aF .len (.idx (.loc 2) (.k (.int 2)))) (.cons (.bin .mul (.aF .len (.idx (.loc 2) (.k (.int 2)))) (.k (.int 4))) .nil))) .nil)))
 (.cons (.expr (.aK (.idx (.loc 2) (.k (.int 43))) 2 (.cons (.tup (.cons (.bin .mul (.aF .len (.idx (.loc 2) (.k (.int 6)))) (.k (.int 2))) (.cons (.k (.int 8)) .nil))) .nil)))
 (.cons (.expr (.aK (.idx (.loc 2) (.k (.int 44))) 2 (.cons (.tup (.cons (.k (.int 3)) (.cons (.bin .mul (.aF .len (.idx (.loc 2) (.k (.int 2)))) (.k (.int 4))) .nil))) .nil)))
 .nil))) (qU core e d v) Z=some (.ok (.next,qU core e d v),eG)/\RD d n0 30 aB loc (tail3 R) eG/\Fr n0 Z eG:=by
 have sm:∀t∈aB,small (len R t)=true:=λt ht=>dy (Int.le_trans (by decide) (Int.natCast_nonneg _)) (Int.le_trans (Int.ofNat_le.mpr (h2.ln t ht)) (by decide))
 have h3:=h2.push (k:=9) (by decide) [len R 2,len R 2*4]
 have h4:=h3.push (k:=43) (by decide) [len R 6*2,8]
 have h5:=h4.push (k:=44) (by decide) [3,len R 2*4]
 refine⟨_,aG (h2.app (by decide) rfl (by decide) (r:=[len R 2,len R 2*4]) (tE (h2.len (by decide) rfl (by decide)) (xO (h2.len (by decide) rfl (by decide)) (sm 2 (by decide)))))
  (aG (h3.app (by decide) rfl (by decide) (r:=[len R 6*2,8]) (tE (xO (h3.len (by decide) rfl (by decide)) (sm 6 (by decide))) rfl))
  (aG (h4.app (by decide) rfl (by decide) (r:=[3,len R 2*4]) (tE rfl (xO (h4.len (by decide) rfl (by decide)) (sm 2 (by decide))))) rfl)),?_,((Fr.set _ _ (h2.nl 9 (by decide))).trans (Fr.set _ _ (h3.nl 43 (by decide)))).trans (Fr.set _ _ (h4.nl 44 (by decide)))⟩
 have Pu:=h5.mono (show 25+1+1+1<=30 by decide)
 rw[cB (R:=R) (t:=9) (k:=43) (by decide),cB (t:=43) (k:=44) (by decide),cB (R:=R) (t:=9) (k:=44) (by decide)] at Pu
 exact Pu
theorem D4(core:Int)(xs:List Int)(hx:xs.length<=3)(e:Nat)(Z:ae)(hs:aj Z e=some (.list (xs.map .int))):
  ∃J af d loc,ak cf aa pH.body [some (.int core),some (.ref e),none,none,none,none,none,none,none,none] Z=some (.ok (.ret (.ref d),J),af)/\RD d Z.length 30 aB loc (cP core xs) af/\Fr Z.length Z af:=by
 obtain ⟨loc,ai,e1,h1,f1⟩:=Jt cf core (some (.ref e)::List.replicate 8 none) Z
 have he:=bh _ _ _ hs
 obtain ⟨v2,aU,e2,⟨eF,h2⟩,f2⟩:=Jv cf (e:=e) core xs hx (R0 core) h1 he (f1.get hs he) λO=>none
 have Tp:=f2.get (f1.get hs he) he
 have ht:=zh Tp (map_fits (Nat.le_trans hx (by decide)))
 by_cases hz:xs=[]
 ·subst hz
  exact⟨_,aU,_,eF,aG e1 (aG e2 (aG ((fC (u:=.ref e) (ai:=aU) rfl).trans (by rw[ht];rfl)) (y_ret rfl))),by rw[cP,if_pos rfl];exact h2.mono (by decide),f1.trans f2⟩
 ·obtain ⟨eG,e5,h5,f5⟩:=Jw cf (e:=e) (core:=core) v2 h2
  have hb:(!(xs.map PV.int).isEmpty)=true:=by
   cases xs with
   |nil=>exact absurd rfl hz
   |cons y ys=>rfl
  rw[hb] at ht
  exact⟨_,eG,_,eF,aG e1 (aG e2 (aG ((fC (u:=.ref e) (ai:=aU) rfl).trans (by rw[ht];exact e5)) (y_ret rfl))),by rw[cP,if_neg hz];exact h5,(f1.trans f2).trans f5⟩
end
theorem Gb(n:Nat)(core:Int)(xs:List Int)(hx:xs.length<=3)(e:Nat)(Z:ae)(hs:aj Z e=some (.list (xs.map .int))):
  ∃af d loc,ar ah aa (n+1) 37 [.int core,.ref e] Z=some (.ok (.ref d),af)/\RD d Z.length 30 aB loc (cP core xs) af/\Fr Z.length Z af:=by
 obtain ⟨J,af,d,loc,h,r⟩:=D4 (ar ah aa n) core xs hx e Z hs
 exact⟨af,d,loc,bA rfl rfl h,r⟩
noncomputable def Pw(R:Int->List Row):Ev->Int
 |.i x=>x
 |.T=>len R 2+1
 |.M=>len R 6+1
 |.r _=>0
noncomputable def Ow:Ev->Row
 |.r row=>row
 |_=>[]
noncomputable def setAt(p:Nat)(v:Int)(r:Row):Row:=r.take p++[v]++r.drop (p+1)
noncomputable def sq(R:Int->List Row)(e:Ed):List Row:=
 if e.p= -1 then R e.t++[Ow e.v]
 else if e.p= -2 then (R e.t).take ((R e.t).length-1)
 else (R e.t).take (e.row-1).toNat++[setAt e.p.toNat (Pw R e.v) ((R e.t).getD (e.row-1).toNat [])]++(R e.t).drop e.row.toNat
noncomputable def fx(R:Int->List Row)(e:Ed):Int->List Row:=up R e.t (sq R e)
noncomputable def tF(R:Int->List Row)(e:Ed):Bool:=
 decide (e.t∈aB)&&(match e.v with
 |.r _=>decide (e.p= -1)
 |_=>decide (e.p= -2)||(decide (0<=e.p)&&(decide (e.p<((R e.t).getD (e.row-1).toNat []).length)&&(decide (1<=e.row)&&decide (e.row<=len R e.t)))))
theorem HC{R:Int->List Row}{e:Ed}(he:tF R e=true):e.t∈aB:=of_decide_eq_true (Bool.and_eq_true_iff.mp he).1
theorem xP{R:Int->List Row}{t row p:Int}{v:Ev}{P:Prop}(he:tF R ⟨t,row,p,v⟩=true)(A:∀r,v=.r r->p= -1->P)(B:p= -2->P)
  (C:(∀r,v≠ .r r)->0<=p->p<((R t).getD (row-1).toNat []).length->1<=row->row<=len R t->P):P:=by
 have he:=(Bool.and_eq_true_iff.mp he).2
 have go:(∀r,v≠ .r r)->(decide (p= -2)||(decide (0<=p)&&(decide (p<((R t).getD (row-1).toNat []).length)&&(decide (1<=row)&&decide (row<=len R t)))))=true->P:=λhv q=>(Bool.or_eq_true_iff.mp q).elim (λh=>B (of_decide_eq_true h)) λq=>
  C hv (of_decide_eq_true (Bool.and_eq_true_iff.mp q).1) (of_decide_eq_true (Bool.and_eq_true_iff.mp (Bool.and_eq_true_iff.mp q).2).1) (of_decide_eq_true (Bool.and_eq_true_iff.mp (Bool.and_eq_true_iff.mp (Bool.and_eq_true_iff.mp q).2).2).1) (of_decide_eq_true (Bool.and_eq_true_iff.mp (Bool.and_eq_true_iff.mp (Bool.and_eq_true_iff.mp q).2).2).2)
 cases v with
 |r r=>exact A r rfl (of_decide_eq_true he)
 |i x=>exact go (λO h=>Ev.noConfusion h) he
 |T=>exact go (λO h=>Ev.noConfusion h) he
 |M=>exact go (λO h=>Ev.noConfusion h) he
section
variable{cf:Nat->List PV->ae->Out PV}{J:Loc}{Z ai aU:ae}
theorem D5{X jo:ME}{a b:Nat}{x y:List PV}(h1:ag cf aa X J Z=some (.ok (.ref a),ai))(h2:ag cf aa jo J ai=some (.ok (.ref b),aU))(ga:aj aU a=some (.list x))(gb:aj aU b=some (.list y))(hf:fits (x++y)=true):
  ag cf aa (.bin .add X jo) J Z=some (.ok (.ref aU.length),aU++[.list (x++y)]):=aC h1 (aC h2 (congrArg FR.lift (add_lists ga gb hf)))
theorem MK{v:PV}{l:List PV}{u w:Option PV}{i j:Nat}(hv:items Z v=some l)(hf:fits l=true)(ly:clamp l.length 0 u=some i)(hj:clamp l.length l.length w=some j):cut v u w Z=match di v with
  |some _=>some (.tup ((l.drop i).take (j-i)),Z)
  |.none=>some (.ref Z.length,Z++[.list ((l.drop i).take (j-i))]):=by
 show ((items Z v).bind λl=>az (fits l) ((clamp l.length 0 u).bind λi=>(clamp l.length l.length w).bind λj=>
  match di v with
  |some _=>some (PV.tup ((l.drop i).take (j-i)),Z)
  |.none=>some (PV.ref Z.length,Z++[.list ((l.drop i).take (j-i))])))=_
 rw[hv]
 show az (fits l) ((clamp l.length 0 u).bind λi=>(clamp l.length l.length w).bind λj=>match di v with | some _=>some (PV.tup ((l.drop i).take (j-i)),Z) | .none=>some (.ref Z.length,Z++[.list ((l.drop i).take (j-i))]))=_
 rw[hf,ly,hj];rfl
theorem oA{X:ME}{v:PV}{l:List PV}{lo hi:fm}{u w:Option PV}{i j:Nat}{r:PV×ae}(h1:ag cf aa X J Z=some (.ok v,ai))(hv:items ai v=some l)(h2:cV cf aa lo J ai=some (.ok u,ai))(h3:cV cf aa hi J ai=some (.ok w,ai))
  (hf:fits l=true) (ly:clamp l.length 0 u=some i) (hj:clamp l.length l.length w=some j) (hr:(match di v with | some _=>some (PV.tup ((l.drop i).take (j-i)),ai) | .none=>some (.ref ai.length,ai++[.list ((l.drop i).take (j-i))]))=some r):ag cf aa (.slice X lo hi) J Z=some (.ok r.1,r.2):=by
 show au (ag cf aa X J Z) (λx Z=>au (cV cf aa lo J Z) λlo Z=>au (cV cf aa hi J Z) λhi Z=>FR.lift (cut x lo hi Z))=_
 rw[h1]
 show au (cV cf aa lo J ai) (λlo Z=>au (cV cf aa hi J Z) λhi Z=>FR.lift (cut v lo hi Z))=_
 rw[h2]
 show au (cV cf aa hi J ai) (λhi Z=>FR.lift (cut v u hi Z))=_
 rw[h3]
 show FR.lift (cut v u w ai)=_
 rw[MK hv hf ly hj,hr];rfl
theorem zR{X:ME}{l:List PV}{lo hi:fm}{u v:Option PV}{i j:Nat}(h1:ag cf aa X J Z=some (.ok (.tup l),Z))(h2:cV cf aa lo J Z=some (.ok u,Z))(h3:cV cf aa hi J Z=some (.ok v,Z))
  (hf:fits l=true) (ly:clamp l.length 0 u=some i) (hj:clamp l.length l.length v=some j):ag cf aa (.slice X lo hi) J Z=some (.ok (.tup ((l.drop i).take (j-i))),Z):=oA h1 rfl h2 h3 hf ly hj rfl
theorem zS{X jo:ME}{x y:List PV}(h1:ag cf aa X J Z=some (.ok (.tup x),Z))(h2:ag cf aa jo J Z=some (.ok (.tup y),Z))(hf:fits (x++y)=true):
  ag cf aa (.bin .add X jo) J Z=some (.ok (.tup (x++y)),Z):=aC h1 (aC h2 (congrArg (λq=>FR.lift (az q (some (PV.tup (x++y),Z)))) hf))
theorem kr{n d:Nat}{k:Int}(h:0<=k)(hn:k<=n):clamp n d (some (.int k))=some k.toNat:=congrArg some (PyProof.Rows.clipAt_in h hn)
theorem qV{α:Type}(l:List α)(i:Nat):(l.drop i).take (l.length-i)=l.drop i:=by rw[List.take_of_length_le (Nat.le_of_eq List.length_drop)]
noncomputable def LR(cf:Nat->List PV->ae->Out PV)(J:Loc)(e:ME)(l:List PV)(Z:ae):Prop:=∃i x,ag cf aa e J Z=some (.ok (.ref i),Z++x)/\aj (Z++x) i=some (.list l)
noncomputable def LN(cf:Nat->List PV->ae->Out PV)(J:Loc)(e:ME)(l:List PV)(Z:ae):Prop:=∃i x,ag cf aa e J Z=some (.ok (.ref i),Z++x)/\aj (Z++x) i=some (.list l)/\Z.length<=i
theorem LN.r{e:ME}{l:List PV}(h:LN cf J e l Z):LR cf J e l Z:=h.imp λO=>Exists.imp λO h=>⟨h.1,h.2.1⟩
theorem LN.one{e:ME}{l:List PV}(h:ag cf aa e J Z=some (.ok (.ref Z.length),Z++[.list l])):LN cf J e l Z:=⟨_,_,h,bz _ _,Nat.le_refl _⟩
theorem LN.list1{X:ME}{x:PV}(h:ag cf aa X J Z=some (.ok x,Z)):LN cf J (.list (.cons X .nil)) [x] Z:=.one (aC (v:=[x]) (aC h rfl) rfl)
theorem LN.add{X jo:ME}{a b:List PV}(h1:LR cf J X a Z)(h2:∀x,LR cf J jo b (Z++x))(hf:fits (a++b)=true):LN cf J (.bin .add X jo) (a++b) Z:=by
 obtain ⟨i,x,e1,g1⟩:=h1
 obtain ⟨j,y,e2,g2⟩:=h2 x
 have q:(Z++x++y)++[MO.list (a++b)]=Z++(x++(y++[.list (a++b)])):=by rw[List.append_assoc,List.append_assoc]
 exact⟨(Z++x++y).length,x++(y++[.list (a++b)]),q▸D5 e1 e2 (bG _ _ _ _ g1) g2 hf,q▸bz _ _,by rw[List.length_append,List.length_append,Nat.add_assoc];exact Nat.le_add_right _ _⟩
theorem LN.cut{X:ME}{a:Nat}{l:List PV}{lo hi:fm}{u v:Option PV}{i j:Nat}(h1:ag cf aa X J Z=some (.ok (.ref a),Z))(ga:aj Z a=some (.list l))(h2:cV cf aa lo J Z=some (.ok u,Z))(h3:cV cf aa hi J Z=some (.ok v,Z))
  (hf:fits l=true) (ly:clamp l.length 0 u=some i) (hj:clamp l.length l.length v=some j):LN cf J (.slice X lo hi) ((l.drop i).take (j-i)) Z:=.one (oA h1 (congrArg (λo=>Option.bind o cL) ga) h2 h3 hf ly hj rfl)
theorem RD.set{d n0 b b':Nat}{loc:Int->Nat}{R:Int->List Row}(h:RD d n0 b aB loc R Z){t:Int}(ht:t∈aB){e:ME}{l:List Row}(he:LN cf J e (l.map pr) Z)(hb:b<=b')(hl:l.length<=b')(l0:bo J 0=some (.ref d))(l1:bo J 1=some (.int t)):
  ∃aY af,aZ cf aa (.bP (.loc 0) (.loc 1) e) J Z=some (.ok (.next,J),af)/\RD d n0 b' aB aY (up R t l) af/\Fr n0 Z af:=by
 obtain ⟨i,x,he,hg,hi⟩:=he
 have hn:n0<=Z.length:=Nat.le_trans h.nd (Nat.le_of_lt (bh _ _ _ h.dict))
 refine⟨_,_,?_,h.put ht (bG Z x) hi (Nat.le_trans hn hi) hg hb hl,(Fr.app Z x hn).trans (Fr.set _ _ h.nd)⟩
 show au (ag cf aa e J Z) (λv Z=>au (FR.read Z (bo J 0)) λa Z=>au (FR.read Z (bo J 1)) λi Z=>FR.put J (setItem a i v Z))=_
 rw[he,l0,l1]
 show FR.put J (setItem (.ref d) (.int t) (.ref i) (Z++x))=_
 rw[nH (bG Z x _ _ h.dict) (y:=.int t) rfl (map_fits (Nat.le_trans h.lk (by decide)))];rfl
theorem dU{c:ME}{A B:bq}(b:Bool)(hc:ag cf aa c J Z=some (.ok (.bool b),Z)):aZ cf aa (.aP c A B) J Z=bif b then ak cf aa A J Z else ak cf aa B J Z:=(fC hc).trans (by cases b<;>rfl)
theorem ku{X jo:ME}{x y:Int}(h1:ag cf aa X J Z=some (.ok (.int x),Z))(h2:ag cf aa jo J Z=some (.ok (.int y),Z)):ag cf aa (.cmp .eq X jo) J Z=some (.ok (.bool (decide (x=y))),Z):=dQ h1 h2 rfl
end
noncomputable abbrev jy(d:Nat)(t row p:Int)(v:PV)(o:Option PV):Loc:=[some (.ref d),some (.int t),some (.int row),some (.int p),some v,o]
noncomputable def iD(cf:Nat->List PV->ae->Out PV)(d n0 b:Nat)(R:Int->List Row)(Z:ae)(ss:bq)(J:Loc)(t:Int)(l:List Row):Prop:=∃aN af aY,ak cf aa ss J Z=some (.ok (.next,aN),af)/\RD d n0 b aB aY (up R t l) af/\Fr n0 Z af
section
variable(cf:Nat->List PV->ae->Out PV){d n0 b:Nat}{loc:Int->Nat}{R:Int->List Row}{Z:ae}
theorem qW(h:RD d n0 b aB loc R Z){t row p:Int}{v:PV}{o:Option PV}(ht:t∈aB){e:ME}{l:List Row}(he:LN cf (jy d t row p v o) e (l.map pr) Z)(hl:l.length<=b+1):iD cf d n0 (b+1) R Z (.cons (.bP (.loc 0) (.loc 1) e) .nil) (jy d t row p v o) t l:=by
 obtain ⟨aY,af,e1,h1,f1⟩:=h.set ht he (Nat.le_succ b) hl rfl rfl
 exact⟨_,af,aY,aG e1 rfl,h1,f1⟩
theorem iD.one{A B:bq}{c:ME}{J:Loc}{t:Int}{l:List Row}{x:Bool}(hc:ag cf aa c J Z=some (.ok (.bool x),Z))(h:iD cf d n0 b R Z (bif x then A else B) J t l):iD cf d n0 b R Z (.cons (.aP c A B) .nil) J t l:=by
 obtain ⟨aN,af,aY,e,r⟩:=h
 refine⟨aN,af,aY,iL ((dU x hc).trans ?_),r⟩
 cases x<;>exact e
theorem sr(h:RD d n0 b aB loc R Z){t row p:Int}{v:PV}{o:Option PV}(ht:t∈aB)(x:ae):ag cf aa (.idx (.loc 0) (.loc 1)) (jy d t row p v o) (Z++x)=some (.ok (.ref (loc t)),Z++x):=bF (x:=.ref d) (y:=.int t) rfl rfl ((h.keep (bG Z x)).get ht)
theorem lX(h:RD d n0 b aB loc R Z)(hb:b<=30000){t:Int}(ht:t∈aB){l:List Row}(hl:l.length<=b+10):fits (l.map pr)=true:=map_fits (Nat.le_trans hl (Nat.le_trans (Nat.add_le_add_right hb 10) (by decide)))
theorem D6(h:RD d n0 b aB loc R Z)(hb:b<=30000){t row p x:Int}(ht:t∈aB)(hw:∀r∈R t,r.length<=9)(ML:0<=p)(hp:p<((R t).getD (row-1).toNat []).length)(Px:1<=row)(G9:row<=len R t):
  iD cf d n0 (b+1) R Z (.cons (.aA 5 (.idx (.idx (.loc 0) (.loc 1)) (.bin .sub (.loc 2) (.k (.int 1))))) (.cons (.bP (.loc 0) (.loc 1) (.bin .add (.bin .add (.slice (.idx (.loc 0) (.loc 1)) .no (.yes (.bin .sub (.loc 2) (.k (.int 1))))) (.list (.cons (.bin .add (.bin .add (.slice (.loc 5) .no (.yes (.loc 3))) (.tup (.cons (.loc 4) .nil))) (.slice (.loc 5) (.yes (.bin .add (.loc 3) (.k (.int 1)))) .no)) .nil))) (.slice (.idx (.loc 0) (.loc 1)) (.yes (.loc 2)) .no))) .nil)) (jy d t row p (.int x) none) t
   ((R t).take (row-1).toNat++[setAt p.toNat x ((R t).getD (row-1).toNat [])]++(R t).drop row.toNat):=by
 have D7:0<=row-1:=Int.sub_nonneg_of_le Px
 have MM:row-1<((R t).length:Int):=Int.lt_of_lt_of_le (Int.sub_lt_self row (by decide)) G9
 have cZ:(row-1).toNat<(R t).length:=(Int.toNat_lt D7).mpr MM
 have xQ:row.toNat<=(R t).length:=Int.toNat_le.mpr G9
 have Py:row.toNat=(row-1).toNat+1:=by omega
 have jZ:=h.at_ t ht
 have MN:=h.ln t ht
 have MP:fits ((R t).map pr)=true:=lX h hb ht (Nat.le_trans MN (Nat.le_add_right b 10))
 have MQ:(((R t).map pr).length:Int)=(R t).length:=by rw[List.length_map]
 have hg:(R t)[(row-1).toNat]? =some ((R t).getD (row-1).toNat []):=by rw[List.getD_eq_getElem?_getD,List.getElem?_eq_getElem cZ];rfl
 generalize (R t).getD (row-1).toNat []=old at hp hg⊢
 have HD:=hw _ (List.mem_of_getElem? hg)
 have Tq:index (.ref (loc t)) (.int (row-1)) Z=some (pr old):=by
  rw[f9 jZ,gc D7 (MQ▸MM) MP,nth_get?,List.getElem?_map,hg];rfl
 have Pz:fits (old.map PV.int)=true:=map_fits (Nat.le_trans HD (by decide))
 have Ts:p<=((old.map PV.int).length:Int):=by rw[List.length_map];exact Int.le_of_lt hp
 have Rc:p+1<=((old.map PV.int).length:Int):=by rw[List.length_map];exact hp
 have e1:(p+1).toNat=p.toNat+1:=Int.toNat_add ML (by decide)
 have en:∀y,ag cf aa (.bin .add (.bin .add (.slice (.loc 5) .no (.yes (.loc 3))) (.tup (.cons (.loc 4) .nil))) (.slice (.loc 5) (.yes (.bin .add (.loc 3) (.k (.int 1)))) .no)) (jy d t row p (.int x) (some (pr old))) (Z++y)=some (.ok (pr (setAt p.toNat x old)),Z++y):=λy=>by
  have a1:=zR (cf:=cf) (Z:=Z++y) (J:=jy d t row p (.int x) (some (pr old))) (X:=.loc 5) (l:=old.map .int) (lo:=.no) (hi:=.yes (.loc 3)) (u:=.none) (v:=some (.int p)) (i:=0) rfl rfl rfl Pz rfl (kr ML Ts)
  have a2:=zR (cf:=cf) (Z:=Z++y) (J:=jy d t row p (.int x) (some (pr old))) (X:=.loc 5) (l:=old.map .int) (lo:=.yes (.bin .add (.loc 3) (.k (.int 1)))) (hi:=.no) (u:=some (.int (p+1))) (v:=.none) (j:=(old.map PV.int).length) rfl rfl rfl Pz (kr (Int.le_trans ML (Int.le_add_of_nonneg_right (by decide))) Rc) rfl
  rw[qV] at a2
  have q:(((old.map PV.int).drop 0).take (p.toNat-0)++[PV.int x])++(old.map PV.int).drop (p+1).toNat=(setAt p.toNat x old).map .int:=by
   rw[setAt,List.map_append,List.map_append,List.map_take,List.map_drop,e1];rfl
  have ql:(setAt p.toNat x old).length<=20:=by
   rw[setAt,List.length_append,List.length_append,List.length_take,List.length_drop]
   exact Nat.le_trans (Nat.add_le_add (Nat.add_le_add (Nat.min_le_right _ _) (Nat.le_refl 1)) (Nat.sub_le _ _)) (Nat.le_trans (Nat.add_le_add (Nat.add_le_add HD (Nat.le_refl 1)) HD) (by decide))
  have a3:=zS a1 (jo:=.tup (.cons (.loc 4) .nil)) (y:=[.int x]) rfl (fits_of (b:=10) (by rw[List.length_append,List.length_take,List.drop_zero,List.length_map];exact Nat.add_le_add (Nat.le_trans (Nat.min_le_right _ _) HD) (Nat.le_refl 1)) (by decide))
  exact(zS a3 a2 (q▸map_fits (Nat.le_trans ql (by decide)))).trans (by rw[q];rfl)
 have c1:=λy=>LN.cut (cf:=cf) (J:=jy d t row p (.int x) (some (pr old))) (lo:=.no) (hi:=.yes (.bin .sub (.loc 2) (.k (.int 1)))) (u:=.none) (v:=some (.int (row-1))) (i:=0) (sr cf h ht y) (bG Z y _ _ jZ) rfl rfl MP rfl (kr D7 (Int.le_of_lt (MQ▸MM)))
 have c3:=λy=>LN.cut (cf:=cf) (J:=jy d t row p (.int x) (some (pr old))) (lo:=.yes (.loc 2)) (hi:=.no) (u:=some (.int row)) (v:=.none) (j:=((R t).map pr).length) (sr cf h ht y) (bG Z y _ _ jZ) rfl rfl MP (kr (Int.le_trans (by decide) Px) (MQ▸G9)) rfl
 have c1:=c1 []
 rw[List.append_nil,List.drop_zero,Nat.sub_zero,<-List.map_take] at c1
 have tl:((R t).take (row-1).toNat).length<=b:=by rw[List.length_take];exact Nat.le_trans (Nat.min_le_right _ _) MN
 have dl:((R t).take (row-1).toNat++[setAt p.toNat x old]++(R t).drop row.toNat).length<=b+1:=by
  rw[List.length_append,List.length_append,List.length_take,List.length_drop,Nat.min_eq_left (Nat.le_of_lt cZ),Py]
  exact Nat.le_succ_of_le (Nat.le_trans (Nat.le_of_eq (Nat.add_sub_cancel' (Py▸xQ))) MN)
 have he:=LN.add (LN.add c1.r (λy=>(LN.list1 (en y)).r) (by rw[show [pr (setAt p.toNat x old)]=[setAt p.toNat x old].map pr from rfl,<-List.map_append];exact lX h hb ht (by rw[List.length_append];exact Nat.add_le_add tl (Nat.le_add_left 1 9)))).r (λy=>(c3 y).r)
  (by rw[qV,<-List.map_drop,show [pr (setAt p.toNat x old)]=[setAt p.toNat x old].map pr from rfl,<-List.map_append,<-List.map_append];exact lX h hb ht (Nat.le_trans dl (Nat.add_le_add_left (by decide) b)))
 rw[qV,<-List.map_drop,show [pr (setAt p.toNat x old)]=[setAt p.toNat x old].map pr from rfl,<-List.map_append,<-List.map_append] at he
 obtain ⟨aN,af,aY,e,r⟩:=qW cf h ht he dl
 exact⟨aN,af,aY,aG (dI (bF (by have q:=sr cf h (row:=row) (p:=p) (v:=.int x) (o:=none) ht [];rw[List.append_nil] at q;exact q) rfl Tq)) e,r⟩
theorem D8(h:RD d n0 b aB loc R Z)(hb:b<=30000)(t row p:Int)(v:Ev)(hw:∀r∈R t,r.length<=9)(he:tF R ⟨t,row,p,v⟩=true):iD cf d n0 (b+1) R Z rt.body (jy d t row p (pG v) none) t (sq R ⟨t,row,p,v⟩):=by
 have ht:=HC he
 have jZ:=h.at_ t ht
 have cZ:=h.ln t ht
 have i0:=λv=>sr cf h (row:=row) (p:=p) (v:=v) (o:=none) ht []
 rw[List.append_nil] at i0
 refine xP he (λr ev ep=> ?_) (λep=> ?_) λhv p0 pl r1 rl=> ?_
 ·rw[ev,sq,if_pos ep,ep]
  rw[ep] at i0
  refine iD.one cf (x:=true) rfl (qW cf h ht (l:=R t++[r]) ?_ (by rw[List.length_append];exact Nat.succ_le_succ cZ))
  rw[List.map_append]
  exact LN.add ⟨loc t,[],by rw[List.append_nil];exact i0 _,by rw[List.append_nil];exact jZ⟩ (λy=>(LN.list1 (X:=.loc 4) (x:=pr r) rfl).r) (by rw[<-List.map_append];exact lX h hb ht (by rw[List.length_append];exact Nat.add_le_add cZ (Nat.le_add_left 1 9)))
 ·rw[sq,if_neg (λe:p= -1=>absurd (ep.symm.trans e) (by decide)),if_pos ep,ep]
  rw[ep] at i0
  refine iD.one cf (x:=false) rfl (iD.one cf (x:=true) rfl (qW cf h ht (l:=(R t).take ((R t).length-1)) ?_ (by rw[List.length_take];exact Nat.le_trans (Nat.min_le_right _ _) (Nat.le_succ_of_le cZ))))
  have c:=LN.cut (cf:=cf) (lo:=.no) (hi:=.yes (.neg (.k (.int 1)))) (u:=.none) (v:=some (.int (-1))) (i:=0) (i0 (pG v)) jZ rfl rfl (lX h hb ht (Nat.le_trans cZ (Nat.le_add_right b 10))) rfl (congrArg some (clipAt_neg _ 1 (Nat.le_refl 1)))
  rw[List.drop_zero,Nat.sub_zero,<-List.map_take,List.length_map] at c
  exact c
 ·have p1:p≠ -1:=λe=>absurd (e▸p0) (by decide)
  have p2:p≠ -2:=λe=>absurd (e▸p0) (by decide)
  rw[sq,if_neg p1,if_neg p2]
  have e1:ag cf aa (.cmp .eq (.loc 3) (.neg (.k (.int 1)))) (jy d t row p (pG v) none) Z=some (.ok (.bool false),Z):=(ku (x:=p) (y:= -1) rfl rfl).trans (by rw[decide_eq_false p1])
  have e2:ag cf aa (.cmp .eq (.loc 3) (.neg (.k (.int 2)))) (jy d t row p (pG v) none) Z=some (.ok (.bool false),Z):=(ku (x:=p) (y:= -2) rfl rfl).trans (by rw[decide_eq_false p2])
  refine iD.one cf (x:=false) e1 (iD.one cf (x:=false) e2 ?_)
  have cell:=λx=>D6 cf h hb (x:=x) ht hw p0 pl r1 rl
  have PA:b<=60000:=Nat.le_trans hb (by decide)
  cases v with
  |r x=>exact absurd rfl (hv x)
  |i x=>
   obtain ⟨aN,af,aY,e,r⟩:=cell x
   exact⟨aN,af,aY,aG ((dU (Z:=Z) false rfl).trans rfl) (aG ((dU (Z:=Z) false rfl).trans rfl) e),r⟩
  |T=>
   obtain ⟨aN,af,aY,e,r⟩:=cell (len R 2+1)
   exact⟨aN,af,aY,aG ((dU (Z:=Z) true rfl).trans (iL (dI (cO (h.len PA rfl (by decide)) rfl rfl)))) (aG ((dU (Z:=Z) false rfl).trans rfl) e),r⟩
  |M=>
   obtain ⟨aN,af,aY,e,r⟩:=cell (len R 6+1)
   exact⟨aN,af,aY,aG ((dU (Z:=Z) false rfl).trans rfl) (aG ((dU (Z:=Z) true rfl).trans (iL (dI (cO (h.len PA rfl (by decide)) rfl rfl)))) e),r⟩
end
theorem Jx(n:Nat){d n0 b:Nat}{loc:Int->Nat}{R:Int->List Row}{Z:ae}(h:RD d n0 b aB loc R Z)(hb:b<=30000)(e:Ed)(hw:∀r∈R e.t,r.length<=9)(he:tF R e=true):
  ∃af aY,ar ah aa (n+1) 40 [.ref d,.int e.t,.int e.row,.int e.p,pG e.v] Z=some (.ok .none,af)/\RD d n0 (b+1) aB aY (fx R e) af/\Fr n0 Z af:=by
 obtain ⟨aN,af,aY,e1,h1,f1⟩:=D8 (ar ah aa n) h hb e.t e.row e.p e.v hw he
 exact⟨af,aY,mO rfl rfl e1,h1,f1⟩
noncomputable def qX(R:Int->List Row):Ev->Int
 |.i x=>x
 |.T=>len R 2
 |.M=>len R 6
 |.r _=>0
noncomputable def Gd(R:Int->List Row):Lv->Int
 |.i x=>x
 |.F=>len R 4+2
 |.M=>len R 6+2
noncomputable def ph(R:Int->List Row):List Row:=(((R 2).drop 4).take 1).filter λr=>decide (cl r 1=17)
noncomputable def pj:List Nat:=[98,97,115,101]
noncomputable def eH(R:Int->List Row)(k:Nat):Bool:=match ph R with
 |[]=>false
 |r::_=>decide (cl r k=0)
noncomputable def d7(x:Int)(R:Int->List Row):List Ed×List PV:=
 if x<11 then
  let s:=dg.getD x.toNat (0,0,0)
  ([⟨s.1,s.2.1,s.2.2,.i 0⟩],msg s.1 s.2.1 [110,97,109,101]::(if decide (s.1=32)&&eH R 3 then [msg 2 5 pj] else []))
 else
  ([⟨2,2,1,.i 17⟩],(if eH R 2 then [msg 2 5 [116,119,105,99,101]] else [])++(if cl ((R 32).getD 0 []) 7=23 then [msg 2 2 pj]++(if eH R 3 then [msg 2 5 pj] else []) else []))
noncomputable def BP(x y:Int):Int:=if x.fmod 27>15 then 9+y.fmod 5 else 24+y.fmod 5
noncomputable def cj(way x y:Int)(R:Int->List Row):List Ed×List PV:=
 if way=0 then (let e:=mf.getD (x.fmod 8).toNat tM;([e],[msg e.t e.row [116,97,103]]))
 else if way=1 then (let e:=gP.getD (x.fmod 30).toNat tM;([e],[msg e.t e.row [112,97,114,101,110,116]]))
 else if way=2 then (let s:=eT.getD (x.fmod 13).toNat rj;([⟨s.t,qX R s.row,s.p,.i (Gd R s.v)⟩],[msg s.t (qX R s.row) [108,105,115,116]]))
 else if way=3 then (let s:=(i6++fX++hU).getD (x.fmod 27).toNat (0,0,0);([⟨s.1,s.2.1,s.2.2,.i (BP x y)⟩],[msg s.1 s.2.1 [104,101,97,112]]))
 else if way=4/\x.fmod 19<7 then (let s:=fX.getD (x.fmod 19).toNat (0,0,0);([⟨s.1,s.2.1,s.2.2,.i 0⟩],[msg s.1 s.2.1 [104,101,97,112]]))
 else if way=4 then d7 (x.fmod 19-7) R
 else jK.getD (x.fmod 85).toNat ([],[])
theorem idx_map{α:Type}(f:α->PV)(d:α)(l:List α)(hl:l.length<=65536)(i:Int)(h0:0<=i)(h1:i<l.length)(Z:ae):index (.tup (l.map f)) (.int i) Z=some (f (l.getD i.toNat d)):=by
 show listAt (l.map f) (.int i)=_
 rw[gc h0 (by rw[List.length_map];exact h1) (map_fits hl),nth_get?,List.getElem?_map,List.getD_eq_getElem?_getD,List.getElem?_eq_getElem ((Int.toNat_lt h0).mpr h1)]
 rfl
theorem dH(x:Int)(n:Int)(h:0<n):0<=x.fmod n/\x.fmod n<n:=⟨Int.fmod_nonneg_of_pos _ h,Int.fmod_lt_of_pos _ h⟩
theorem Tt:mn=.tup (mf.map i4):=rfl
theorem Tu:jr=.tup (gP.map i4):=rfl
theorem Tv:kY=.tup (eT.map tO):=rfl
theorem Vn:pI=.tup (i6.map i5):=rfl
theorem Tw:mj=.tup (fX.map i5):=rfl
theorem Vo:nD=.tup (hU.map i5):=rfl
theorem Tx:iK=.tup (dg.map i5):=rfl
theorem Tz:jU=.tup (jK.map jT):=rfl
section
variable{cf:Nat->List PV->ae->Out PV}{J:Loc}{Z:ae}
theorem su{g:Nat}{i:Nat}{x n:Int}(hx:bo J i=some (.int x))(hn:ag cf aa (.aF .len (.gl g)) J Z=some (.ok (.int n),Z))(h:n≠0):ag cf aa (.bin .mod (.loc i) (.aF .len (.gl g))) J Z=some (.ok (.int (x.fmod n)),Z):=
 cO (d6 hx) hn (congrArg (λq=>az q (some (x.fmod n))) (decide_eq_true h))
theorem pk{i:Nat}{x n:Int}(hx:bo J i=some (.int x))(h:n≠0):ag cf aa (.bin .mod (.loc i) (.k (.int n))) J Z=some (.ok (.int (x.fmod n)),Z):=
 cO (d6 hx) rfl (congrArg (λq=>az q (some (x.fmod n))) (decide_eq_true h))
theorem pn{g:Nat}{e:ME}{i:Int}{v:PV}(h:ag cf aa e J Z=some (.ok (.int i),Z))(hi:index (aa g) (.int i) Z=some v):ag cf aa (.idx (.gl g) e) J Z=some (.ok v,Z):=bF rfl h hi
theorem cn{i:Nat}{e:ME}{v:PV}{ai:ae}(h:ag cf aa e J Z=some (.ok v,ai)):aZ cf aa (.aA i e) J Z=some (.ok (.next,cD J i v),ai):=dI h
theorem BQ{s:MS}{rest:bq}{v:PV}{cY:Loc}{ai:ae}(h:aZ cf aa s J Z=some (.ok (.ret v,cY),ai)):ak cf aa (.cons s rest) J Z=some (.ok (.ret v,cY),ai):=eJ nofun h
end
noncomputable def jk(R:Int->List Row):Prop:=(∀r∈R 2,r.length=6)/\(R 32≠[]/\∀r∈R 32,r.length=9)
theorem zT{cf:Nat->List PV->ae->Out PV}{J:Loc}{Z:ae}{i a:Nat}{l:List PV}(h:bo J i=some (.ref a))(g:aj Z a=some (.list l))(hl:l.length<=1):ag cf aa (.aF .len (.loc i)) J Z=some (.ok (.int l.length),Z):=
 aC (d6 h) (by rw[len_list g (fits_of hl (by decide))];rfl)
theorem MU{cf:Nat->List PV->ae->Out PV}{e:ME}{c:ME}{J:Loc}{Z ai:ae}{a:Nat}{l:List Row}{q:Row->Bool}(hc:ag cf aa e J Z=some (.ok (.ref a),ai))(g:aj ai a=some (.list (l.map pr)))(hl:l.length<=1)(hq:∀x∈l,ag cf aa c [some (pr x)] ai=some (.ok (.bool (q x)),ai)):
  ag cf aa (.comp (.loc 0) (.plain e) (.yes c)) J Z=some (.ok (.ref ai.length),ai++[.list ((l.filter q).map pr)]):=by
 refine lD (i8 hc (fR g)) ?_
 rw[eZ g]
 cases l with
 |nil=>exact i9 ((fY g).trans rfl)
 |cons x l=>
  cases l with
  |cons _ _=>exact absurd (Nat.le_of_succ_le_succ hl) (Nat.not_succ_le_zero _)
  |nil=>
   have h1:b9 ai 0 (.live a)=some (some (pr x)):=(fY g).trans rfl
   have h2:b9 ai 1 (.live a)=some none:=(fY g).trans rfl
   have hq:=hq x (List.mem_singleton_self x)
   have e2:∀r:Out (Option PV),pick (some (q x)) (aX (ag cf aa (.loc 0) [some (pr x)] ai) λy Z=>give (some y) Z) (give none ai)=r->aX (cV cf aa (.yes c) [some (pr x)] ai) (λc Z=>pick (ic Z c) (aX (ag cf aa (.loc 0) [some (pr x)] Z) λy Z=>give (some y) Z) (give none Z))=r:=λr hr=>by
    show aX (au (ag cf aa c [some (pr x)] ai) λv Z=>give (some v) Z) (λc Z=>pick (ic Z c) (aX (ag cf aa (.loc 0) [some (pr x)] Z) λy Z=>give (some y) Z) (give none Z))=r
    rw[hq];exact hr
   rw[List.filter_cons]
   cases hb:q x with
   |true=>exact nF h1 (Nat.zero_le _) (e2 _ (by rw[hb];rfl)) (i9 h2)
   |false=>exact(Ar h1 (Nat.zero_le _) (e2 _ (by rw[hb];rfl))).trans (i9 h2)
theorem MV{α:Type}(l:List α):(l.drop (clipAt l.length 4)).take (clipAt l.length 5-clipAt l.length 4)=(l.drop 4).take 1:=by
 rw[show clipAt l.length 4=min 4 l.length from clipAt_nat l.length 4,show clipAt l.length 5=min 5 l.length from clipAt_nat l.length 5]
 by_cases h4:4<l.length
 ·rw[Nat.min_eq_left (Nat.le_of_lt h4),Nat.min_eq_left h4]
 ·have h:=Nat.le_of_not_lt h4
  rw[Nat.min_eq_right h,Nat.min_eq_right (Nat.le_succ_of_le h),List.drop_eq_nil_of_le (Nat.le_refl _),List.drop_eq_nil_of_le h,Nat.sub_self];rfl
theorem Jy(cf:Nat->List PV->ae->Out PV){d n0 b:Nat}{loc:Int->Nat}{R:Int->List Row}{Z:ae}(h:RD d n0 b aB loc R Z)(hb:b<=30000)(hn:jk R)(x:Option PV)(p q r:Option PV):
  ∃ai a,ag cf aa (.comp (.loc 0) (.plain (.slice (.idx (.loc 1) (.k (.int 2))) (.yes (.k (.int 4))) (.yes (.k (.int 5))))) (.yes (.cmp .eq (.idx (.loc 0) (.k (.int 1))) (.k (.int 17))))) [x,some (.ref d),p,q,r] Z=some (.ok (.ref a),ai)/\aj ai a=some (.list ((ph R).map pr))/\RD d n0 b aB loc R ai/\Fr n0 Z ai:=by
 have CW:=Nat.le_trans h.nd (Nat.le_of_lt (bh _ _ _ h.dict))
 have hc:=LN.cut (cf:=cf) (Z:=Z) (J:=[x,some (.ref d),p,q,r]) (lo:=.yes (.k (.int 4))) (hi:=.yes (.k (.int 5))) (u:=some (.int 4)) (v:=some (.int 5)) (h.idx (i:=1) (k:=2) rfl (by decide)) (h.at_ 2 (by decide)) rfl rfl (h.fits (Nat.le_trans hb (by decide)) (by decide)) rfl rfl
 rw[MV,<-List.map_drop,<-List.map_take] at hc
 obtain ⟨i,y,e,g,_⟩:=hc
 have TA:(((R 2).drop 4).take 1).length<=1:=by rw[List.length_take];exact Nat.min_le_left _ _
 have hq:∀z∈((R 2).drop 4).take 1,ag cf aa (.cmp .eq (.idx (.loc 0) (.k (.int 1))) (.k (.int 17))) [some (pr z)] (Z++y)=some (.ok (.bool (decide (cl z 1=17))),Z++y):=λz hz=>by
  have h6:=hn.1 z (List.mem_of_mem_drop (List.mem_of_mem_take hz))
  exact ku (bF (x:=pr z) (y:=.int 1) rfl rfl (iw ⟨by decide,by rw[h6];decide,by rw[h6];decide⟩)) rfl
 exact⟨_,_,MU (q:=λz=>decide (cl z 1=17)) e g TA hq,bz _ _,(h.keep (bG Z y)).keep (bG _ _),(Fr.app Z y CW).trans (Fr.app _ _ (Nat.le_trans CW (by rw[List.length_append];exact Nat.le_add_right _ _)))⟩
theorem D9(R:Int->List Row):(ph R).length<=1:=Nat.le_trans (List.length_filter_le _ _) (by rw[List.length_take];exact Nat.min_le_left _ _)
theorem Ea{R:Int->List Row}{r:Row}(h:r∈ph R):r∈R 2:=List.mem_of_mem_drop (List.mem_of_mem_take (List.mem_filter.mp h).1)
theorem MW{cf:Nat->List PV->ae->Out PV}{J:Loc}{Z:ae}{a:Nat}{R:Int->List Row}(hn:jk R)(h:bo J 2=some (.ref a))(g:aj Z a=some (.list ((ph R).map pr)))(k:Nat)(K:Int)(hK:K=k)(hk:k<6):
  ag cf aa (.and (.cons (.cmp .gt (.aF .len (.loc 2)) (.k (.int 0))) (.cons (.cmp .eq (.idx (.idx (.loc 2) (.k (.int 0))) (.k (.int K))) (.k (.int 0))) .nil))) J Z=some (.ok (.bool (eH R k)),Z):=by
 have hlen:=D9 R
 have hm:= @Ea R
 unfold eH
 cases hg:ph R with
 |nil=>
  rw[hg] at g
  exact zf (dQ (x:=.int 0) (y:=.int 0) (zT h g (Nat.zero_le 1)) rfl rfl)
 |cons r l=>
  rw[hg] at g hm hlen
  have h6:=hn.1 r (hm List.mem_cons_self)
  have hl:((r::l).map pr).length<=1:=by rw[List.length_map];exact hlen
  have pos:(0:Int)<(((r::l).map pr).length:Int):=Int.ofNat_lt.mpr (Nat.succ_pos l.length |> λh=>by rw[List.length_map];exact h)
  have e0:index (.ref a) (.int 0) Z=some (pr r):=by rw[f9 g,gc (Int.le_refl 0) pos (fits_of hl (by decide))];rfl
  have e1:index (pr r) (.int K) Z=some (.int (cl r k)):=by rw[hK];exact iw (k:=k) ⟨Int.natCast_nonneg k,Int.ofNat_lt.mpr (h6▸hk),by rw[h6];decide⟩
  exact lE (x:=true) (y:=decide (cl r k=0)) (dQ (x:=.int ((r::l).map pr).length) (y:=.int 0) (zT h g hl) rfl (congrArg some (decide_eq_true pos))) (oO (ku (bF (y:=.int K) (bF (y:=.int 0) (d6 h) rfl e0) rfl e1) rfl))
theorem Jz{cf:Nat->List PV->ae->Out PV}{J:Loc}{Z:ae}{a b:ME}{c:ME}{x y:Bool}(h1:ag cf aa a J Z=some (.ok (.bool x),Z))(h2:ag cf aa (.and (.cons b (.cons c .nil))) J Z=some (.ok (.bool y),Z)):
  ag cf aa (.and (.cons a (.cons b (.cons c .nil)))) J Z=some (.ok (.bool (x&&y)),Z):=lE h1 h2
noncomputable abbrev oB(x:Int)(d a:Nat)(t:List PV)(v:Option PV):Loc:=[some (.int x),some (.ref d),some (.ref a),some (.tup t),v]
section
variable(cf:Nat->List PV->ae->Out PV){d n0 b a:Nat}{loc:Int->Nat}{R:Int->List Row}{Z:ae}
theorem TB(h:RD d n0 b aB loc R Z)(hb:b<=30000)(hn:jk R)(x:Int)(t:List PV):ag cf aa (.cmp .eq (.idx (.idx (.idx (.loc 1) (.k (.int 32))) (.k (.int 0))) (.k (.int 7))) (.k (.int 23))) (oB x d a t none) Z=some (.ok (.bool (decide (cl ((R 32).getD 0 []) 7=23))),Z):=by
 have PB:=h.at_ 32 (by decide)
 have hf:=h.fits (Nat.le_trans hb (by decide)) (k:=32) (by decide)
 have hi:=h.idx (cf:=cf) (gl:=aa) (i:=1) (J:=oB x d a t none) (k:=32) rfl (by decide)
 obtain ⟨dh,h9⟩:=hn.2
 generalize R 32=l at PB dh h9 hf⊢
 cases l with
 |nil=>exact absurd rfl dh
 |cons r0 rs=>
  have PC:=h9 r0 List.mem_cons_self
  have i0:index (.ref (loc 32)) (.int 0) Z=some (pr r0):=by rw[f9 PB,gc (Int.le_refl 0) (Int.ofNat_lt.mpr (by rw[List.length_map];exact Nat.succ_pos _)) hf];rfl
  exact ku (bF (y:=.int 7) (bF (y:=.int 0) hi rfl i0) rfl (iw ⟨by decide,by rw[PC];decide,by rw[PC];decide⟩)) rfl
theorem xR(h:RD d n0 b aB loc R Z)(hb:b<=30000)(hn:jk R)(x:Int)(hx:0<=x):
  ∃J af,ak cf aa lC.body [some (.int x),some (.ref d),none,none,none] Z=some (.ok (.ret (jT (d7 x R)),J),af)/\RD d n0 b aB loc R af/\Fr n0 Z af:=by
 obtain ⟨ai,a,e1,g,h1,f1⟩:=Jy cf h hb hn (some (.int x)) none none none
 refine Exists.elim ?_ λJ e=>⟨J,ai,aG (cn e1) (aG (cn (v:=.tup []) rfl) e),h1,f1⟩
 have has:=λ(t:List PV)(v:Option PV)(k:Nat)(K:Int)(hK:K=k)(hk:k<6)=>MW (cf:=cf) (J:=oB x d a t v) hn rfl g k K hK hk
 clear e1 g h
 have cZ:ag cf aa (.cmp .lt (.loc 0) (.k (.int 11))) (oB x d a [] none) ai=some (.ok (.bool (decide (x<11))),ai):=rfl
 by_cases hc:x<11
 ·rw[decide_eq_true hc] at cZ
  have e4:ag cf aa (.idx (.gl 55) (.loc 0)) (oB x d a [] none) ai=some (.ok (i5 (dg.getD x.toNat (0,0,0))),ai):=pn (i:=x) rfl (by rw[show aa 55=iK from rfl,Tx];exact idx_map i5 (0,0,0) dg (by decide) _ hx hc _)
  rw[d7,if_pos hc]
  dsimp only
  generalize dg.getD x.toNat (0,0,0)=s at e4⊢
  refine Exists.elim ?_ λJ e=>⟨J,BQ ((dU true cZ).trans (aG (cn e4) e))⟩
  have c1:=Jz (ku (cf:=cf) (J:=oB x d a [] (some (i5 s))) (Z:=ai) (X:=.idx (.loc 4) (.k (.int 0))) (jo:=.k (.int 32)) (x:=s.1) (y:=32) rfl rfl) (has [] (some (i5 s)) 3 3 rfl (by decide))
  cases Eb:(decide (s.1=32)&&eH R 3) with
  |true=>rw[Eb] at c1;exact⟨_,aG ((dU true c1).trans rfl) rfl⟩
  |false=>rw[Eb] at c1;exact⟨_,aG ((dU false c1).trans rfl) rfl⟩
 ·rw[decide_eq_false hc] at cZ
  rw[d7,if_neg hc]
  have a2:=has [] none 2 2 rfl (by decide)
  have a3:=λt=>has t none 3 3 rfl (by decide)
  have c7:=TB cf (a:=a) h1 hb hn x
  clear has hn h1 f1
  refine Exists.elim ?_ λJ e=>⟨J,aG ((dU false cZ).trans rfl) e⟩
  clear cZ
  generalize eH R 2=b2 at a2⊢
  generalize eH R 3=b3 at a3⊢
  rw[show ∀l:List PV,(if cl ((R 32).getD 0 []) 7=23 then l else [])=bif decide (cl ((R 32).getD 0 []) 7=23) then l else [] from λl=>(Bool.cond_decide _ _ _).symm]
  generalize decide (cl ((R 32).getD 0 []) 7=23)=b7 at c7⊢
  have Ox:∀{r:bq}{v:PV}{J:Loc},ak cf aa r (oB x d a (bif b2 then [msg 2 5 [116,119,105,99,101]] else []) none) ai=some (.ok (.ret v,J),ai)->ak cf aa (.cons (.aP (.and (.cons (.cmp .gt (.aF .len (.loc 2)) (.k (.int 0))) (.cons (.cmp .eq (.idx (.idx (.loc 2) (.k (.int 0))) (.k (.int 2))) (.k (.int 0))) .nil)))
    (.cons (.aA 3 (.tup (.cons (.tup (.cons (.k (.int 2)) (.cons (.k (.int 5)) (.cons (.k (.str [116,119,105,99,101])) .nil)))) .nil))) .nil) .nil) r) (oB x d a [] none) ai=some (.ok (.ret v,J),ai):=λe=>aG ((dU b2 a2).trans (by cases b2<;>rfl)) e
  clear a2
  refine Exists.elim ?_ λJ e=>⟨J,Ox e⟩
  cases b7 with
  |false=>cases b2<;>exact⟨_,aG ((dU false (c7 _)).trans rfl) rfl⟩
  |true=>
   cases b3 with
   |false=>cases b2<;>exact⟨_,aG ((dU true (c7 _)).trans (aG (cn rfl) (aG ((dU false (a3 _)).trans rfl) rfl))) rfl⟩
   |true=>cases b2<;>exact⟨_,aG ((dU true (c7 _)).trans (aG (cn rfl) (aG ((dU true (a3 _)).trans rfl) rfl))) rfl⟩
end
theorem y7(n:Nat){d n0 b:Nat}{loc:Int->Nat}{R:Int->List Row}{Z:ae}(h:RD d n0 b aB loc R Z)(hb:b<=30000)(hn:jk R)(x:Int)(hx:0<=x):
  ∃af,ar ah aa (n+1) 39 [.int x,.ref d] Z=some (.ok (jT (d7 x R)),af)/\RD d n0 b aB loc R af/\Fr n0 Z af:=by
 obtain ⟨J,af,e,r⟩:=xR (ar ah aa n) h hb hn x hx
 exact⟨af,bA rfl rfl e,r⟩
section
variable{cf:Nat->List PV->ae->Out PV}{J cY:Loc}{Z ai:ae}{c e:ME}{A B rest:bq}{r:Out (Fl×Loc)}{v:PV}{i:Nat}
theorem bu(hc:ag cf aa c J Z=some (.ok (.bool false),Z))(k:ak cf aa rest J Z=r):ak cf aa (.cons (.aP c A .nil) rest) J Z=r:=aG ((dU false hc).trans rfl) k
theorem kx(hc:ag cf aa c J Z=some (.ok (.bool true),Z))(k:ak cf aa A J Z=some (.ok (.ret v,cY),ai)):ak cf aa (.cons (.aP c A B) rest) J Z=some (.ok (.ret v,cY),ai):=BQ ((dU true hc).trans k)
theorem sv(hc:ag cf aa c J Z=some (.ok (.bool true),Z))(h:ag cf aa e J Z=some (.ok v,Z))(k:ak cf aa rest (cD J i v) Z=r):ak cf aa (.cons (.aP c (.cons (.aA i e) .nil) .nil) rest) J Z=r:=aG ((dU true hc).trans (aG (cn h) rfl)) k
end
noncomputable abbrev fU(way x y:Int)(d:Nat)(a b c e:Option PV):Loc:=[some (.int way),some (.int x),some (.int y),some (.ref d),a,b,c,e]
noncomputable def Br(cf:Nat->List PV->ae->Out PV)(d:Nat)(Z:ae)(way x y:Int)(r:List Ed×List PV)(af:ae):Prop:=∃J,ak cf aa nv.body (fU way x y d none none none none) Z=some (.ok (.ret (jT r),J),af)
section
variable(cf:Nat->List PV->ae->Out PV){d n0 b:Nat}{loc:Int->Nat}{R:Int->List Row}{Z:ae}(x y:Int)
theorem TC:Br cf d Z 0 x y (cj 0 x y R) Z:=by
 have hm:=dH x 8 (by decide)
 have e4:ag cf aa (.idx (.gl 54) (.bin .mod (.loc 1) (.aF .len (.gl 54)))) (fU 0 x y d none none none none) Z=some (.ok (i4 (mf.getD (x.fmod 8).toNat tM)),Z):=
  pn (su (x:=x) (n:=8) rfl rfl (by decide)) (by rw[show aa 54=mn from rfl,Tt];exact idx_map i4 tM mf (by decide) _ hm.1 hm.2 _)
 rw[cj,if_pos rfl]
 dsimp only
 generalize mf.getD (x.fmod 8).toNat tM=e at e4⊢
 exact⟨_,kx rfl (aG (cn e4) rfl)⟩
theorem TF:Br cf d Z 1 x y (cj 1 x y R) Z:=by
 have hm:=dH x 30 (by decide)
 have e4:ag cf aa (.idx (.gl 53) (.bin .mod (.loc 1) (.aF .len (.gl 53)))) (fU 1 x y d none none none none) Z=some (.ok (i4 (gP.getD (x.fmod 30).toNat tM)),Z):=
  pn (su (x:=x) (n:=30) rfl rfl (by decide)) (by rw[show aa 53=jr from rfl,Tu];exact idx_map i4 tM gP (by decide) _ hm.1 hm.2 _)
 rw[cj,if_neg (by decide),if_pos rfl]
 dsimp only
 generalize gP.getD (x.fmod 30).toNat tM=e at e4⊢
 exact⟨_,bu rfl (kx rfl (aG (cn e4) rfl))⟩
theorem Ec(k:Nat)(hk:k<13):(∃r,(eT.getD k rj).row=.i r)\/(eT.getD k rj).row=.T\/(eT.getD k rj).row=.M:=by
 have:∀k<13,(match (eT.getD k rj).row with | .r _=>false | _=>true)=true:=by decide
 have:=this k hk
 revert this
 cases (eT.getD k rj).row with
 |i r=>exact λO=>.inl ⟨r,rfl⟩
 |T=>exact λO=>.inr (.inl rfl)
 |M=>exact λO=>.inr (.inr rfl)
 |r _=>exact λh=>by cases h
theorem TG(h:RD d n0 b aB loc R Z)(hb:b<=60000):Br cf d Z 2 x y (cj 2 x y R) Z:=by
 have hm:=dH x 13 (by decide)
 have e4:ag cf aa (.idx (.gl 52) (.bin .mod (.loc 1) (.aF .len (.gl 52)))) (fU 2 x y d none none none none) Z=some (.ok (tO (eT.getD (x.fmod 13).toNat rj)),Z):=
  pn (su (x:=x) (n:=13) rfl rfl (by decide)) (by rw[show aa 52=kY from rfl,Tv];exact idx_map tO rj eT (by decide) _ hm.1 hm.2 _)
 have xQ:=Ec (x.fmod 13).toNat ((Int.toNat_lt hm.1).mpr hm.2)
 rw[cj,if_neg (by decide),if_neg (by decide),if_pos rfl]
 dsimp only
 generalize eT.getD (x.fmod 13).toNat rj=e at e4 xQ⊢
 obtain ⟨t,row,p,v⟩:=e
 dsimp only at xQ⊢
 have ln:∀(k:Int)(J:Loc),k∈aB->bo J 3=some (.ref d)->ag cf aa (.aF .len (.idx (.loc 3) (.k (.int k)))) J Z=some (.ok (.int (len R k)),Z):=λk J hk hl=>h.len hb hl hk
 have s1:∀{rest:bq}{r:Out (Fl×Loc)},ak cf aa rest (fU 2 x y d (some (tO ⟨t,row,p,v⟩)) (some (.int (qX R row))) none none) Z=r->
   ak cf aa (.cons (.aP (.cmp .eq (.loc 5) (.k (.str [84]))) (.cons (.aA 5 (.aF .len (.idx (.loc 3) (.k (.int 2))))) .nil) .nil) (.cons (.aP (.cmp .eq (.loc 5) (.k (.str [77]))) (.cons (.aA 5 (.aF .len (.idx (.loc 3) (.k (.int 6))))) .nil) .nil) rest)) (fU 2 x y d (some (tO ⟨t,row,p,v⟩)) (some (pG row)) none none) Z=r:=by
  intro rest r hh
  rcases xQ with ⟨z,rfl⟩ | rfl | rfl
  ·exact bu rfl (bu rfl hh)
  ·exact sv rfl (ln 2 _ (by decide) rfl) (bu rfl hh)
  ·exact bu rfl (sv rfl (ln 6 _ (by decide) rfl) hh)
 have s2:∀{rest:bq}{r:Out (Fl×Loc)},ak cf aa rest (fU 2 x y d (some (tO ⟨t,row,p,v⟩)) (some (.int (qX R row))) (some (.int (Gd R v))) none) Z=r->
   ak cf aa (.cons (.aP (.cmp .eq (.loc 6) (.k (.str [70]))) (.cons (.aA 6 (.bin .add (.aF .len (.idx (.loc 3) (.k (.int 4)))) (.k (.int 2)))) .nil) .nil) (.cons (.aP (.cmp .eq (.loc 6) (.k (.str [77]))) (.cons (.aA 6 (.bin .add (.aF .len (.idx (.loc 3) (.k (.int 6)))) (.k (.int 2)))) .nil) .nil) rest)) (fU 2 x y d (some (tO ⟨t,row,p,v⟩)) (some (.int (qX R row))) (some (OK v)) none) Z=r:=by
  intro rest r hh
  cases v with
  |i z=>exact bu rfl (bu rfl hh)
  |F=>exact sv rfl (cO (ln 4 _ (by decide) rfl) rfl rfl) (bu rfl hh)
  |M=>exact bu rfl (sv rfl (cO (ln 6 _ (by decide) rfl) rfl rfl) hh)
 exact⟨_,bu rfl (bu rfl (kx rfl (aG (cn e4) (aG (cn rfl) (s1 (aG (cn rfl) (s2 rfl)))))))⟩
theorem TH:Br cf d Z 3 x y (cj 3 x y R) Z:=by
 have hm:=dH x 27 (by decide)
 have em:=pk (cf:=cf) (Z:=Z) (J:=fU 3 x y d none none none none) (i:=1) (x:=x) (n:=27) rfl (by decide)
 have ea:ag cf aa (.bin .add (.bin .add (.gl 50) (.gl 47)) (.gl 51)) (fU 3 x y d none none none none) Z=some (.ok (.tup ((i6++fX++hU).map i5)),Z):=rfl
 have e4:=bF ea em (idx_map i5 (0,0,0) (i6++fX++hU) (by decide) _ hm.1 hm.2 Z)
 rw[cj,if_neg (by decide),if_neg (by decide),if_neg (by decide),if_pos rfl]
 dsimp only
 generalize (i6++fX++hU).getD (x.fmod 27).toNat (0,0,0)=s at e4⊢
 have ec:ag cf aa (.cmp .gt (.bin .mod (.loc 1) (.k (.int 27))) (.k (.int 15))) (fU 3 x y d none none (some (.int (24+y.fmod 5))) (some (i5 s))) Z=some (.ok (.bool (decide (x.fmod 27>15))),Z):=rfl
 have hv:BP x y=bif decide (x.fmod 27>15) then 9+y.fmod 5 else 24+y.fmod 5:=(Bool.cond_decide _ _ _).symm
 rw[hv]
 cases Eb:decide (x.fmod 27>15) with
 |true=>rw[Eb] at ec;exact⟨_,bu rfl (bu rfl (bu rfl (kx rfl (aG (cn e4) (aG (cn (v:=.int (24+y.fmod 5)) rfl) (sv (v:=.int (9+y.fmod 5)) ec rfl rfl))))))⟩
 |false=>rw[Eb] at ec;exact⟨_,bu rfl (bu rfl (bu rfl (kx rfl (aG (cn e4) (aG (cn (v:=.int (24+y.fmod 5)) rfl) (bu ec rfl))))))⟩
theorem PD:ag cf aa (.and (.cons (.cmp .eq (.loc 0) (.k (.int 4))) (.cons (.cmp .lt (.bin .mod (.loc 1) (.k (.int 19))) (.k (.int 7))) .nil))) (fU 4 x y d none none none none) Z=some (.ok (.bool (decide (x.fmod 19<7))),Z):=
 lE (x:=true) rfl (oO (dQ (pk (i:=1) (x:=x) (n:=19) rfl (by decide)) rfl rfl))
theorem TJ(hc:x.fmod 19<7):Br cf d Z 4 x y (cj 4 x y R) Z:=by
 have hm:=dH x 19 (by decide)
 have e4:ag cf aa (.idx (.gl 47) (.bin .mod (.loc 1) (.k (.int 19)))) (fU 4 x y d none none none none) Z=some (.ok (i5 (fX.getD (x.fmod 19).toNat (0,0,0))),Z):=
  pn (pk (x:=x) (n:=19) rfl (by decide)) (by rw[show aa 47=mj from rfl,Tw];exact idx_map i5 (0,0,0) fX (by decide) _ hm.1 hc _)
 have ec:=PD cf (d:=d) (Z:=Z) x y
 rw[decide_eq_true hc] at ec
 rw[cj,if_neg (by decide),if_neg (by decide),if_neg (by decide),if_neg (by decide),if_pos ⟨rfl,hc⟩]
 dsimp only
 generalize fX.getD (x.fmod 19).toNat (0,0,0)=s at e4⊢
 exact⟨_,bu rfl (bu rfl (bu rfl (bu rfl (kx ec (aG (cn e4) rfl)))))⟩
theorem Rd(hc:¬x.fmod 19<7){ai:ae}(e1:cf 39 [.int (x.fmod 19-7),.ref d] Z=some (.ok (jT (d7 (x.fmod 19-7) R)),ai)):Br cf d Z 4 x y (cj 4 x y R) ai:=by
 have ec:=PD cf (d:=d) (Z:=Z) x y
 rw[decide_eq_false hc] at ec
 rw[cj,if_neg (by decide),if_neg (by decide),if_neg (by decide),if_neg (by decide),if_neg λh=>hc h.2,if_pos rfl]
 have es:ag cf aa (.bin .sub (.bin .mod (.loc 1) (.k (.int 19))) (.k (.int 7))) (fU 4 x y d none none none none) Z=some (.ok (.int (x.fmod 19-7)),Z):=cO (pk (x:=x) (n:=19) rfl (by decide)) rfl rfl
 have er:ag cf aa (.ax 39 (.cons (.bin .sub (.bin .mod (.loc 1) (.k (.int 19))) (.k (.int 7))) (.cons (.loc 3) .nil))) (fU 4 x y d none none none none) Z=some (.ok (jT (d7 (x.fmod 19-7) R)),ai):=
  aC (v:=[.int (x.fmod 19-7),.ref d]) (aC es (aC (v:=[.ref d]) (aC (v:=.ref d) (ai:=Z) rfl rfl) rfl)) e1
 exact⟨_,bu rfl (bu rfl (bu rfl (bu rfl (bu ec (kx rfl (y_ret er))))))⟩
theorem TK(way:Int)(h0:way≠0)(h1:way≠1)(h2:way≠2)(h3:way≠3)(h4:way≠4):Br cf d Z way x y (cj way x y R) Z:=by
 have hm:=dH x 85 (by decide)
 have e4:ag cf aa (.idx (.gl 46) (.bin .mod (.loc 1) (.aF .len (.gl 46)))) (fU way x y d none none none none) Z=some (.ok (jT (jK.getD (x.fmod 85).toNat ([],[]))),Z):=
  pn (su (x:=x) (n:=85) rfl rfl (by decide)) (by rw[show aa 46=jU from rfl,Tz];exact idx_map jT ([],[]) jK (by decide) _ hm.1 hm.2 _)
 have no:∀k:Int,way≠k->ag cf aa (.cmp .eq (.loc 0) (.k (.int k))) (fU way x y d none none none none) Z=some (.ok (.bool false),Z):=λk hk=>(ku (x:=way) (y:=k) rfl rfl).trans (by rw[decide_eq_false hk])
 rw[cj,if_neg h0,if_neg h1,if_neg h2,if_neg h3,if_neg λh=>h4 h.1,if_neg h4]
 exact⟨_,bu (no 0 h0) (bu (no 1 h1) (bu (no 2 h2) (bu (no 3 h3) (bu (zf (no 4 h4)) (bu (no 4 h4) (y_ret e4))))))⟩
end
theorem Ef(n:Nat){d n0 b:Nat}{loc:Int->Nat}{R:Int->List Row}{Z:ae}(h:RD d n0 b aB loc R Z)(hb:b<=30000)(hn:jk R)(way x y:Int):
  ∃af,ar ah aa (n+2) 38 [.int way,.int x,.int y,.ref d] Z=some (.ok (jT (cj way x y R)),af)/\RD d n0 b aB loc R af/\Fr n0 Z af:=by
 have go:∀{af},Br (ar ah aa (n+1)) d Z way x y (cj way x y R) af->ar ah aa (n+2) 38 [.int way,.int x,.int y,.ref d] Z=some (.ok (jT (cj way x y R)),af):=λh=>h.elim λJ e=>bA rfl rfl e
 by_cases h0:way=0
 ·subst h0;exact⟨Z,go (TC _ x y),h,Fr.refl _ _⟩
 by_cases h1:way=1
 ·subst h1;exact⟨Z,go (TF _ x y),h,Fr.refl _ _⟩
 by_cases h2:way=2
 ·subst h2;exact⟨Z,go (TG _ x y h (Nat.le_trans hb (by decide))),h,Fr.refl _ _⟩
 by_cases h3:way=3
 ·subst h3;exact⟨Z,go (TH _ x y),h,Fr.refl _ _⟩
 by_cases h4:way=4
 ·subst h4
  by_cases hc:x.fmod 19<7
  ·exact⟨Z,go (TJ _ x y hc),h,Fr.refl _ _⟩
  ·obtain ⟨ai,e1,r⟩:=y7 n h hb hn (x.fmod 19-7) (Int.sub_nonneg_of_le (Int.not_lt.mp hc))
   exact⟨ai,go (Rd _ x y hc e1),r⟩
 exact⟨Z,go (TK _ x y way h0 h1 h2 h3 h4),h,Fr.refl _ _⟩
structure TD(jt dt n1 b:Nat)(ks:List Int)(loc:Int->Nat)(R:Int->List Row)(Z:ae):Prop where
 rd:RD dt n1 b ks loc R Z
 at_:aj Z jt=some (.attrs (some (.ref dt)))
 no:∀t,t∉ks->R t=[]
 nj:n1<=jt
noncomputable def gy(ks:List Int)(t:Int):List Int:=if t∈ks then ks else ks++[t]
noncomputable def lY(n1 dt:Nat)(ks mX:List Int)(loc aY:Int->Nat)(Z af:ae):Prop:=Fr n1 Z af/\∀c o,aj Z c=some o->c≠dt->(∀k∈ks,loc k≠c)->aj af c=some o/\∀k∈mX,aY k≠c
section
variable{jt dt n1 b:Nat}{ks:List Int}{loc:Int->Nat}{R:Int->List Row}{Z:ae}
theorem RD.key(h:RD dt n1 b ks loc R Z){t:Int}(ht:t∉ks)(hR:R t=[]){i:Nat}(hi:Z.length<=i)(hn:n1<=i)(hl:ks.length<60){ai:ae}(hs:∀i o,aj Z i=some o->aj ai i=some o)(hg:aj ai i=some (.list [])):
  RD dt n1 b (ks++[t]) (fw loc t i) R (sset ai dt (.dict .int (bZ (dT loc ks) (.int t) (.ref i)))):=by
 have hd:=bh _ _ _ h.dict
 have lt:∀k'∈ks,loc k'≠i:=λk' dj=>Nat.ne_of_lt (Nat.lt_of_lt_of_le (bh _ _ _ (h.at_ k' dj)) hi)
 have dh:∀k'∈ks,k'≠t:=λk' dj e=>ht (e▸dj)
 have mem:∀{k'},k'∈ks++[t]->k'∈ks\/k'=t:=λh=>(List.mem_append.mp h).imp_right List.mem_singleton.mp
 have old:∀{k'},k'∈ks->fw loc t i k'=loc k':=λm=>if_neg (dh _ m)
 have new:fw loc t i t=i:=if_pos rfl
 refine⟨?_,λk' dj=> ?_,λk1 h1 k2 h2 e=> ?_,h.nd,λk' dj=> ?_,λk' dj=> ?_,?_,?_⟩
 ·rw[Ov loc t i ht];exact ez _ _ _ (bh _ _ _ (hs _ _ h.dict))
 ·rcases mem dj with m | m
  ·rw[old m];exact(bB _ _ _ _ (h.ne m)).trans (hs _ _ (h.at_ _ m))
  ·rw[m,new,hR];exact(bB _ _ _ _ (Nat.ne_of_gt (Nat.lt_of_lt_of_le hd hi))).trans hg
 ·rcases mem h1 with g1 | g1
  ·rw[old g1] at e
   rcases mem h2 with g2 | g2
   ·rw[old g2] at e;exact h.inj _ g1 _ g2 e
   ·rw[g2,new] at e;exact absurd e (lt _ g1)
  ·rw[g1,new] at e
   rcases mem h2 with g2 | g2
   ·rw[old g2] at e;exact absurd e.symm (lt _ g2)
   ·rw[g1,g2]
 ·rcases mem dj with m | m
  ·rw[old m];exact h.nl _ m
  ·rw[m,new];exact hn
 ·rcases mem dj with m | m
  ·exact h.ln _ m
  ·rw[m,hR];exact Nat.zero_le _
 ·exact List.nodup_append.mpr ⟨h.nk,List.pairwise_singleton _ _,λa ha b hb=>List.mem_singleton.mp hb▸dh _ ha⟩
 ·rw[List.length_append];exact hl
theorem TD.keep(h:TD jt dt n1 b ks loc R Z){af:ae}(hk:∀i o,aj Z i=some o->aj af i=some o):TD jt dt n1 b ks loc R af:=
 {h with rd:=h.rd.keep hk,at_:=hk _ _ h.at_}
theorem TD.jd(h:TD jt dt n1 b ks loc R Z):jt≠dt:=λe=>by have:=h.at_;rw[e,h.rd.dict] at this;exact nomatch this
theorem TD.jl(h:TD jt dt n1 b ks loc R Z){k:Int}(hk:k∈ks):jt≠loc k:=λe=>by have:=h.at_;rw[e,h.rd.at_ k hk] at this;exact nomatch this
theorem JA{ks:List Int}{t:Int}:t∈gy ks t:=by
 by_cases h:t∈ks
 ·rw[gy,if_pos h];exact h
 ·rw[gy,if_neg h];exact List.mem_append_right _ List.mem_cons_self
variable{cf:Nat->List PV->ae->Out PV}
theorem JB(h:TD jt dt n1 b ks loc R Z)(hl:ks.length<60)(t:Int){i:Nat}(hi:i=Z.length):∃ai fj,vt (.ref dt) (.int t) (.ref i) (Z++[.list []])=some (.ref (fj t),ai)/\TD jt dt n1 b (gy ks t) fj R ai/\lY n1 dt ks (gy ks t) loc fj Z ai:=by
 subst hi
 have wk:=Nat.le_trans h.rd.nd (Nat.le_of_lt (bh _ _ _ h.rd.dict))
 have hd2:aj (Z++[.list []]) dt=_:=bG Z [.list []] _ _ h.rd.dict
 have MF:fits (dT loc ks)=true:=map_fits (Nat.le_trans h.rd.lk (by decide))
 have hm:vt (.ref dt) (.int t) (.ref Z.length) (Z++[.list []])=(match aT (dT loc ks) (.int t) with | some v=>some (v,Z++[.list []]) | .none=>some (.ref Z.length,sset (Z++[.list []]) dt (.dict .int (bZ (dT loc ks) (.int t) (.ref Z.length))))):=by
  show ((aj (Z++[.list []]) dt).bind λo=>(iZ o).bind λq=>(intD q.1).bind λO=>az (fits q.2) (match aT q.2 (.int t) with | some v=>some (v,Z++[.list []]) | .none=>some (.ref Z.length,sset (Z++[.list []]) dt (.dict .int (bZ q.2 (.int t) (.ref Z.length))))))=_
  rw[hd2]
  show az (fits (dT loc ks)) _=_
  rw[MF];rfl
 rw[hm]
 by_cases ht:t∈ks
 ·rw[xM loc t ht,gy,if_pos ht]
  exact⟨_,loc,rfl,h.keep (bG _ _),Fr.app _ _ wk,λc o g O hc=>⟨bG _ _ _ _ g,hc⟩⟩
 ·rw[HB loc t ht,gy,if_neg ht]
  refine⟨_,fw loc t Z.length,congrArg (λx=>some (PV.ref x,_)) (if_pos rfl).symm,⟨h.rd.key ht (h.no t ht) (Nat.le_refl _) wk hl (bG _ _) (bz _ _),(bB _ _ _ _ h.jd).trans (bG _ _ _ _ h.at_),λt' sx=>h.no t' λhh=>sx (List.mem_append_left _ hh),h.nj⟩,
   (Fr.app _ _ wk).trans (Fr.set _ _ h.rd.nd),λc o g m7 hc=>⟨(bB _ _ _ _ m7).trans (bG _ _ _ _ g),λk hk=> ?_⟩⟩
  by_cases e:k=t
  ·rw[fw,if_pos e];exact Nat.ne_of_gt (bh _ _ _ g)
  ·rw[fw,if_neg e];exact hc k ((List.mem_append.mp hk).resolve_right λm=>e (List.mem_singleton.mp m))
theorem JC(h:TD jt dt n1 b ks loc R Z)(hb:b<=30000)(hl:ks.length<60)(t:Int)(r:Row):
  ∃af aY v J,ak cf aa jz.body [some (.inst 1 jt),some (.int t),some (pr r)] Z=some (.ok (.ret v,J),af)/\TD jt dt n1 (b+1) (gy ks t) aY (up R t (R t++[r])) af/\lY n1 dt ks (gy ks t) loc aY Z af:=by
 obtain ⟨ai,fj,e1,h1,f1,c1⟩:=JB h hl t rfl
 have iA:t∈gy ks t:=JA
 have jZ:=h1.rd.at_ t iA
 have h3:TD jt dt n1 (b+1) (gy ks t) fj (up R t (R t++[r])) (sset ai (fj t) (.list ((R t).map pr++[pr r]))):=
  ⟨h1.rd.push iA r,(bB _ _ _ _ (h1.jl iA)).trans h1.at_,λt' sx=>(cB λ(e:t'=t)=>sx (e▸iA)).trans (h1.no t' sx),h1.nj⟩
 have PE:b+1<=60000:=Nat.le_trans (Nat.add_le_add_right hb 1) (by decide)
 have em:ag cf aa (.aK (.attr (.loc 0)) 1 (.cons (.loc 1) (.cons (.list .nil) .nil))) [some (.inst 1 jt),some (.int t),some (pr r)] Z=some (.ok (.ref (fj t)),ai):=by
  refine(hW (vs:=[.int t,.ref Z.length]) (ai:=Z++[.list []]) (lR rfl h.at_ (by decide)) (zg h.rd.dict) rfl).trans ?_
  show FR.lift (vt (.ref dt) (.int t) (.ref Z.length) (Z++[.list []]))=_
  rw[e1];rfl
 have ea:ag cf aa (.aK (.aK (.attr (.loc 0)) 1 (.cons (.loc 1) (.cons (.list .nil) .nil))) 2 (.cons (.loc 2) .nil)) [some (.inst 1 jt),some (.int t),some (pr r)] Z=some (.ok .none,sset ai (fj t) (.list ((R t).map pr++[pr r]))):=by
  refine aC em ?_
  show az (cU 2 (.ref (fj t)) ai) (FR.lift (sG (.ref (fj t)) (pr r) ai))=_
  rw[sR jZ,vT jZ (h1.rd.fits (Nat.le_of_succ_le PE) iA)];rfl
 refine⟨_,fj,_,_,aG (jV ea) (y_ret (v:=.int (up R t (R t++[r]) t).length) ?_),h3,f1.trans (Fr.set _ _ (h1.rd.nl t iA)),λc o g m7 hc=>⟨(bB _ _ _ _ λx=>(c1 c o g m7 hc).2 t iA x.symm).trans (c1 c o g m7 hc).1,(c1 c o g m7 hc).2⟩⟩
 refine aC (v:=.ref (fj t)) (bF (x:=.ref dt) (y:=.int t) (lR rfl h3.at_ (by decide)) rfl (h3.rd.get iA)) ?_
 rw[len_list (h3.rd.at_ t iA) (h3.rd.fits PE iA),List.length_map];rfl
theorem MX(n:Nat)(h:TD jt dt n1 b ks loc R Z)(hb:b<=30000)(hl:ks.length<60)(t:Int)(r:Row):
  ∃af aY v,ar ah aa (n+1) 104 [.inst 1 jt,.int t,pr r] Z=some (.ok v,af)/\TD jt dt n1 (b+1) (gy ks t) aY (up R t (R t++[r])) af/\lY n1 dt ks (gy ks t) loc aY Z af:=by
 obtain ⟨af,aY,v,J,e,r⟩:=JC h hb hl t r
 exact⟨af,aY,v,bA rfl rfl e,r⟩
end
theorem k9(loc:Int->Nat):∀(ks:List Int),intKeys (dT loc ks)=some ks
 |[]=>rfl
 |k::ks=>by
  show ((intKeys (dT loc ks)).bind λl=>some (k::l))=_
  rw[k9 loc ks];rfl
theorem ux:∀(l:List Int),l.Pairwise (· < ·)->gH (l.map .int)=some (l.map .int)
 |[],_=>rfl
 |x::l,h=>by
  have h:=List.pairwise_cons.mp h
  show (gH (l.map .int)).bind (sF (.int x))=_
  rw[ux l h.2]
  cases l with
  |nil=>rfl
  |cons y l=>
   show (bif decide (x<y) then some (PV.int x::.int y::l.map .int) else _)=_
   rw[decide_eq_true (h.1 y List.mem_cons_self)];rfl
theorem MY{R:Int->List Row}{t:Int}(h:R t=[]):up R t []=R:=funext λk=>by
 by_cases e:k=t
 ·rw[e,h];exact up_eq
 ·exact cB e
theorem vn(R:Int->List Row)(t:Int)(l l':List Row):up (up R t l) t l'=up R t l':=funext λk=>by
 by_cases e:k=t
 ·rw[e,up_eq,up_eq]
 ·rw[cB e,cB e,cB e]
theorem lY.refl{n1 dt:Nat}{ks:List Int}{loc:Int->Nat}{Z:ae}:lY n1 dt ks ks loc loc Z Z:=⟨Fr.refl _ _,λO O a O k=>⟨a,k⟩⟩
theorem lY.trans{n1 dt:Nat}{ks PF PG:List Int}{loc fj eF:Int->Nat}{Z ai aU:ae}(h:lY n1 dt ks PF loc fj Z ai)(g:lY n1 dt PF PG fj eF ai aU):lY n1 dt ks PG loc eF Z aU:=
 ⟨h.1.trans g.1,λc o a b k=>g.2 c o (h.2 c o a b k).1 b (h.2 c o a b k).2⟩
noncomputable def kj(ks:List Int)(t:Int):Nat->List Int
 |0=>ks
 |_+1=>ks++[t]
noncomputable abbrev gz(q:Nat->Option PV)(d jt:Nat)(t v:Option PV):Loc:=[q 0,q 1,q 2,q 3,q 4,some (.ref d),q 6,q 7,q 8,some (.inst 1 jt),t,v]
noncomputable abbrev xU:bq:=.cons (.expr (.aK (.loc 9) 5 (.cons (.loc 10) (.cons (.loc 11) .nil)))) .nil
section
variable{cf:Nat->List PV->ae->Out PV}{d n0 n1 jt dt b b2:Nat}{loc eF:Int->Nat}{R R2:Int->List Row}{Z:ae}{ks:List Int}
theorem BR(xV:∀vs Z,cf 104 vs Z=ar ah aa 11 104 vs Z)(h:TD jt dt n1 b ks loc R Z)(hb:b<=30000)(hl:ks.length<60)(t:Int)(r:Row)(q:Nat->Option PV):
  ∃af aY,ak cf aa xU (gz q d jt (some (.int t)) (some (pr r))) Z=some (.ok (.next,gz q d jt (some (.int t)) (some (pr r))),af)/\TD jt dt n1 (b+1) (gy ks t) aY (up R t (R t++[r])) af/\lY n1 dt ks (gy ks t) loc aY Z af:=by
 obtain ⟨af,aY,v,e,p⟩:=MX 10 h hb hl t r
 have e:fW cf (.inst 1 jt) 5 [.int t,pr r] Z=_:=(xV _ _).trans e
 exact⟨af,aY,aG (jV ((hW (o:=.loc 9) (vs:=[.int t,pr r]) (ai:=Z) rfl (sS h.at_) rfl).trans e)) rfl,p⟩
theorem Ge(xV:∀vs Z,cf 104 vs Z=ar ah aa 11 104 vs Z)(h:RD d n0 b aB loc R Z)(BS:∀k∈aB,loc k<n1)(h2:TD jt dt n1 b2 ks eF R2 Z)(hb:b2+b<=20000)(hk:ks.length<59)(t:Int)(ht:t∈aB)(hn:t∉ks)(q:Nat->Option PV)(w:Option PV):
  ∃af aY v,aZ cf aa (.ba (.one 11) (.plain (.idx (.loc 5) (.loc 10))) xU) (gz q d jt (some (.int t)) w) Z=some (.ok (.next,gz q d jt (some (.int t)) v),af)/\
   TD jt dt n1 (b2+b) (kj ks t (R t).length) aY (up R2 t (R t)) af/\lY n1 dt ks (kj ks t (R t).length) eF aY Z af:=by
 have jZ:=h.at_ t ht
 have cZ:=BS t ht
 have hf:=lV (body:=ak cf aa xU) (t:=.one 11) (en:=false) (src:=.live (loc t)) (l:=(R t).map pr)
  (Inv:=λj J af=>(∃aY,TD jt dt n1 (b2+j) (kj ks t j) aY (up R2 t ((R t).take j)) af/\lY n1 dt ks (kj ks t j) eF aY Z af)/\∃v,J=gz q d jt (some (.int t)) v)
  (λk J af hi=>hi.1.elim λO h=>lW (h.2.1.get jZ cZ)) ?_ ((R t).map pr).length 0 (gz q d jt (some (.int t)) w) Z (Nat.zero_add _) ⟨⟨eF,by rw[List.take_zero,MY (h2.no t hn)];exact h2,lY.refl⟩,_,rfl⟩
 ·obtain ⟨aN,af,e1,⟨aY,h1,c1⟩,v,rfl⟩:=hf
  rw[List.length_map] at h1 c1
  rw[List.take_length] at h1
  exact⟨af,aY,v,(jL (i8 (v:=.ref (loc t)) (bF (x:=.ref d) (y:=.int t) rfl rfl (h.get ht)) (fR jZ))).trans (by rw[eZ jZ];exact e1),{h1 with rd:=h1.rd.mono (Nat.add_le_add_left (h.ln t ht) b2)},c1⟩
 ·intro j x J ai hx hi
  obtain ⟨⟨aY,h1,c1⟩,v,rfl⟩:=hi
  rw[List.getElem?_map] at hx
  obtain ⟨r,hr,rfl⟩:=Option.map_eq_some_iff.mp hx
  have hj:=Nat.lt_of_lt_of_le (List.getElem?_eq_some_iff.mp hr).1 (h.ln t ht)
  have hl:(kj ks t j).length<60:=by
   cases j with
   |zero=>exact Nat.lt_succ_of_lt hk
   |succ j=>rw[kj,List.length_append];exact Nat.succ_lt_succ hk
  have PH:gy (kj ks t j) t=kj ks t (j+1):=by
   cases j with
   |zero=>exact if_neg hn
   |succ j=>exact if_pos (List.mem_append_right _ List.mem_cons_self)
  obtain ⟨aU,BU,e2,bV,f2⟩:=BR (d:=d) xV h1 (Nat.le_trans (Nat.add_le_add_left (Nat.le_of_lt hj) b2) (Nat.le_trans hb (by decide))) hl t r q
  rw[PH,up_eq,vn] at bV
  rw[PH] at f2
  exact⟨_,rfl,_,aU,e2,⟨BU,by rw[List.take_add_one,hr,Option.toList_some];exact bV,c1.trans f2⟩,_,rfl⟩
noncomputable def gN(R:Int->List Row)(l:List Int):Int->List Row:=λt=>if t∈l then R t else []
noncomputable def eQ(R:Int->List Row)(l:List Int):List Int:=l.filter λt=> !(R t).isEmpty
theorem BV(R:Int->List Row)(l:List Int)(t:Int):gN R (l++[t])=up (gN R l) t (R t):=funext λk=>by
 rw[gN]
 by_cases e:k=t
 ·rw[e,up_eq,if_pos (List.mem_append_right _ List.mem_cons_self)]
 ·rw[cB e,gN]
  by_cases m:k∈l
  ·rw[if_pos m,if_pos (List.mem_append_left _ m)]
  ·rw[if_neg m,if_neg λh=>(List.mem_append.mp h).elim m λh=>e (List.mem_singleton.mp h)]
theorem BW(R:Int->List Row)(l:List Int)(t:Int):eQ R (l++[t])=kj (eQ R l) t (R t).length:=by
 rw[eQ,List.filter_append]
 cases h:R t with
 |nil=>rw[List.filter_cons_of_neg (by rw[h];exact Bool.noConfusion)];exact List.append_nil _
 |cons r rs=>rw[List.filter_cons_of_pos (by rw[h];rfl)];rfl
theorem Gf(xV:∀vs Z,cf 104 vs Z=ar ah aa 11 104 vs Z)(h:RD d n0 b aB loc R Z)(hd:d<n1)(BS:∀k∈aB,loc k<n1)(h2:TD jt dt n1 0 [] eF (λO=>[]) Z)(hb:b<=500)(q:Nat->Option PV)(MZ M0:Option PV):
  ∃af aY v w,aZ cf aa (.ba (.one 10) (.plain (.aF .sorted (.loc 5))) (.cons (.ba (.one 11) (.plain (.idx (.loc 5) (.loc 10))) xU) .nil)) (gz q d jt MZ M0) Z=some (.ok (.next,gz q d jt v w),af)/\
   TD jt dt n1 (23*b) (eQ R aB) aY (gN R aB) af/\Fr n1 Z af:=by
 have HE:=h.dict
 have Oy:builtin .sorted (.ref d) Z=some (.ref Z.length,Z++[.list (aB.map .int)]):=by
  show (aj Z d).bind (uZ Z)=_
  rw[HE]
  show ((intKeys (dT loc aB)).bind λks=>az (decide (ks.length<64)) ((gH (ks.map .int)).bind λl=>some (PV.ref Z.length,Z++[.list l])))=_
  rw[k9];rfl
 have C1:n1<=Z.length:=Nat.le_trans h2.nj (Nat.le_of_lt (bh _ _ _ h2.at_))
 have hf:=lV (body:=ak cf aa (.cons (.ba (.one 11) (.plain (.idx (.loc 5) (.loc 10))) xU) .nil)) (t:=.one 10) (en:=false) (src:=.live Z.length) (l:=aB.map .int)
  (Inv:=λk J af=>(∃aY,TD jt dt n1 (k*b) (eQ R (aB.take k)) aY (gN R (aB.take k)) af/\∀t∈eQ R (aB.take k),aY t≠Z.length)/\Fr n1 Z af/\aj af Z.length=some (.list (aB.map .int))/\∃v w,J=gz q d jt v w)
  (λk J af hi=>lW hi.2.2.1) ?_ 23 0 (gz q d jt MZ M0) (Z++[.list (aB.map .int)]) rfl ⟨⟨eF,by rw[Nat.zero_mul];exact h2.keep (bG _ _),λt ht=>absurd ht List.not_mem_nil⟩,Fr.app _ _ C1,bz _ _,_,_,rfl⟩
 ·obtain ⟨aN,af,e1,⟨aY,h1,_⟩,f1,_,v,w,rfl⟩:=hf
  have es:ag cf aa (.aF .sorted (.loc 5)) (gz q d jt MZ M0) Z=some (.ok (.ref Z.length),Z++[.list (aB.map .int)]):=aC (v:=.ref d) (ai:=Z) rfl (congrArg FR.lift Oy)
  exact⟨af,aY,v,w,(jL (i8 es (fR (bz _ _)))).trans (by rw[eZ (bz _ _)];exact e1),h1,f1⟩
 ·intro k x J ai hx hi
  obtain ⟨⟨fj,h1,c1⟩,f1,Oz,v,w,rfl⟩:=hi
  rw[List.getElem?_map] at hx
  obtain ⟨t,ht,rfl⟩:=Option.map_eq_some_iff.mp hx
  have hk:k<23:=(List.getElem?_eq_some_iff.mp ht).1
  have BX:aB.take (k+1)=aB.take k++[t]:=by rw[List.take_add_one,ht,Option.toList_some]
  have TL:t∉aB.take k:=λhh=>(List.nodup_append.mp (BX▸h.nk.sublist (List.take_sublist (k+1) _))).2.2 t hh t List.mem_cons_self rfl
  have h':RD d n0 b aB loc R ai:={h with dict:=f1.get HE hd,at_:=λk hk=>f1.get (h.at_ k hk) (BS k hk)}
  obtain ⟨aU,BU,v2,e2,bV,f2⟩:=Ge xV h' BS h1 (Nat.succ_mul k b▸Nat.le_trans (Nat.mul_le_mul hk hb) (by decide))
   (Nat.lt_of_le_of_lt (Nat.le_trans (List.length_filter_le _ _) (List.length_take_le k aB)) (Nat.lt_trans hk (by decide))) t (List.mem_of_getElem? ht) (λhh=>TL (List.mem_filter.mp hh).1) q w
  have a2:=f2.2 Z.length _ Oz (Nat.ne_of_gt (bh _ _ _ h2.rd.dict)) c1
  rw[<-BW] at a2 bV
  exact⟨_,rfl,_,aU,aG e2 rfl,⟨BU,by rw[BX,BV,Nat.succ_mul];exact bV,by rw[BX];exact a2.2⟩,f1.trans f2.1,a2.1,_,_,rfl⟩
end
noncomputable def dr(ns:List Int):List Int:=(ns.take 6).map λn=>n.fmod 1000003
noncomputable def hh(ns:List Int)(i:Nat):Int:=(dr ns++[0,0,0]).getD i 0
noncomputable def ef(ns:List Int):List Int:=(dr ns).drop 3
theorem oG(ns:List Int):(dr ns).length<=6:=by rw[dr,List.length_map];exact List.length_take_le _ _
section
variable{cf:Nat->List PV->ae->Out PV}{J:Loc}{Z ai:ae}
theorem uy{F:PV->ae->Out (Option PV)}{a:Nat}{l:List Int}{f:Int->Int}(g:aj Z a=some (.list (l.map .int)))(hF:∀x,F (.int x) Z=some (.ok (some (.int (f x))),Z))(hl:l.length<=60):
  ∀(j k:Nat),k+j=l.length->bW F (.live a) false (j+1) k Z=some (.ok ((l.drop k).map λx=>PV.int (f x)),Z)
 |0,k,e=>by
  have e:l.length<=k:=Nat.le_of_eq e.symm
  rw[List.drop_eq_nil_of_le e]
  exact i9 ((lW g).trans (congrArg some (List.getElem?_eq_none (by rw[List.length_map];exact e))))
 |j+1,k,e=>by
  have cZ:k<l.length:=e▸Nat.lt_add_of_pos_right (Nat.succ_pos j)
  rw[List.drop_eq_getElem_cons cZ]
  exact nF ((lW g).trans (congrArg some (by rw[List.getElem?_map,List.getElem?_eq_getElem cZ];rfl))) (Nat.le_trans (Nat.le_of_lt cZ) (Nat.le_trans hl (by decide))) (hF _) (uy g hF hl j (k+1) ((Nat.succ_add_eq_add_succ k j).trans e))
theorem comp_map{e elt:ME}{a:Nat}{l:List Int}{f:Int->Int}(hc:ag cf aa e J Z=some (.ok (.ref a),ai))(g:aj ai a=some (.list (l.map .int)))(he:∀x:Int,ag cf aa elt [some (.int x)] ai=some (.ok (.int (f x)),ai))(hl:l.length<=60):
  ag cf aa (.comp elt (.plain e) .no) J Z=some (.ok (.ref ai.length),ai++[.list ((l.map f).map .int)]):=by
 refine lD (i8 hc (fR g)) ?_
 rw[eZ g,List.length_map,List.map_map]
 refine uy (f:=f) g (λx=> ?_) hl l.length 0 (Nat.zero_add _)
 show aX (ag cf aa elt [some (.int x)] ai) (λy Z=>give (some y) Z)=_
 rw[he];rfl
theorem take3(l:List Int):((l++[0,0,0]).map PV.int).take 3=[.int ((l++[0,0,0]).getD 0 0),.int ((l++[0,0,0]).getD 1 0),.int ((l++[0,0,0]).getD 2 0)]:=by
 cases l with
 |nil=>rfl
 |cons a l=>cases l with
  |nil=>rfl
  |cons b l=>cases l with
   |nil=>rfl
   |cons c l=>rfl
end
noncomputable def words:List PV:=texts.map .str
noncomputable def xW:List PV:=oN.map .bytes
noncomputable abbrev BY(ns:List Int)(r:ae):ae:=.list ((ns.take 6).map .int)::.list ((dr ns).map .int)::.list [.int 0,.int 0,.int 0]::.list ((dr ns++[0,0,0]).map .int)::.list [.int (hh ns 0),.int (hh ns 1),.int (hh ns 2)]::r
noncomputable def pre(ns:List Int):ae:=BY ns [.attrs (some (.ref 9)),.list [.str []],.attrs (some (.ref 10)),.list [.bytes []],.list words,.list xW]
noncomputable abbrev hG(ns:List Int)(e f g h i j k:Option PV):Loc:=[some (.cQ (ns.map .int)),some (.ref 1),some (.ref 4),some (.inst 0 5),some (.inst 0 7),e,f,g,h,i,j,k]
theorem M1(ns:List Int)(n:Nat)(r:bq):ak (ar ah aa (n+1)) aa (.cons (.aA 3 (.new 0 (.cons (.k (.str [])) .nil))) (.cons (.aA 4 (.new 0 (.cons (.k (.bytes [])) .nil))) (.cons (.setAttr (.loc 3) (.aF .list (.gl 49))) (.cons (.setAttr (.loc 4) (.aF .list (.gl 48))) r))))
  [some (.cQ (ns.map .int)),some (.ref 1),some (.ref 4),none,none,none,none,none,none,none,none,none] (BY ns [])=ak (ar ah aa (n+1)) aa r (hG ns none none none none none none none) (pre ns):=rfl
theorem M3(ns:List Int)(xX:ns.length<=63)(cf:Nat->List PV->ae->Out PV)(r:bq):ak cf aa (.cons (.aA 1 (.comp (.bin .mod (.loc 0) (.k (.int 1000003))) (.plain (.slice (.loc 0) .no (.yes (.k (.int 6))))) .no))
 (.cons (.aA 2 (.slice (.bin .add (.loc 1) (.list (.cons (.k (.int 0)) (.cons (.k (.int 0)) (.cons (.k (.int 0)) .nil))))) .no (.yes (.k (.int 3))))) r)) (some (.cQ (ns.map .int))::List.replicate 11 none) []=
  ak cf aa r [some (.cQ (ns.map .int)),some (.ref 1),some (.ref 4),none,none,none,none,none,none,none,none,none] (BY ns []):=by
 have c1:ag cf aa (.slice (.loc 0) .no (.yes (.k (.int 6)))) (some (.cQ (ns.map .int))::List.replicate 11 none) []=some (.ok (.ref 0),[.list ((ns.take 6).map .int)]):=
  oA (v:=.cQ (ns.map .int)) (l:=ns.map .int) (u:=.none) (w:=some (.int 6)) (i:=0) (j:=min 6 (ns.map PV.int).length) (r:=(.ref 0,[.list ((ns.take 6).map .int)])) rfl rfl rfl rfl (map_fits (Nat.le_trans xX (by decide))) rfl (congrArg some (clipAt_nat _ 6)) (by
   show some (PV.ref 0,[MO.list ((ns.map PV.int).take (min 6 (ns.map PV.int).length))])=_
   rw[<-List.take_eq_take_min,List.map_take])
 have c2:=comp_map (f:=λx=>x.fmod 1000003) (elt:=.bin .mod (.loc 0) (.k (.int 1000003))) c1 rfl (λx=>rfl) (Nat.le_trans (List.length_take_le _ _) (by decide))
 have hl:(dr ns++[0,0,0]).length<=9:=by rw[List.length_append];exact Nat.add_le_add_right (oG ns) 3
 have hm:(dr ns).map PV.int++[.int 0,.int 0,.int 0]=(dr ns++[0,0,0]).map .int:=(List.map_append (f:=PV.int) (l₁:=dr ns) (l₂:=[0,0,0])).symm
 have c3:=D5 (cf:=cf) (Z:=[.list ((ns.take 6).map .int),.list ((dr ns).map .int)]) (J:=some (.cQ (ns.map .int))::some (.ref 1)::List.replicate 10 none) (X:=.loc 1) (jo:=.list (.cons (.k (.int 0)) (.cons (.k (.int 0)) (.cons (.k (.int 0)) .nil)))) (a:=1) (b:=2) (x:=(dr ns).map .int) (y:=[.int 0,.int 0,.int 0]) rfl rfl rfl rfl (hm▸map_fits (Nat.le_trans hl (by decide)))
 rw[hm] at c3
 have c4:=oA (lo:=.no) (hi:=.yes (.k (.int 3))) (u:=.none) (w:=some (.int 3)) (i:=0) (j:=3) (r:=(.ref 4,BY ns [])) c3 rfl rfl rfl (map_fits (Nat.le_trans hl (by decide))) rfl (kr (by decide) (by
  rw[List.length_map,List.length_append];exact Int.ofNat_le.mpr (Nat.le_add_left 3 _))) (by
  show some (PV.ref 4,_++[MO.list (((dr ns++[0,0,0]).map PV.int).take 3)])=_
  rw[take3];rfl)
 exact aG (cn c2) (aG (cn c4) rfl)
theorem Rf:words=texts.map .str:=rfl
theorem Rg:xW=oN.map .bytes:=rfl
noncomputable def brk(ns:List Int)(R:Int->List Row):List Ed×List PV:=if (hh ns 1).fmod 8>0 then cj ((hh ns 1).fmod 8-1) (hh ns 2) ((hh ns 1).fdiv 8) R else ([],[])
noncomputable def hJ(R:Int->List Row):Tb:=⟨gN R aB,eQ R aB,texts,oN⟩
noncomputable def HF(t:Int):Ev->Bool
 |.r row=>decide (row.length=(cols t).length)
 |_=>true
noncomputable def pq(R:Int->List Row)(e:Ed):Bool:=tF R e&&HF e.t e.v
noncomputable def jI:(Int->List Row)->List Ed->Bool
 |_,[]=>true
 |R,e::es=>pq R e&&jI (fx R e) es
structure Good(R:Int->List Row)(want:List PV):Prop where
 e1:(early (hJ R)).length<=1000
 e2:early (hJ R)=[]->(qK (hJ R)).length<=1000
 TM:∃l1 l2,fV (told (hJ R))=some l1/\fV want=some l2/\gO (eqv 6) l1 l2=some true
noncomputable def eg(R:Int->List Row):Prop:=(∀t,∀r∈R t,r.length=(cols t).length)/\(∀t,t∉aB->R t=[])
theorem eg.put{R:Int->List Row}(h:eg R){t:Int}(ht:t∈aB){l:List Row}(hl:∀r∈l,r.length=(cols t).length):eg (up R t l):=by
 refine⟨λt' r hr=> ?_,λt' sx=>(cB λ(e:t'=t)=>sx (e▸ht)).trans (h.2 t' sx)⟩
 by_cases e:t'=t
 ·rw[e,up_eq] at hr;rw[e];exact hl r hr
 ·rw[cB e] at hr;exact h.1 t' r hr
theorem eg.app{R:Int->List Row}(h:eg R){t:Int}(ht:t∈aB){l:List Row}(hl:(l.all λr=>decide (r.length=(cols t).length))=true):eg (up R t (R t++l)):=
 h.put ht λr hr=>(List.mem_append.mp hr).elim (h.1 t r) λm=>of_decide_eq_true (List.all_eq_true.mp hl r m)
theorem zU{α:Type}{d:α}{l:List (Int×α)}{t:Int}(h:t∉l.map (·.1)):look d l t=d:=by
 induction l with
 |nil=>rfl
 |cons p r ih=>exact(if_neg λ(e:p.1=t)=>h (e▸List.mem_cons_self)).trans (ih λm=>h (List.mem_cons_of_mem _ m))
theorem M4(core:Int):eg (R0 core):=by
 refine⟨λt r hr=> ?_,λt ht=>zU ht⟩
 by_cases ht:t∈(MH core).map (·.1)
 ·have key:((MH core).all λp=>p.2.all λr=>decide (r.length=(cols p.1).length))=true:=rfl
  exact of_decide_eq_true (List.all_eq_true.mp (List.all_eq_true.mp key _ (xc ht)) r hr)
 ·have e:R0 core t=[]:=zU ht
  rw[e] at hr;exact absurd hr List.not_mem_nil
theorem Gg{R:Int->List Row}(h:eg R)(e:E):eg (oz R e):=by
 have h3:=((h.app (t:=2) (by decide) (l:=[[1,e.nm,e.sp,e.ex,len R 4+1,len R 6+1]]) rfl).app (t:=4) (by decide) (l:=gL e.f) (by rcases e.f with _ | _ | _<;>rfl)).app (t:=6) (by decide) (l:=gM e.m) (by rcases e.m with _ | _ | _<;>rfl)
 rw[cB (R:=R) (t:=2) (k:=4) (by decide),cB (t:=4) (k:=6) (by decide),cB (R:=R) (t:=2) (k:=6) (by decide)] at h3
 exact h3
theorem sy(core:Int):∀(xs:List Int)(k:Nat){R:Int->List Row},eg R->eg (eY core k xs R)
 |[],_,_,h=>h
 |x::xs,k,_,h=>sy core xs (k+1) (Gg h _)
theorem kU(core:Int)(xs:List Int):eg (cP core xs):=by
 have h:=sy core xs 0 (M4 core)
 rw[cP]
 generalize eY core 0 xs (R0 core)=R at h⊢
 by_cases hx:xs=[]
 ·rw[if_pos hx];exact h
 ·rw[if_neg hx]
  have h3:=((h.app (t:=9) (by decide) (l:=[[len R 2,len R 2*4]]) rfl).app (t:=43) (by decide) (l:=[[len R 6*2,8]]) rfl).app (t:=44) (by decide) (l:=[[3,len R 2*4]]) rfl
  rw[cB (R:=R) (t:=9) (k:=43) (by decide),cB (t:=43) (k:=44) (by decide),cB (R:=R) (t:=9) (k:=44) (by decide)] at h3
  exact h3
theorem M5(core:Int):∀(xs:List Int)(k:Nat)(R:Int->List Row),eY core k xs R 32=R 32
 |[],_,_=>rfl
 |x::xs,k,R=>M5 core xs (k+1) _
theorem JD(core:Int)(xs:List Int):cP core xs 32=R0 core 32:=by
 rw[cP]
 by_cases hx:xs=[]
 ·rw[if_pos hx];exact M5 core xs 0 _
 ·rw[if_neg hx];exact M5 core xs 0 _
theorem Gh(core:Int)(xs:List Int):jk (cP core xs):=
 ⟨λr hr=>(kU core xs).1 2 r hr,by rw[JD];exact List.cons_ne_nil _ _,λr hr=>(kU core xs).1 32 r hr⟩
theorem JE{R:Int->List Row}(h:eg R){t row p:Int}{v:Ev}(he:tF R ⟨t,row,p,v⟩=true)(hr:HF t v=true):∀r∈sq R ⟨t,row,p,v⟩,r.length=(cols t).length:=by
 refine xP he (λUT ev ep=> ?_) (λep=> ?_) λhv p0 pl r1 rl=> ?_
 ·rw[ev] at hr⊢
  rw[sq,if_pos ep]
  exact λr m=>(List.mem_append.mp m).elim (h.1 t r) λm=>by rw[List.mem_singleton.mp m];exact of_decide_eq_true hr
 ·rw[sq,if_neg (λe:p= -1=>absurd (ep.symm.trans e) (by decide)),if_pos ep]
  exact λr m=>h.1 t r (List.mem_of_mem_take m)
 ·rw[sq,if_neg (λe:p= -1=>absurd (e▸p0) (by decide)),if_neg (λe:p= -2=>absurd (e▸p0) (by decide))]
  refine λr m=>(List.mem_append.mp m).elim (λm=>(List.mem_append.mp m).elim (λm=>h.1 t r (List.mem_of_mem_take m)) λm=> ?_) λm=>h.1 t r (List.mem_of_mem_drop m)
  have D7:0<=row-1:=Int.sub_nonneg_of_le r1
  have cZ:(row-1).toNat<(R t).length:=(Int.toNat_lt D7).mpr (Int.lt_of_lt_of_le (Int.sub_lt_self row (by decide)) rl)
  rw[List.mem_singleton.mp m,<-h.1 t _ (show (R t).getD (row-1).toNat []∈R t by rw[List.getD_eq_getElem?_getD,List.getElem?_eq_getElem cZ];exact List.getElem_mem cZ)]
  have hp:p.toNat<((R t).getD (row-1).toNat []).length:=(Int.toNat_lt p0).mpr pl
  show (((R t).getD (row-1).toNat []).take p.toNat++[Pw R v]++((R t).getD (row-1).toNat []).drop (p.toNat+1)).length=_
  rw[List.length_append,List.length_append,List.length_take,List.length_drop,Nat.min_eq_left (Nat.le_of_lt hp)]
  exact Nat.add_sub_cancel' hp
theorem Eg{R:Int->List Row}(h:eg R){e:Ed}(he:pq R e=true):eg (fx R e):=
 have he:=Bool.and_eq_true_iff.mp he
 h.put (HC he.1) (JE h he.1 he.2)
theorem Eh:∀{es:List Ed}{R:Int->List Row},jI R es=true->eg R->∀(k:Nat)(e:Ed),es[k]? =some e->pq ((es.take k).foldl fx R) e=true/\eg ((es.take k).foldl fx R)
 |[],_,_,_,_,_,h=>nomatch h
 |x::es,R,ho,hw,0,e,h=>by cases h;exact⟨(Bool.and_eq_true_iff.mp ho).1,hw⟩
 |x::es,R,ho,hw,k+1,e,h=>Eh (Bool.and_eq_true_iff.mp ho).2 (Eg hw (Bool.and_eq_true_iff.mp ho).1) k e h
theorem tG:∀{es:List Ed}{R:Int->List Row},jI R es=true->eg R->eg (es.foldl fx R)
 |[],_,_,hw=>hw
 |x::es,R,ho,hw=>tG (es:=es) (R:=fx R x) (Bool.and_eq_true_iff.mp ho).2 (Eg hw (Bool.and_eq_true_iff.mp ho).1)
theorem ky{R:Int->List Row}(hw:eg R):gN R aB=R:=funext λt=>by
 rw[gN]
 by_cases h:t∈aB
 ·rw[if_pos h]
 ·rw[if_neg h,hw.2 t h]
theorem Gi{R:Int->List Row}(hw:eg R)(hl:∀k∈aB,(R k).length<=500):Shape (hJ R) where
 len t:=by
  show (gN R aB t).length<=60000
  rw[ky hw]
  by_cases h:t∈aB
  ·exact Nat.le_trans (hl t h) (by decide)
  ·rw[hw.2 t h];exact Nat.zero_le _
 txt:=by show texts.length<=60000;decide
 gh:=by
  have h:(oN.all λs=>decide (s.length<=60000))=true:=by decide
  exact λs hs=>of_decide_eq_true (List.all_eq_true.mp h s hs)
 keys t ht:=(List.mem_filter.mp ht).1
 Om:=Nat.le_trans (List.length_filter_le _ _) (by decide)
 m8 t r hr:=hw.1 t r (ky hw▸hr)
noncomputable abbrev oH(q:Nat->Option PV)(d:Nat)(es:List Ed)(v:Option PV):Loc:=[q 0,q 1,q 2,q 3,q 4,some (.ref d),q 6,some (.tup (es.map i4)),v,q 9,q 10,q 11]
noncomputable abbrev HG:bq:=.cons (.expr (.ax 40 (.cons (.loc 5) (.cons (.idx (.loc 8) (.k (.int 0))) (.cons (.idx (.loc 8) (.k (.int 1))) (.cons (.idx (.loc 8) (.k (.int 2))) (.cons (.idx (.loc 8) (.k (.int 3))) .nil))))))) .nil
theorem M6{cf:Nat->List PV->ae->Out PV}{q:Nat->Option PV}{d:Nat}{es:List Ed}{e:Ed}{Z af:ae}(h:cf 40 [.ref d,.int e.t,.int e.row,.int e.p,pG e.v] Z=some (.ok .none,af)):ak cf aa HG (oH q d es (some (i4 e))) Z=some (.ok (.next,oH q d es (some (i4 e))),af):=
 have ev:bg cf aa (.cons (.loc 5) (.cons (.idx (.loc 8) (.k (.int 0))) (.cons (.idx (.loc 8) (.k (.int 1))) (.cons (.idx (.loc 8) (.k (.int 2))) (.cons (.idx (.loc 8) (.k (.int 3))) .nil))))) (oH q d es (some (i4 e))) Z=some (.ok [.ref d,.int e.t,.int e.row,.int e.p,pG e.v],Z):=rfl
 aG (jV (aC ev h)) rfl
theorem Gj(n:Nat){d n0:Nat}{loc:Int->Nat}{R:Int->List Row}{Z:ae}(h:RD d n0 30 aB loc R Z)(hw:eg R)(es:List Ed)(he:jI R es=true)(hl:es.length<=100)(q:Nat->Option PV)(p8:Option PV):
  ∃af aY v,aZ (ar ah aa (n+1)) aa (.ba (.one 8) (.plain (.loc 7)) HG) (oH q d es p8) Z=some (.ok (.next,oH q d es v),af)/\RD d n0 150 aB aY (es.foldl fx R) af/\Fr n0 Z af:=by
 have hf:=lV (body:=ak (ar ah aa (n+1)) aa HG) (t:=.one 8) (en:=false) (src:=.tup (es.map i4)) (l:=es.map i4)
  (Inv:=λk J af=>(∃aY,RD d n0 (30+k) aB aY ((es.take k).foldl fx R) af)/\Fr n0 Z af/\∃v,J=oH q d es v)
  (λk J af hi=>MG) ?_ (es.map i4).length 0 (oH q d es p8) Z (Nat.zero_add _) ⟨⟨loc,h⟩,Fr.refl _ _,_,rfl⟩
 ·obtain ⟨aN,af,e1,⟨aY,h1⟩,f1,v,rfl⟩:=hf
  rw[List.length_map,List.take_length] at h1
  exact⟨af,aY,v,e1,h1.mono (Nat.le_trans (Nat.add_le_add_left hl 30) (by decide)),f1⟩
 ·intro k x J ai hx hi
  obtain ⟨⟨fj,h1⟩,f1,v,rfl⟩:=hi
  rw[List.getElem?_map] at hx
  obtain ⟨e,hk,rfl⟩:=Option.map_eq_some_iff.mp hx
  obtain ⟨ho,TN⟩:=Eh he hw k e hk
  obtain ⟨aU,eF,e2,h2,f2⟩:=Jx n h1 (Nat.le_trans (Nat.add_le_add_left (Nat.le_trans (Nat.le_of_lt (List.getElem?_eq_some_iff.mp hk).1) hl) 30) (by decide)) e (λr hr=>by rw[TN.1 _ r hr];exact fP _) (Bool.and_eq_true_iff.mp ho).1
  exact⟨_,rfl,_,aU,M6 e2,⟨eF,by rw[List.take_add_one,hk,Option.toList_some,List.foldl_append];exact h2⟩,f1.trans f2,_,rfl⟩
theorem JF(n:Nat){jt dt n1 b:Nat}{loc:Int->Nat}{R:Int->List Row}{Z:ae}(h:TD jt dt n1 b (eQ R aB) loc (gN R aB) Z)(hw:eg R)(hl:∀k∈aB,(R k).length<=500){want:List PV}(g:Good R want)
  (x1:aj Z 5=some (.attrs (some (.ref 9)))) (x2:aj Z 9=some (.list words)) (y1:aj Z 7=some (.attrs (some (.ref 10)))) (y2:aj Z 10=some (.list xW)):
  ∃af a,ar ah aa (n+7) 4 [.inst 1 jt,.inst 0 5,.inst 0 7] Z=some (.ok (.ref a),af)/\aj af a=some (.list (told (hJ R))):=by
 have TO:aB.Pairwise (· < ·):=by decide
 have uj:(eQ R aB).length<64:=Nat.lt_of_le_of_lt (List.length_filter_le _ _) (by decide)
 have ww:WW ⟨Z.length,jt,5,7,hJ R,Z⟩:=⟨rfl,⟨dt,_,eQ R aB,h.at_,h.rd.dict,λt=>by
  by_cases ht:t∈eQ R aB
  ·exact .inr ⟨_,xM loc t ht,h.rd.at_ t ht⟩
  ·exact .inl ⟨HB loc t ht,h.no t ht⟩,k9 _ _,uj,ux _ (List.Pairwise.filter _ TO)⟩,⟨9,x1,x2⟩,⟨10,y1,y2,rfl⟩⟩
 have hk:∀t,(hJ R).R t≠[]->t∈eQ R aB:=λt ht=>by
  have ht:gN R aB t≠[]:=ht
  rw[ky hw] at ht
  refine List.mem_filter.mpr ⟨Decidable.byContradiction λm=>ht (hw.2 t m),?_⟩
  cases e:R t with
  |nil=>exact absurd e ht
  |cons r rs=>rfl
 obtain ⟨af,e,g'⟩:=F8 ww (Gi hw hl) hk (Nat.le_trans g.e1 (by decide)) (λhe=>Nat.le_trans (g.e2 he) (by decide)) n
 exact⟨af,_,e,g'⟩
section
variable{cf:Nat->List PV->ae->Out PV}{J:Loc}{Z ai:ae}
theorem tH{f:Nat}{es:bO}{vs:List PV}{r:Out PV}(h:bg cf aa es J Z=some (.ok vs,ai))(k:cf f vs ai=r):ag cf aa (.ax f es) J Z=r:=aC h k
theorem Gk{is:List Nat}{e:ME}{v:PV}{dB:Loc}(h:ag cf aa e J Z=some (.ok v,ai))(hb:eN (.many is) v J=some dB):aZ cf aa (.dD is e) J Z=some (.ok (.next,dB),ai):=by
 show au (ag cf aa e J Z) (λv Z=>FR.read Z ((eN (.many is) v J).bind λJ=>some (Fl.next,J)))=_
 rw[h]
 show FR.read ai ((eN (.many is) v J).bind λJ=>some (Fl.next,J))=_
 rw[hb];rfl
end
noncomputable def xY:Prop:=∀(ns:List Int),ns.length<=63->
 jI (cP ((hh ns 0).fmod 2) (ef ns)) (brk ns (cP ((hh ns 0).fmod 2) (ef ns))).1=true/\
 (brk ns (cP ((hh ns 0).fmod 2) (ef ns))).1.length<=100/\
 Good ((brk ns (cP ((hh ns 0).fmod 2) (ef ns))).1.foldl fx (cP ((hh ns 0).fmod 2) (ef ns))) (brk ns (cP ((hh ns 0).fmod 2) (ef ns))).2
section
variable{cf:Nat->List PV->ae->Out PV}{J:Loc}{Z:ae}{a:Nat}{x y z:PV}
theorem M7(hl:bo J 2=some (.ref a))(g:aj Z a=some (.list [x,y,z])):ag cf aa (.idx (.loc 2) (.k (.int 0))) J Z=some (.ok x,Z):=bF (x:=.ref a) (y:=.int 0) (d6 hl) rfl (f9 g)
theorem M8(hl:bo J 2=some (.ref a))(g:aj Z a=some (.list [x,y,z])):ag cf aa (.idx (.loc 2) (.k (.int 1))) J Z=some (.ok y,Z):=bF (x:=.ref a) (y:=.int 1) (d6 hl) rfl (f9 g)
theorem M9(hl:bo J 2=some (.ref a))(g:aj Z a=some (.list [x,y,z])):ag cf aa (.idx (.loc 2) (.k (.int 2))) J Z=some (.ok z,Z):=bF (x:=.ref a) (y:=.int 2) (d6 hl) rfl (f9 g)
end
noncomputable abbrev qY(ns:List Int):ae:=pre ns++[.list ((ef ns).map .int)]
section
variable(ns:List Int)
theorem Na:(((dr ns).map PV.int).drop (min 3 ((dr ns).map PV.int).length)).take (min 6 ((dr ns).map PV.int).length-min 3 ((dr ns).map PV.int).length)=(ef ns).map .int:=by
 have hD:=oG ns
 rw[ef,List.length_map,Nat.min_eq_right hD,List.map_drop]
 by_cases h3:3<=(dr ns).length
 ·rw[Nat.min_eq_left h3,List.take_of_length_le (by rw[List.length_drop,List.length_map];exact Nat.le_refl _)]
 ·have h3:=Nat.le_of_not_le h3
  rw[Nat.min_eq_right h3,List.drop_eq_nil_of_le (by rw[List.length_map];exact Nat.le_refl _),List.drop_eq_nil_of_le (by rw[List.length_map];exact h3),List.take_nil]
theorem Rh:∃ai d loc,aZ (ar ah aa 11) aa (.aA 5 (.ax 37 (.cons (.bin .mod (.idx (.loc 2) (.k (.int 0))) (.k (.int 2))) (.cons (.slice (.loc 1) (.yes (.k (.int 3))) (.yes (.k (.int 6)))) .nil)))) (hG ns none none none none none none none) (pre ns)=some (.ok (.next,hG ns (some (.ref d)) none none none none none none),ai)/\
  RD d 12 30 aB loc (cP ((hh ns 0).fmod 2) (ef ns)) ai/\Fr 12 (qY ns) ai:=by
 have TP:(ef ns).length<=3:=by rw[ef,List.length_drop];exact Nat.sub_le_sub_right (oG ns) 3
 obtain ⟨ai,d,loc,e1,r⟩:=Gb 10 ((hh ns 0).fmod 2) (ef ns) TP 11 (qY ns) (bz _ _)
 have TQ:(qY ns).length=12:=rfl
 rw[TQ] at r
 refine⟨ai,d,loc,cn (tH (vs:=[.int ((hh ns 0).fmod 2),.ref 11]) (ai:=qY ns) ?_ e1),r⟩
 refine aC (v:=.int ((hh ns 0).fmod 2)) (cO (b:=.k (.int 2)) (y:=2) (M7 (a:=4) (x:=.int (hh ns 0)) (y:=.int (hh ns 1)) (z:=.int (hh ns 2)) rfl rfl) rfl rfl) (aC (v:=[.ref 11]) (aC (v:=.ref 11) (ai:=qY ns) ?_ rfl) rfl)
 exact oA (v:=.ref 1) (l:=(dr ns).map .int) (u:=some (.int 3)) (w:=some (.int 6)) (i:=min 3 ((dr ns).map PV.int).length) (j:=min 6 ((dr ns).map PV.int).length) (r:=(.ref 11,qY ns)) rfl rfl rfl rfl (map_fits (Nat.le_trans (oG ns) (by decide))) (congrArg some (clipAt_nat _ 3)) (congrArg some (clipAt_nat _ 6)) (by rw[Na];rfl)
noncomputable abbrev Ri:MS:=.aP (.cmp .gt (.bin .mod (.idx (.loc 2) (.k (.int 1))) (.k (.int 8))) (.k (.int 0)))
 (.cons (.dD [7,6] (.ax 38 (.cons (.bin .sub (.bin .mod (.idx (.loc 2) (.k (.int 1))) (.k (.int 8))) (.k (.int 1))) (.cons (.idx (.loc 2) (.k (.int 2))) (.cons (.bin .fdiv (.idx (.loc 2) (.k (.int 1))) (.k (.int 8))) (.cons (.loc 5) .nil))))))
 (.cons (.ba (.one 8) (.plain (.loc 7)) HG) .nil)) .nil
theorem Rj{d:Nat}{loc:Int->Nat}{R:Int->List Row}{ai:ae}(h1:RD d 12 30 aB loc R ai)(g4:aj ai 4=some (.list [.int (hh ns 0),.int (hh ns 1),.int (hh ns 2)]))(hw:eg R)(TR:jk R)(p1:jI R (brk ns R).1=true)(p2:(brk ns R).1.length<=100):
  ∃aU eF v7 v8,aZ (ar ah aa 11) aa Ri (hG ns (some (.ref d)) (some (.tup [])) none none none none none) ai=some (.ok (.next,hG ns (some (.ref d)) (some (.tup (brk ns R).2)) v7 v8 none none none),aU)/\RD d 12 150 aB eF ((brk ns R).1.foldl fx R) aU/\Fr 12 ai aU:=by
 have c1:=M8 (cf:=ar ah aa 11) (J:=hG ns (some (.ref d)) (some (.tup [])) none none none none none) rfl g4
 have c2:=M9 (cf:=ar ah aa 11) (J:=hG ns (some (.ref d)) (some (.tup [])) none none none none none) rfl g4
 have cm:=cO (o:=.mod) (b:=.k (.int 8)) (y:=8) (z:=(hh ns 1).fmod 8) c1 rfl rfl
 have cg:ag (ar ah aa 11) aa (.cmp .gt (.bin .mod (.idx (.loc 2) (.k (.int 1))) (.k (.int 8))) (.k (.int 0))) (hG ns (some (.ref d)) (some (.tup [])) none none none none none) ai=some (.ok (.bool (decide ((hh ns 1).fmod 8>0))),ai):=dQ cm rfl rfl
 rw[brk] at p1 p2⊢
 by_cases h8:(hh ns 1).fmod 8>0
 ·rw[if_pos h8] at p1 p2⊢
  rw[decide_eq_true h8] at cg
  obtain ⟨Vp,ea,ha,fa⟩:=Ef 9 h1 (by decide) TR ((hh ns 1).fmod 8-1) (hh ns 2) ((hh ns 1).fdiv 8)
  generalize cj ((hh ns 1).fmod 8-1) (hh ns 2) ((hh ns 1).fdiv 8) R=bb at p1 p2 ea⊢
  obtain ⟨TS,Rk,v,eb,hb,fb⟩:=Gj 10 ha hw bb.1 p1 p2 (D3 (hG ns (some (.ref d)) (some (.tup bb.2)) none none none none none)) none
  have es:bg (ar ah aa 11) aa (.cons (.bin .sub (.bin .mod (.idx (.loc 2) (.k (.int 1))) (.k (.int 8))) (.k (.int 1))) (.cons (.idx (.loc 2) (.k (.int 2))) (.cons (.bin .fdiv (.idx (.loc 2) (.k (.int 1))) (.k (.int 8))) (.cons (.loc 5) .nil)))) (hG ns (some (.ref d)) (some (.tup [])) none none none none none) ai=some (.ok [.int ((hh ns 1).fmod 8-1),.int (hh ns 2),.int ((hh ns 1).fdiv 8),.ref d],ai):=
   aC (cO (z:=(hh ns 1).fmod 8-1) cm rfl rfl) (aC (aC c2 (aC (aC (cO (z:=(hh ns 1).fdiv 8) c1 rfl rfl) (aC (v:=[.ref d]) (ai:=ai) rfl rfl)) rfl)) rfl)
  exact⟨TS,Rk,some (.tup (bb.1.map i4)),v,(dU true cg).trans (aG (cY:=oH (D3 (hG ns (some (.ref d)) (some (.tup bb.2)) none none none none none)) d bb.1 none) (Gk (tH es ea) rfl) (aG eb rfl)),hb,fa.trans fb⟩
 ·rw[if_neg h8]
  rw[decide_eq_false h8] at cg
  exact⟨ai,loc,none,none,(dU false cg).trans rfl,h1.mono (by decide),Fr.refl _ _⟩
noncomputable abbrev qZ(Z:ae):ae:=sset (Z++[.attrs .none]++[.dict .int []]) Z.length (.attrs (some (.ref (Z++[MO.attrs .none]).length)))
theorem Rl(n:Nat)(e f g h:Option PV)(Z:ae):aZ (ar ah aa (n+1)) aa (.aA 9 (.new 1 .nil)) (hG ns e f g h none none none) Z=some (.ok (.next,hG ns e f g h (some (.inst 1 Z.length)) none none),qZ Z):=by
 have hg:aj (Z++[MO.attrs .none]++[.dict .int []]) Z.length=some (.attrs .none):=bG _ _ _ _ (bz _ _)
 have hi:ar ah aa (n+1) 103 [.inst 1 Z.length] (Z++[.attrs .none])=some (.ok .none,qZ Z):=by
  refine mO rfl rfl (aG (cY:=[some (.inst 1 Z.length)]) (ai:=qZ Z) ?_ rfl)
  show FR.put [some (PV.inst 1 Z.length)] (sH (.inst 1 Z.length) (.ref (Z++[MO.attrs .none]).length) (Z++[.attrs .none]++[.dict .int []]))=_
  show FR.put [some (PV.inst 1 Z.length)] ((aj (Z++[.attrs .none]++[.dict .int []]) Z.length).bind λa=>(lq a).bind λO=>az true (some (qZ Z)))=_
  rw[hg];rfl
 refine cn (aC (v:=[]) (ai:=Z) rfl ?_)
 show au (ar ah aa (n+1) 103 [.inst 1 Z.length] (Z++[.attrs .none])) (λr af=>(lp r).bind λO=>give (PV.inst 1 Z.length) af)=_
 rw[hi];rfl
theorem JG(Z:ae):TD Z.length (Z++[MO.attrs .none]).length Z.length 0 [] (λO=>0) (λO=>[]) (qZ Z)/\Fr Z.length Z (qZ Z):=by
 have one:∀(s:ae)(o:MO),s.length<(s++[o]).length:=λs o=>by rw[List.length_append];exact Nat.lt_succ_self _
 have l1:=one Z (.attrs .none)
 have l2:=Nat.lt_trans l1 (one (Z++[.attrs .none]) (.dict .int []))
 exact⟨⟨⟨(bB _ _ _ _ (Nat.ne_of_gt l1)).trans (bz _ _),λO hk=>absurd hk List.not_mem_nil,λO hk=>absurd hk List.not_mem_nil,Nat.le_of_lt l1,λO hk=>absurd hk List.not_mem_nil,λO hk=>absurd hk List.not_mem_nil,List.nodup_nil,Nat.zero_le _⟩,
  ez _ _ _ l2,λO O=>rfl,Nat.le_refl _⟩,((Fr.app Z _ (Nat.le_refl _)).trans (Fr.app _ _ (Nat.le_of_lt l1))).trans (Fr.set _ _ (Nat.le_refl _))⟩
theorem Rm{cf:Nat->List PV->ae->Out PV}{q:Nat->Option PV}{d jt a:Nat}{v w:Option PV}{want T l1 l2:List PV}{Z eG:ae}(q3:q 3=some (.inst 0 5))(q4:q 4=some (.inst 0 7))(q6:q 6=some (.tup want))(h:cf 4 [.inst 1 jt,.inst 0 5,.inst 0 7] Z=some (.ok (.ref a),eG))(g:aj eG a=some (.list T))
  (s1:fV T=some l1) (s2:fV want=some l2) (s3:gO (eqv 6) l1 l2=some true):∃Nb,aZ cf aa (.ret (.cmp .eq (.aF .sorted (.ax 4 (.cons (.loc 9) (.cons (.loc 3) (.cons (.loc 4) .nil))))) (.aF .sorted (.loc 6)))) (gz q d jt v w) Z=some (.ok (.ret (.bool true),gz q d jt v w),Nb):=by
 have b1:builtin .sorted (.ref a) eG=some (.ref eG.length,eG++[.list l1]):=by
  show (aj eG a).bind (uZ eG)=_
  rw[g]
  show (fV T).bind _=_
  rw[s1];rfl
 have b2:builtin .sorted (.tup want) (eG++[.list l1])=some (.ref (eG++[MO.list l1]).length,eG++[.list l1]++[.list l2]):=by
  show (fV want).bind _=_
  rw[s2];rfl
 have es:bg cf aa (.cons (.loc 9) (.cons (.loc 3) (.cons (.loc 4) .nil))) (gz q d jt v w) Z=some (.ok [.inst 1 jt,.inst 0 5,.inst 0 7],Z):=
  aC (v:=.inst 1 jt) (ai:=Z) rfl (aC (aC (d6 (i:=3) q3) (aC (aC (d6 (i:=4) q4) (aC (v:=[]) (ai:=Z) rfl rfl)) rfl)) rfl)
 have h2:ag cf aa (.aF .sorted (.loc 6)) (gz q d jt v w) (eG++[.list l1])=some (.ok (.ref (eG++[MO.list l1]).length),eG++[.list l1]++[.list l2]):=aC (d6 (i:=6) q6) (congrArg FR.lift b2)
 have h1:ag cf aa (.aF .sorted (.ax 4 (.cons (.loc 9) (.cons (.loc 3) (.cons (.loc 4) .nil))))) (gz q d jt v w) Z=some (.ok (.ref eG.length),eG++[.list l1]):=aC (tH es h) (congrArg FR.lift b1)
 refine⟨eG++[.list l1]++[.list l2],sP (u:=.bool true) (aC h1 (aC h2 ?_))⟩
 show FR.read _ ((((aj (eG++[MO.list l1]++[.list l2]) eG.length).bind cL).bind λx=>((aj (eG++[MO.list l1]++[.list l2]) (eG++[MO.list l1]).length).bind cL).bind λy=>gO (eqv 6) x y).bind λb=>some (PV.bool b))=_
 rw[bG _ _ _ _ (bz _ _),bz]
 show FR.read _ ((gO (eqv 6) l1 l2).bind λb=>some (PV.bool b))=_
 rw[s3];rfl
end
theorem Nc(hp:xY)(ns:List Int)(xX:ns.length<=63):∃af,ar ah aa 12 41 [.cQ (ns.map .int)] []=some (.ok (.bool true),af):=by
 obtain ⟨p1,p2,p3⟩:=hp ns xX
 have hw:=kU ((hh ns 0).fmod 2) (ef ns)
 obtain ⟨ai,d,loc,e1,h1,f1⟩:=Rh ns
 obtain ⟨aU,eF,v7,v8,e2,h2,f2⟩:=Rj ns h1 (f1.get (i:=4) rfl (by decide)) hw (Gh _ _) p1 p2
 have Hy:=tG p1 hw
 have TU:=f1.trans f2
 generalize (brk ns (cP ((hh ns 0).fmod 2) (ef ns))).1.foldl fx (cP ((hh ns 0).fmod 2) (ef ns))=R2 at h2 Hy p3
 generalize (brk ns (cP ((hh ns 0).fmod 2) (ef ns))).2=want at e2 p3
 obtain ⟨td,ja⟩:=JG aU
 have e3:=Rl ns 10 (some (.ref d)) (some (.tup want)) v7 v8 aU
 generalize qZ aU=lQ at td ja e3
 have cZ:∀k∈aB,eF k<aU.length:=λk hk=>bh _ _ _ (h2.at_ k hk)
 have hd2:=bh _ _ _ h2.dict
 have h3:RD d 12 150 aB eF R2 lQ:={h2 with dict:=ja.get h2.dict hd2,at_:=λk hk=>ja.get (h2.at_ k hk) (cZ k hk)}
 obtain ⟨TV,UU,v10,v11,e4,h4,f4⟩:=Gf (cf:=ar ah aa 11) (λO O=>rfl) h3 hd2 cZ td (by decide) (D3 (hG ns (some (.ref d)) (some (.tup want)) v7 v8 none none none)) none none
 have low:∀{i o},i<12->aj (qY ns) i=some o->aj TV i=some o:=λhi g=>have l:=Nat.lt_of_lt_of_le hi (Nat.le_trans h2.nd (Nat.le_of_lt hd2));f4.get (ja.get (TU.get g hi) l) l
 obtain ⟨eG,a,e5,g5⟩:=JF 4 h4 Hy (λk hk=>Nat.le_trans (h2.ln k hk) (by decide)) p3 (low (by decide) rfl) (low (by decide) rfl) (low (by decide) rfl) (low (by decide) rfl)
 obtain ⟨l1,l2,s1,s2,s3⟩:=p3.TM
 obtain ⟨Nb,e6⟩:=Rm (q:=D3 (hG ns (some (.ref d)) (some (.tup want)) v7 v8 none none none)) (d:=d) (v:=v10) (w:=v11) rfl rfl rfl e5 g5 s1 s2 s3
 exact⟨Nb,bA rfl rfl ((M3 ns xX _ _).trans ((M1 ns 10 _).trans (aG e1 (aG (cn rfl) (aG e2 (aG e3 (aG e4 (BQ e6))))))))⟩
noncomputable def iI(f m:Int):List E->List Row
 |[]=>[]
 |e::es=>[1,e.nm,e.sp,e.ex,f,m]::iI (f+(gL e.f).length) (m+(gM e.m).length) es
noncomputable def fl:List E->List Row
 |[]=>[]
 |e::es=>gL e.f++fl es
noncomputable def ml:List E->List Row
 |[]=>[]
 |e::es=>gM e.m++ml es
noncomputable def mS(core:Int):Nat->List Int->List E
 |_,[]=>[]
 |k,x::xs=>bU core k x::mS core (k+1) xs
noncomputable def oI(R:Int->List Row)(a b c:List Row):Int->List Row:=up (up (up R 2 a) 4 b) 6 c
noncomputable def sX(core:Int)(T F M:List Row):Int->List Row:=
 up (up (up (oI (R0 core) (R0 core 2++T) (R0 core 4++F) (R0 core 6++M)) 9 (R0 core 9++(if T.isEmpty then [] else [[((R0 core 2++T).length:Int),((R0 core 2++T).length:Int)*4]])))
  43 (R0 core 43++(if T.isEmpty then [] else [[((R0 core 6++M).length:Int)*2,8]]))) 44 (R0 core 44++(if T.isEmpty then [] else [[3,((R0 core 2++T).length:Int)*4]]))
noncomputable def sE(core:Int)(es:List E):Int->List Row:=sX core (iI 6 9 es) (fl es) (ml es)
theorem jQ{R:Int->List Row}{t:Int}{l:List Row}(h:R t=l):up R t l=R:=funext λk=>by
 by_cases e:k=t
 ·rw[e,up_eq,h]
 ·exact cB e
theorem tI{R:Int->List Row}{t u:Int}{a b:List Row}(h:t≠u):up (up R t a) u b=up (up R u b) t a:=funext λk=>by
 by_cases e:k=u
 ·rw[e,up_eq,cB λq=>h q.symm,up_eq]
 ·rw[cB e]
  by_cases f:k=t
  ·rw[f,up_eq,up_eq]
  ·rw[cB f,cB f,cB e]
theorem JH(R:Int->List Row)(a b c a' b' c':List Row):oI (oI R a b c) a' b' c'=oI R a' b' c':=by
 rw[oI,oI,oI,tI (t:=6) (u:=2) (by decide),tI (t:=4) (u:=2) (by decide),vn,tI (t:=6) (u:=4) (by decide),vn,vn]
theorem uz(core:Int):∀(xs:List Int)(k:Nat)(R:Int->List Row),eY core k xs R=oI R (R 2++iI (len R 4+1) (len R 6+1) (mS core k xs)) (R 4++fl (mS core k xs)) (R 6++ml (mS core k xs))
 |[],k,R=>by
  show R=up (up (up R 2 (R 2++[])) 4 (R 4++[])) 6 (R 6++[])
  rw[List.append_nil,List.append_nil,List.append_nil,jQ (R:=R) rfl,jQ (R:=R) rfl,jQ (R:=R) rfl]
 |x::xs,k,R=>by
  have l4:len (oz R (bU core k x)) 4+1=len R 4+1+(gL (bU core k x).f).length:=by
   show ((R 4++gL (bU core k x).f).length:Int)+1=_
   rw[List.length_append,Int.natCast_add,Int.add_right_comm];rfl
  have l6:len (oz R (bU core k x)) 6+1=len R 6+1+(gM (bU core k x).m).length:=by
   show ((R 6++gM (bU core k x).m).length:Int)+1=_
   rw[List.length_append,Int.natCast_add,Int.add_right_comm];rfl
  show eY core (k+1) xs (oz R (bU core k x))=_
  rw[uz core xs (k+1),l4,l6]
  show oI (oI R _ _ _) ((R 2++[_])++_) ((R 4++gL (bU core k x).f)++_) ((R 6++gM (bU core k x).m)++_)=_
  rw[JH,List.append_assoc,List.append_assoc,List.append_assoc];rfl
theorem Gl(core:Int)(xs:List Int):cP core xs=sE core (mS core 0 xs):=by
 have h:=uz core xs 0 (R0 core)
 cases xs with
 |nil=>
  have q:∀jo:Int->List Row,jo 9=R0 core 9->jo 43=R0 core 43->jo 44=R0 core 44->up (up (up jo 9 (R0 core 9++[])) 43 (R0 core 43++[])) 44 (R0 core 44++[])=jo:=λjo a b c=>by
   rw[List.append_nil,List.append_nil,List.append_nil,jQ a,jQ b,jQ c]
  exact(if_pos rfl).trans (h.trans (q (oI (R0 core) (R0 core 2++[]) (R0 core 4++[]) (R0 core 6++[])) rfl rfl rfl).symm)
 |cons x xs=>
  refine(if_neg (List.cons_ne_nil x xs)).trans ?_
  rw[h];rfl
noncomputable def TX:List (List Ed×List PV):=mf.map λe=>([e],[msg e.t e.row rU])
noncomputable def TY:List (List Ed×List PV):=gP.map λe=>([e],[msg e.t e.row gV])
noncomputable def TZ(R:Int->List Row):List (List Ed×List PV):=eT.map λs=>([⟨s.t,qX R s.row,s.p,.i (Gd R s.v)⟩],[msg s.t (qX R s.row) gE])
noncomputable def HH(l:List Spot)(V:List Int):List (List Ed×List PV):=l.flatMap λs=>V.map λv=>([⟨s.1,s.2.1,s.2.2,.i v⟩],[msg s.1 s.2.1 lK])
noncomputable def Ei(R:Int->List Row):List (List Ed×List PV):=TX++(TY++(TZ R++(HH i6 [24,25,26,27,28]++(HH (fX++hU) [9,10,11,12,13]++HH fX [0]))))
noncomputable def HI(a3:Bool):List Ed×List PV:=([⟨32,1,7,.i 0⟩],msg 32 1 j6::(if a3 then [msg 2 5 j8] else []))
noncomputable def jJ(a2 a3 c7:Bool):List Ed×List PV:=([⟨2,2,1,.i 17⟩],(if a2 then [msg 2 5 fc] else [])++(if c7 then [msg 2 2 j8]++(if a3 then [msg 2 5 j8] else []) else []))
noncomputable def zV:List (List Ed×List PV):=((dg.filter λs=> !decide (s.1=32)).map λs=>([⟨s.1,s.2.1,s.2.2,.i 0⟩],[msg s.1 s.2.1 j6]))++(([],[])::jK)
noncomputable def uA(a2 a3 c7:Bool):List (List Ed×List PV):=[HI a3,jJ a2 a3 c7]
noncomputable def HJ(R:Int->List Row):List (List Ed×List PV):=zV++uA (eH R 2) (eH R 3) (decide (cl ((R 32).getD 0 []) 7=23))
theorem xZ{α:Type}{l:List α}{d:α}{k:Nat}(h:k<l.length):l.getD k d∈l:=by
 rw[List.getD_eq_getElem?_getD,List.getElem?_eq_getElem h]
 exact List.getElem_mem _
theorem getD_in{α:Type}{l:List α}{d:α}{i:Int}(h0:0<=i)(h1:i<l.length):l.getD i.toNat d∈l:=xZ ((Int.toNat_lt h0).mpr h1)
theorem getD_or{α:Type}{A B:List α}{d:α}{i:Int}(h0:0<=i)(h1:i<(A++B).length):(i<A.length->(A++B).getD i.toNat d∈A)/\(¬i<A.length->(A++B).getD i.toNat d∈B):=by
 rw[List.getD_eq_getElem?_getD]
 have h1:=(Int.toNat_lt h0).mpr h1
 rw[List.length_append] at h1
 refine⟨λh=> ?_,λh=> ?_⟩
 ·rw[List.getElem?_append_left ((Int.toNat_lt h0).mpr h),<-List.getD_eq_getElem?_getD];exact getD_in h0 h
 ·have h:=Nat.le_of_not_lt λq=>h ((Int.toNat_lt h0).mp q)
  rw[List.getElem?_append_right h,<-List.getD_eq_getElem?_getD];exact xZ (Nat.sub_lt_left_of_lt_add h h1)
theorem PI(a:Int){z:Int}(h:0<=z/\z<5):a+z∈(List.range 5).map λk=>a+((k:Nat):Int):=List.mem_map.mpr ⟨z.toNat,List.mem_range.mpr ((Int.toNat_lt h.1).mpr h.2),by rw[Int.toNat_of_nonneg h.1]⟩
theorem x3{l:List Spot}{V:List Int}{s:Spot}{v:Int}(h:s∈l)(hv:v∈V):([⟨s.1,s.2.1,s.2.2,.i v⟩],[msg s.1 s.2.1 lK])∈HH l V:=List.mem_flatMap.mpr ⟨s,h,List.mem_map.mpr ⟨v,hv,rfl⟩⟩
theorem y8{z:Int}(h0:0<=z)(R:Int->List Row):d7 z R∈HJ R:=by
 rw[d7]
 by_cases h:z<11
 ·rw[if_pos h]
  have hs:dg.getD z.toNat (0,0,0)∈dg:=getD_in h0 h
  generalize dg.getD z.toNat (0,0,0)=s at hs⊢
  by_cases e:s.1=32
  ·have key:∀s∈dg,s.1=32->s=(32,1,7):=by decide
   rw[key s hs e]
   exact List.mem_append_right _ List.mem_cons_self
  ·refine List.mem_append_left _ (List.mem_append_left _ (List.mem_map.mpr ⟨s,List.mem_filter.mpr ⟨hs,by rw[decide_eq_false e];rfl⟩,?_⟩))
   show _=([_],msg s.1 s.2.1 j6::(if decide (s.1=32)&&eH R 3 then [msg 2 5 pj] else []))
   rw[decide_eq_false e];rfl
 ·rw[if_neg h]
  refine List.mem_append_right _ (List.mem_cons_of_mem _ (List.mem_singleton.mpr ?_))
  rw[jJ]
  by_cases hc:cl ((R 32).getD 0 []) 7=23
  ·rw[if_pos hc,decide_eq_true hc];rfl
  ·rw[if_neg hc,decide_eq_false hc];rfl
theorem OA(way x y:Int)(R:Int->List Row):cj way x y R∈Ei R++HJ R:=by
 rw[cj]
 by_cases h0:way=0
 ·have hm:=dH x 8 (by decide)
  rw[if_pos h0]
  exact List.mem_append_left _ (List.mem_append_left _ (List.mem_map.mpr ⟨_,getD_in hm.1 hm.2,rfl⟩))
 rw[if_neg h0]
 by_cases h1:way=1
 ·have hm:=dH x 30 (by decide)
  rw[if_pos h1]
  exact List.mem_append_left _ (List.mem_append_right _ (List.mem_append_left _ (List.mem_map.mpr ⟨_,getD_in hm.1 hm.2,rfl⟩)))
 rw[if_neg h1]
 by_cases h2:way=2
 ·have hm:=dH x 13 (by decide)
  rw[if_pos h2]
  exact List.mem_append_left _ (List.mem_append_right _ (List.mem_append_right _ (List.mem_append_left _ (List.mem_map.mpr ⟨_,getD_in hm.1 hm.2,rfl⟩))))
 rw[if_neg h2]
 by_cases h3:way=3
 ·have hm:=dH x 27 (by decide)
  have hy:=dH y 5 (by decide)
  have ho:=getD_or (A:=i6) (B:=fX++hU) (d:=(0,0,0)) hm.1 hm.2
  rw[if_pos h3,BP,List.append_assoc]
  refine List.mem_append_left _ (List.mem_append_right _ (List.mem_append_right _ (List.mem_append_right _ ?_)))
  by_cases h:x.fmod 27>15
  ·rw[if_pos h]
   exact List.mem_append_right _ (List.mem_append_left _ (x3 (ho.2 (Int.not_lt.mpr h)) (PI 9 hy)))
  ·rw[if_neg h]
   exact List.mem_append_left _ (x3 (ho.1 (Int.lt_add_one_of_le (Int.not_lt.mp h))) (PI 24 hy))
 rw[if_neg h3]
 have hm:=dH x 19 (by decide)
 by_cases h4:way=4/\x.fmod 19<7
 ·rw[if_pos h4]
  exact List.mem_append_left _ (List.mem_append_right _ (List.mem_append_right _ (List.mem_append_right _ (List.mem_append_right _ (List.mem_append_right _ (x3 (getD_in hm.1 h4.2) List.mem_cons_self))))))
 rw[if_neg h4]
 by_cases h5:way=4
 ·rw[if_pos h5]
  exact List.mem_append_right _ (y8 (Int.sub_nonneg_of_le (Int.not_lt.mp λq=>h4 ⟨h5,q⟩)) R)
 ·have hm:=dH x 85 (by decide)
  rw[if_neg h5]
  exact List.mem_append_right _ (List.mem_append_left _ (List.mem_append_right _ (List.mem_cons_of_mem _ (getD_in hm.1 hm.2))))
noncomputable def tb(R:Int->List Row):Tb:=⟨R,[],texts,oN⟩
noncomputable def Nd:PV->List PV
 |.tup l=>l
 |_=>[]
noncomputable def Rn:PV->List Nat
 |.str s=>s
 |_=>[]
noncomputable def Ro:PV->Int
 |.int i=>i
 |_=>0
noncomputable def mw(p:PV):List Nat:=Rn ((Nd p).getD 2 .none)
noncomputable def mt(p:PV):Int:=Ro ((Nd p).getD 0 .none)
noncomputable def PJ(a b:PV):Bool:=match a with
 |.int i=>match b with
  |.int j=>decide (i=j)
  |_=>false
 |.str s=>match b with
  |.str t=>decide (s=t)
  |_=>false
 |_=>false
noncomputable def HK(f:PV->PV->Bool):List PV->List PV->Bool
 |[],m=>m.isEmpty
 |a::l,m=>match m with
  |b::m=>f a b&&HK f l m
  |[]=>false
noncomputable def PK(a b:PV):Bool:=match a with
 |.tup l=>match b with
  |.tup m=>HK PJ l m
  |_=>false
 |_=>false
noncomputable abbrev HL:List PV->List PV->Bool:=HK PK
theorem x4{f:PV->PV->Bool}(hf:∀{a b},f a b=true->a=b):∀{l m:List PV},HK f l m=true->l=m
 |[],m,h=>(List.isEmpty_iff.mp h).symm
 |a::l,m,h=>by
  cases m with
  |nil=>cases h
  |cons b m=>
   have h:=Bool.and_eq_true_iff.mp h
   rw[hf h.1,x4 hf h.2]
theorem Nf{a b:PV}(h:PJ a b=true):a=b:=by
 cases a with
 |int i=>cases b with
  |int j=>exact congrArg PV.int (of_decide_eq_true h)
  |_=>cases h
 |str s=>cases b with
  |str t=>exact congrArg PV.str (of_decide_eq_true h)
  |_=>cases h
 |_=>cases h
theorem Ng{a b:PV}(h:PK a b=true):a=b:=by
 cases a with
 |tup l=>cases b with
  |tup m=>exact congrArg PV.tup (x4 Nf h)
  |_=>cases h
 |_=>cases h
theorem x5{l l':List PV}(h:HL l l'=true):l=l':=x4 Ng h
noncomputable abbrev Part:=(Tb->List PV)×(List Ed->PV->Bool)
noncomputable def vp(ps:List Int):List Ed->Bool
 |[]=>false
 |e::es=>gU e.t ps||vp ps es
noncomputable def mF(p:Part)(ps:List Int)(R:Int->List Row)(w:List Ed×List PV):Bool:=bif vp ps w.1 then HL (p.1 (tb (w.1.foldl fx R))) (w.2.filter (p.2 w.1)) else (w.2.filter (p.2 w.1)).isEmpty
noncomputable def nX(p:Part)(ps:List Int)(ws:List (List Ed×List PV))(R:Int->List Row):Bool:=HL (p.1 (tb R)) []&&ws.all (mF p ps R)
noncomputable def BZ(p:Part)(ps:List Int):Prop:=∀R R':Int->List Row,(∀t,gU t ps=true->R t=R' t)->p.1 (tb R)=p.1 (tb R')
noncomputable def pv(ps:List Int)(R:Int->List Row):Int->List Row:=λt=>if gU t ps then R t else []
theorem zW{p:Part}{ps:List Int}(h:∀R,p.1 (tb R)=p.1 (tb (pv ps R))):BZ p ps:=λR R' hh=>by
 have e:pv ps R=pv ps R':=funext λt=>by
  rw[pv,pv]
  by_cases m:gU t ps=true
  ·rw[if_pos m,if_pos m,hh t m]
  ·rw[if_neg m,if_neg m]
 rw[h R,h R',e]
theorem zX{ps:List Int}:∀(es:List Ed)(R:Int->List Row),vp ps es=false->∀t,gU t ps=true->es.foldl fx R t=R t
 |[],_,_,_,_=>rfl
 |e::es,R,h,t,ht=>by
  have h:=Bool.or_eq_false_iff.mp h
  exact(zX es _ h.2 t ht).trans (cB λq=>Bool.noConfusion (h.1.symm.trans (q▸ht)))
theorem Ni{p:Part}{ps:List Int}{ws:List (List Ed×List PV)}{R:Int->List Row}(h:nX p ps ws R=true)(ho:BZ p ps){w:List Ed×List PV}(hw:w∈ws):p.1 (tb (w.1.foldl fx R))=w.2.filter (p.2 w.1):=by
 have h:=Bool.and_eq_true_iff.mp h
 have h2:=List.all_eq_true.mp h.2 w hw
 rw[mF] at h2
 cases ht:vp ps w.1 with
 |true=>rw[ht] at h2;exact x5 h2
 |false=>
  rw[ht] at h2
  rw[ho _ R (zX w.1 R ht),x5 h.1,List.isEmpty_iff.mp h2]
noncomputable def build{X:Type}(g:Nat->E)(upd:E->X->E):Nat->List X->List E
 |_,[]=>[]
 |k,x::xs=>upd (g k) x::build g upd (k+1) xs
theorem x6{X:Type}(get:E->X)(upd:E->X->E)(hu:∀e,upd e (get e)=e)(g:Nat->E)(d:E):∀(es:List E)(k:Nat),(∀i,g (k+i)=es.getD i d)->build g upd k (es.map get)=es
 |[],_,_=>rfl
 |e::es,k,h=>by
  show upd (g k) (get e)::build g upd (k+1) (es.map get)=_
  rw[x6 get upd hu g d es (k+1) λi=>(congrArg g (Nat.succ_add_eq_add_succ k i)).trans (h (i+1)),show g k=e from h 0,hu]
end FR.Q
section
set_option maxRecDepth 100000
namespace FR.Q
open PySem
noncomputable def iS{X:Type}:List (List X)->List (List X)
 |[]=>[[]]
 |V::Vs=>[]::V.flatMap λx=>(iS Vs).map (x:: ·)
noncomputable def dE{X:Type}:List X->List (List X)
 |[]=>[[]]
 |x::xs=>[]::(dE xs).map (x:: ·)
noncomputable def d3:List Nat:=[0,1,2]
noncomputable def pW:List (List Nat):=iS [d3,d3,d3]
noncomputable def q9(e:E)(x:Nat):E:={e with f:=x}
noncomputable def rf(e:E)(x:Nat):E:={e with m:=x}
noncomputable def Nj(e:E)(x:Int):E:={e with ex:=x}
noncomputable def mT(e:E)(x:Int×Int):E:={e with nm:=x.1,sp:=x.2}
noncomputable def B0(e:E)(x:Int×Int×Int):E:={e with nm:=x.1,sp:=x.2.1,ex:=x.2.2}
noncomputable def Nk:List (List Int):=iS [[5,8,0],[5,8],[5,8]]
noncomputable def x7:List (List (Int×Int)):=iS [[(20,0),(20,19),(17,0),(17,19)],[(21,0),(21,19)],[(2,19)]]
noncomputable def a0:List (List (Int×Int×Int)):=iS [[(20,0,5),(20,0,8),(20,19,5),(20,19,8),(17,0,5),(17,0,8),(17,19,5),(17,19,8)],[(21,0,5),(21,0,8),(21,19,5),(21,19,8)],[(2,19,5),(2,19,8)]]
noncomputable def a1:List (List (Int×Int×Int)):=iS [[(20,0,5),(20,0,8),(20,19,5),(20,19,8),(17,0,0),(17,19,5),(17,19,8)],[(21,0,5),(21,0,8),(21,19,5),(21,19,8)],[(2,19,5),(2,19,8)]]
noncomputable def tS(w:PV):Bool:=th (mw w) [rU,gV,gE,lK]
noncomputable def rg:List (List Ed×List PV):=[HI false,HI true,jJ false false false,jJ true false false,jJ false false true,jJ false true true,jJ true false true,jJ true true true]
noncomputable def du(R:Int->List Row):List (List Ed×List PV):=Ei R++(zV++rg)
noncomputable def oJ:List (List Ed×List PV):=zV.filter λw=> !w.2.any tS
noncomputable def zY:List (List Ed×List PV):=oJ++rg
noncomputable def sz(R:Int->List Row):List (List Ed×List PV):=oJ++uA (eH R 2) (eH R 3) (decide (cl ((R 32).getD 0 []) 7=23))
noncomputable def cT(w:List Nat)(t:Int):List Ed->PV->Bool:=λO v=>decide (mw v=w)&&decide (mt v=t)
noncomputable def cW(w:List Nat):List Ed->PV->Bool:=λO v=>decide (mw v=w)
noncomputable def iX(t:Int):Part:=(λB=>Bx B t,cT rU t)
noncomputable def cK(t:Int):Part:=(λB=>Fw B t,cT gV t)
noncomputable def fy(t:Int):Part:=(λB=>By B t,cT lK t)
noncomputable def gf(l:Row):Part:=(λB=>listOf B (cl l 0) (cl l 1).toNat (cl l 2),λes v=>decide (mw v=gE)&&(match es with
 |e::_=>decide (e.t=cl l 0)&&(decide (e.p=cl l 1)||decide (e.p= -2))
 |[]=>false))
noncomputable def ew(x:Int×List Nat×Nat):Part:=(λB=>BC B x.1 x.2.2,cT j6 x.1)
noncomputable def sA(t:Int):Part:=(λB=>ve B t,cT BB t)
noncomputable def pX(t:Int)(p:Nat)(o:Int)(np:Nat)(sp:Int):Part:=(λB=>dM B t p o np sp,cT fc o)
noncomputable def zZ:Part:=(jN,λO v=>th (mw v) [j7,mJ])
noncomputable def rh:Part:=(kb,cT fc 2)
noncomputable def Nl:Part:=(j9,cT fc 1)
noncomputable def Ej:Part:=(lN,cW lM)
noncomputable def mU:Part:=(bases,cW j8)
noncomputable def Ek:Part:=(lL,cW tj)
noncomputable def HM:Part:=(λB=>lO (B.R 6),cW rV)
noncomputable def El:Part:=(constants,cW f7)
noncomputable def Em:Part:=(params,cW tm)
noncomputable def Nn:Part:=(iQ,λO v=>decide (mw v=qI)||(decide (mw v=fc)&&decide (mt v=42)))
noncomputable def B1:Part:=(fQ,cW pa)
noncomputable def HN:Part:=(o9,cW xf)
noncomputable def HO:Part:=(nested,cW gX)
noncomputable def Np(p:Part)(ws:List (List Ed×List PV))(R:Int->List Row):Bool:=ws.all λw=>HL (p.1 (tb (w.1.foldl fx R))) (w.2.filter (p.2 w.1))
noncomputable def n2(k:Nat):Int×List Nat×Nat:=named.getD k (0,[],0)
noncomputable abbrev z0:=(Int->List Row)->List (List Ed×List PV)
noncomputable abbrev wL:z0:=λO=>zY
noncomputable abbrev PL:=List (Part×List Int)
noncomputable def bQ(W:z0)(l:PL)(R:Int->List Row):Bool:=l.all λq=>nX q.1 q.2 (W R) R
noncomputable def z4:List Nat->List Row
 |[]=>[]
 |m::ms=>gM m++z4 ms
noncomputable def Eo:List Nat->List Row
 |[]=>[]
 |m::ms=>gL m++Eo ms
noncomputable def sC:List (List Nat):=iS [[1,2],[1,2],[1,2]]
noncomputable abbrev T1:PL:=[0,1,4,6,8,10,11,17,18,20,21,23,24,25,27,32,35,41,42].map λt=>(iX t,[t])
noncomputable abbrev T3:PL:=[0,1,8,10,11,17,18,20,21,23,24,25,27,35,41,42].map λt=>(fy t,[t])
noncomputable abbrev T4:PL:=[(cK 0,[0]),(cK 1,[1,0,35]),(cK 4,[4]),(cK 6,[6]),(cK 8,[8]),(cK 17,[17]),(cK 23,[23]),(cK 27,[27]),(cK 32,[32]),(cK 35,[35])]
noncomputable abbrev T5:PL:=[(gf [18,1,20],[18,20]),(gf [21,1,23],[21,23])]
noncomputable abbrev T6:PL:=[(iX 9,[9]),(iX 44,[44]),(fy 9,[9]),(fy 44,[44])]
noncomputable abbrev T7:PL:=[(cK 9,[9,2,1,27]),(cK 10,[10,2,1,6,27]),(cK 18,[18,2]),(cK 20,[20,2,1,27]),(cK 21,[21,2]),(cK 41,[41,2]),(cK 44,[44,42,2,1,27])]
noncomputable abbrev T8:PL:=[(iX 43,[43]),(fy 43,[43])]
noncomputable abbrev T9:PL:=[(cK 24,[24,6,20,23]),(cK 25,[25,2,6,10]),(cK 42,[42,2,6]),(cK 43,[43,6,10])]
noncomputable abbrev Ua:PL:=[(zZ,[0,32,2]),(sA 18,[18]),(sA 21,[21]),(ew (n2 0),[0]),(ew (n2 1),[1]),(ew (n2 5),[10]),(ew (n2 6),[20]),(ew (n2 7),[23]),(ew (n2 9),[35]),(ew (n2 10),[42]),(Nl,[1]),(pX 21 1 23 1 2,[21,23]),(pX 18 1 20 1 (-1),[18,20]),(Nn,[42]),(HO,[41])]
noncomputable abbrev PM:PL:=[(ew (n2 4),[6]),(Ek,[6]),(HM,[6]),(Em,[6,8])]
noncomputable abbrev PN:PL:=[(ew (n2 3),[4]),(El,[11,4])]
noncomputable abbrev PO:PL:=[(HN,[25,2,6]),(Ej,[2,4])]
theorem Ub:∀(core:Int)(T F M:List Row),bQ du T1 (sX core T F M)=true:=by intros;kernel_rfl
theorem Uc:∀(core:Int)(T F M:List Row),bQ du T3 (sX core T F M)=true:=by intros;kernel_rfl
theorem Ud:∀(core:Int)(T F M:List Row),bQ du T4 (sX core T F M)=true:=by intros;kernel_rfl
theorem Ue:∀(core:Int)(T F M:List Row),bQ du T5 (sX core T F M)=true:=by intros;kernel_rfl
theorem Ug:∀(core:Int)(T F M:List Row),bQ wL Ua (sX core T F M)=true:=by intros;kernel_rfl
theorem Rp:∀(T F M:List Row),([0,1].all λcore=>bQ du [(fy 32,[32])] (sX core T F M))=true:=by intros;kernel_rfl
theorem Rq:∀(T F M:List Row),([0,1].all λcore=>bQ wL [(ew (n2 8),[32])] (sX core T F M))=true:=by intros;kernel_rfl
theorem Uh:∀(core:Int)(t0 t1 t2:Row)(F M:List Row),((dE [t0,t1,t2]).all λT=>bQ du T6 (sX core T F M))=true:=by intros;kernel_rfl
theorem Ui:∀(core:Int)(t0 t1 t2:Row)(F M:List Row),((dE [t0,t1,t2]).all λT=>bQ du T7 (sX core T F M))=true:=by intros;kernel_rfl
theorem Uj:∀(core:Int)(t0 t1 t2 m0 m1 m2 m3 m4 m5:Row)(F:List Row),((dE [t0,t1,t2]).all λT=>(dE [m0,m1,m2,m3,m4,m5]).all λM=>bQ du T8 (sX core T F M))=true:=by intros;kernel_rfl
theorem Uk:∀(core:Int)(t0 t1 t2 m0 m1 m2 m3 m4 m5:Row)(F:List Row),((dE [t0,t1,t2]).all λT=>(dE [m0,m1,m2,m3,m4,m5]).all λM=>bQ du T9 (sX core T F M))=true:=by intros;kernel_rfl
theorem Ul:∀(core:Int)(f0 f1 f2 f3 f4 f5:Row)(T M:List Row),((dE [f0,f1,f2,f3,f4,f5]).all λF=>bQ du [(cK 11,[11,4,8,23])] (sX core T F M))=true:=by intros;kernel_rfl
theorem Um:∀(core:Int)(g:Nat->E),(Nk.all λxs=>bQ du [(iX 2,[2]),(cK 2,[2,1,27])] (sE core (build g Nj 0 xs)))=true:=by intros;kernel_rfl
theorem Un:∀(core:Int)(g:Nat->E),(x7.all λxs=>bQ du [(fy 2,[2])] (sE core (build g mT 0 xs)))=true:=by intros;kernel_rfl
theorem Uo:∀(core:Int)(g:Nat->E),(x7.all λxs=>bQ wL [(ew (n2 2),[2])] (sE core (build g mT 0 xs)))=true:=by intros;kernel_rfl
theorem Up:∀(core:Int)(T M:List Row),(sC.all λfs=>bQ du [(fy 4,[4])] (sX core T (Eo fs) M))=true:=by intros;kernel_rfl
theorem Uq:∀(core:Int)(T M:List Row),(sC.all λfs=>bQ wL PN (sX core T (Eo fs) M))=true:=by intros;kernel_rfl
theorem Ur:∀(core:Int)(T F:List Row),(sC.all λms=>bQ du [(fy 6,[6])] (sX core T F (z4 ms)))=true:=by intros;kernel_rfl
theorem Us:∀(core:Int)(T F:List Row),(sC.all λms=>bQ du [(gf [6,5,8],[6,8])] (sX core T F (z4 ms)))=true:=by intros;kernel_rfl
theorem Ut:∀(core:Int)(T F:List Row),(sC.all λms=>bQ wL PM (sX core T F (z4 ms)))=true:=by intros;kernel_rfl
theorem Uu:∀(core:Int)(g:Nat->E),(pW.all λxs=>bQ du [(gf [2,4,4],[2,4])] (sE core (build g q9 0 xs)))=true:=by intros;kernel_rfl
theorem Uv:∀(core:Int)(g:Nat->E),(pW.all λxs=>bQ du [(gf [2,5,6],[2,6])] (sE core (build g rf 0 xs)))=true:=by intros;kernel_rfl
theorem Uw:∀(core:Int)(g:Nat->E),(pW.all λxs=>bQ wL [(pX 2 4 4 1 2,[2,4])] (sE core (build g q9 0 xs)))=true:=by intros;kernel_rfl
theorem Ux:∀(core:Int)(g:Nat->E),(pW.all λxs=>bQ wL [(pX 2 5 6 3 4,[2,6])] (sE core (build g rf 0 xs)))=true:=by intros;kernel_rfl
theorem Uy:∀(core:Int)(e0 e1 e2:E),((dE [e0,e1,e2]).all λes=>bQ wL PO (sE core es))=true:=by intros;kernel_rfl
theorem Uz:∀(core:Int)(e0 e1 e2:E),((dE [e0,e1,e2]).all λes=>Np B1 zY (sE core es))=true:=by intros;kernel_rfl
theorem UA:∀(g:Nat->E),[(0:Int),1].all (λcore=>x7.all λxs=>bQ (λO=>oJ++uA (eH (sE core (build g mT 0 xs)) 2) false false) [(rh,[2,41])] (sE core (build g mT 0 xs)))=true:=by intros;kernel_rfl
theorem Rr:∀(g:Nat->E),(a0.all λxs=>bQ sz [(mU,[2,32,41])] (sE 0 (build g B0 0 xs)))=true:=by intros;kernel_rfl
theorem Ru:∀(g:Nat->E),(a1.all λxs=>bQ sz [(mU,[2,32,41])] (sE 1 (build g B0 0 xs)))=true:=by intros;kernel_rfl
end FR.Q
end
namespace FR.Q
open PySem
theorem kW{X:Type}{p:Nat->X->List PV}:∀(l:List X)(k:Nat),(∀k x,p k x=[])->tell p k l=[]
 |[],_,_=>rfl
 |x::l,k,h=>by
  show p k x++tell p (k+1) l=[]
  rw[h k x,kW l (k+1) h];rfl
theorem lg{X:Type}{p q:Nat->X->List PV}:∀(l:List X)(k:Nat),(∀i x,l[i]? =some x->p (k+i) x=q (k+i) x)->tell p k l=tell q k l
 |[],_,_=>rfl
 |x::l,k,h=>by
  show p k x++tell p (k+1) l=q k x++tell q (k+1) l
  rw[show p k x=q k x from h 0 x rfl,lg l (k+1) λi y hy=>Nat.succ_add_eq_add_succ k i▸h (i+1) y hy]
noncomputable def x8(s:Int):List Int:=if s<512 then [s-256] else (coded (s-512)).2
theorem sD{c n:Int}{p:Int×Int}(h:cX c n=some p):p.1∈(coded c).2/\¬p.1<0:=by
 have key:∀(o:Option Int)(z:Int),(match o with | some t=>if t<0 then none else some (t,z) | none=>none)=some p->o=some p.1/\¬p.1<0:=λo z h=>by
  cases o with
  |none=>cases h
  |some t=>
   have h:(if t<0 then none else some (t,z))=some p:=h
   by_cases e:t<0
   ·rw[if_pos e] at h;cases h
   ·rw[if_neg e] at h;cases h;exact⟨rfl,e⟩
 exact(key _ _ h).imp_left List.mem_of_getElem?
noncomputable def x9(t:Int)(ps:List Int):Nat->List (List Nat×Int)->Bool
 |_,[]=>true
 |k,c::l=>(decide (c.2<256)||(gT t k||(x8 c.2).all λt'=>gU t' ps||decide (t'<0)))&&x9 t ps (k+1) l
noncomputable def HP(t:Int)(ps:List Int):Bool:=gU t ps&&x9 t ps 0 (cols t)
theorem uB{t:Int}{ps:List Int}:∀{l:List (List Nat×Int)}{k:Nat},x9 t ps k l=true->∀(i:Nat)(c:List Nat×Int),l[i]? =some c->(decide (c.2<256)||(gT t ((k+i:Nat):Int)||(x8 c.2).all λt'=>gU t' ps||decide (t'<0)))=true
 |[],_,_,_,_,h=>nomatch h
 |x::l,k,h,0,c,hc=>by cases hc;exact(Bool.and_eq_true_iff.mp h).1
 |x::l,k,h,i+1,c,hc=>Nat.succ_add_eq_add_succ k i▸uB (Bool.and_eq_true_iff.mp h).2 i c hc
theorem y9{s k:Int}{m:Bool}{R R':Int->List Row}(hs:256<=s)(h:∀t∈x8 s,t<0\/R t=R' t):da (tb R) s k m=da (tb R') s k m:=by
 rw[x8] at h
 rw[da,da]
 by_cases kJ:s<512
 ·rw[if_pos kJ] at h
  rw[if_pos kJ,if_pos kJ]
  show (decide (k>=1)&&decide (k<=((R (s-256)).length:Int)))=_
  rw[(h (s-256) List.mem_cons_self).resolve_left (Int.not_lt.mpr (Int.sub_nonneg_of_le hs))];rfl
 ·rw[if_neg kJ] at h
  rw[if_neg kJ,if_neg kJ]
  cases hp:cX (s-512) k with
  |none=>rfl
  |some p=>
   show (if p.2=0 then m else decide (p.2>=1)&&decide (p.2<=((R p.1).length:Int)))=_
   rw[(h p.1 (sD hp).1).resolve_left (sD hp).2];rfl
theorem ya{t:Int}{ps:List Int}(h:HP t ps=true):BZ (cK t) ps:=λR R' hh=>by
 have h:=Bool.and_eq_true_iff.mp h
 refine lg _ _ λj c hc=> ?_
 have h3:=uB h.2 j c hc
 rw[Nat.zero_add] at h3⊢
 cases Nq:decide (c.2<256) with
 |true=>rfl
 |false=>
  rw[Nq] at h3
  cases hl:gT t j with
  |true=>rfl
  |false=>
   rw[hl] at h3
   have h4:∀t'∈x8 c.2,t'<0\/R t'=R' t':=λt' sx=>(Bool.or_eq_true_iff.mp (List.all_eq_true.mp h3 t' sx)).elim (λh=>.inr (hh t' h)) λh=>.inl (of_decide_eq_true h)
   show tell (λk r=>if !da (tb R) c.2 (cl r j) (k8 t c.1) then [msg t (k+1) gV] else []) 0 (R t)=tell (λk r=>if !da (tb R') c.2 (cl r j) (k8 t c.1) then [msg t (k+1) gV] else []) 0 (R' t)
   rw[hh t h.1]
   exact lg _ _ λk r O=>by rw[y9 (Int.not_lt.mp (of_decide_eq_false Nq)) h4]
theorem yb{X:Type}(Vs:List (List X)):[]∈iS Vs:=by cases Vs<;>exact List.mem_cons_self
theorem uV{X:Type}{V:List X}{Vs:List (List X)}{x:X}{l:List X}(hx:x∈V)(hl:l∈iS Vs):x::l∈iS (V::Vs):=
 List.mem_cons_of_mem _ (List.mem_flatMap.mpr ⟨x,hx,List.mem_map.mpr ⟨l,hl,rfl⟩⟩)
noncomputable def fE{X:Type}(g:E->X)(core:Int):Nat->List (List X)->Prop
 |_,[]=>True
 |k,V::Vs=>(∀x,g (bU core k x)∈V)/\fE g core (k+1) Vs
theorem jR{X:Type}(g:E->X)(core:Int):∀(Vs:List (List X))(k:Nat)(xs:List Int),fE g core k Vs->xs.length<=Vs.length->(mS core k xs).map g∈iS Vs
 |Vs,_,[],_,_=>yb Vs
 |_::Vs,k,x::xs,h,hl=>uV (h.1 x) (jR g core Vs (k+1) xs h.2 (Nat.le_of_succ_le_succ hl))
 |[],_,_::_,_,hl=>absurd hl (Nat.not_succ_le_zero _)
structure jD(core:Int)(es:List E):Prop where
 f:es.map (·.f)∈pW
 m:es.map (·.m)∈pW
 x:es.map (·.ex)∈Nk
 n:es.map (λe=>(e.nm,e.sp))∈x7
 b0:core=0->es.map (λe=>(e.nm,e.sp,e.ex))∈a0
 b1:core=1->es.map (λe=>(e.nm,e.sp,e.ex))∈a1
 l:es.length<=3
theorem Nr(x:Int):(x.fmod 3).toNat∈d3:=by rcases BO x with h | h | h<;>rw[h]<;>decide
theorem yc(x:Int):x.fmod 2∈[0,1]:=by rcases vm x with h | h<;>rw[h]<;>decide
noncomputable def ff(e:E):Int×Int×Int:=(e.nm,e.sp,e.ex)
noncomputable def UB(core:Int)(qT:Nat)(a b d:Int):Int×Int×Int:=
 let sp:Int:=if qT=2\/a=1 then 19 else 0
 let c:Bool:=decide (qT=0)&&decide (d=1)
 let ex:Int:=if b=1 then 8 else 5
 (if c then 17 else cl [20,21,2] qT,sp,if c&&(decide (core=1)&&decide (sp=0)) then 0 else ex)
theorem pz{core:Int}{k:Nat}{L:List (Int×Int×Int)}(h:∀a∈[0,1],∀b∈[0,1],∀d∈[0,1],UB core k a b d∈L)(x:Int):ff (bU core k x)∈L:=h _ (yc (x.fdiv 36)) _ (yc (x.fdiv 18)) _ (yc (x.fdiv 9))
noncomputable def L1:List (Int×Int×Int):=[(21,0,5),(21,0,8),(21,19,5),(21,19,8)]
noncomputable def L2:List (Int×Int×Int):=[(2,19,5),(2,19,8)]
theorem HQ{core:Int}{L0:List (Int×Int×Int)}(hb:(core=0/\iS [L0,L1,L2]=a0)\/(core=1/\iS [L0,L1,L2]=a1))(g0:∀x,ff (bU core 0 x)∈L0)(g1:∀x,ff (bU core 1 x)∈L1)(g2:∀x,ff (bU core 2 x)∈L2)
  (p0:∀q∈L0,q.2.2∈([5,8,0]:List Int)/\(q.1,q.2.1)∈([(20,0),(20,19),(17,0),(17,19)]:List (Int×Int))) (xs:List Int) (hl:xs.length<=3):jD core (mS core 0 xs):=by
 have p1:∀q∈L1,q.2.2∈([5,8]:List Int)/\(q.1,q.2.1)∈([(21,0),(21,19)]:List (Int×Int)):=by decide
 have p2:∀q∈L2,q.2.2∈([5,8]:List Int)/\(q.1,q.2.1)∈([(2,19)]:List (Int×Int)):=by decide
 have q0:=λx=>p0 _ (g0 x)
 have q1:=λx=>p1 _ (g1 x)
 have q2:=λx=>p2 _ (g2 x)
 have hf:=Nr
 have b:=jR ff core [L0,L1,L2] 0 xs ⟨g0,g1,g2,trivial⟩ hl
 refine⟨jR (·.f) core [d3,d3,d3] 0 xs ⟨λx=>hf x,λx=>hf x,λx=>hf x,trivial⟩ hl,jR (·.m) core [d3,d3,d3] 0 xs ⟨λx=>hf (x.fdiv 3),λx=>hf (x.fdiv 3),λx=>hf (x.fdiv 3),trivial⟩ hl,jR (·.ex) core [_,_,_] 0 xs ⟨λx=>(q0 x).1,λx=>(q1 x).1,λx=>(q2 x).1,trivial⟩ hl,
  jR (λe=>(e.nm,e.sp)) core [_,_,_] 0 xs ⟨λx=>(q0 x).2,λx=>(q1 x).2,λx=>(q2 x).2,trivial⟩ hl,λe=> ?_,λe=> ?_,?_⟩
 ·rcases hb with ⟨_,h⟩ | ⟨h,_⟩
  ·exact h▸b
  ·exact absurd (e.symm.trans h) (by decide)
 ·rcases hb with ⟨h,_⟩ | ⟨_,h⟩
  ·exact absurd (e.symm.trans h) (by decide)
  ·exact h▸b
 ·have len:∀(xs:List Int)(k:Nat),(mS core k xs).length=xs.length:=λxs=>by
   induction xs with
   |nil=>exact λO=>rfl
   |cons x xs ih=>exact λk=>congrArg (· +1) (ih (k+1))
  rw[len];exact hl
theorem OB(core:Int)(hc:core=0\/core=1)(xs:List Int)(hl:xs.length<=3):jD core (mS core 0 xs):=by
 rcases hc with h | h
 ·subst h
  exact HQ (L0:=[(20,0,5),(20,0,8),(20,19,5),(20,19,8),(17,0,5),(17,0,8),(17,19,5),(17,19,8)]) (.inl ⟨rfl,rfl⟩) (pz (by decide)) (pz (by decide)) (pz (by decide)) (by decide) xs hl
 ·subst h
  exact HQ (L0:=[(20,0,5),(20,0,8),(20,19,5),(20,19,8),(17,0,0),(17,19,5),(17,19,8)]) (.inr ⟨rfl,rfl⟩) (pz (by decide)) (pz (by decide)) (pz (by decide)) (by decide) xs hl
theorem dA{X:Type}{get:E->X}{upd:E->X->E}{Vs:List (List X)}{P:List E->Bool}(hu:∀e,upd e (get e)=e)(h:∀g:Nat->E,(Vs.all λxs=>P (build g upd 0 xs))=true){es:List E}(hm:es.map get∈Vs):P es=true:=by
 have:=List.all_eq_true.mp (h λi=>es.getD i ⟨0,0,0,0,0⟩) _ hm
 rwa [x6 get upd hu _ ⟨0,0,0,0,0⟩ es 0 λi=>by rw[Nat.zero_add]] at this
noncomputable def Nt{X:Type}(d:X)(T:List X):Nat->List X
 |0=>[]
 |n+1=>T.headD d::Nt d T.tail n
theorem mV{X:Type}(d:X):∀(n:Nat)(T:List X),T.length<=n->T∈dE (Nt d T n)
 |n,[],_=>by cases n<;>exact List.mem_cons_self
 |n+1,_::T,h=>List.mem_cons_of_mem _ (List.mem_map.mpr ⟨T,mV d n T (Nat.le_of_succ_le_succ h),rfl⟩)
 |0,_::_,h=>absurd h (Nat.not_succ_le_zero _)
theorem yd{P:List E->Bool}(h:∀e0 e1 e2:E,((dE [e0,e1,e2]).all P)=true){es:List E}(hl:es.length<=3):P es=true:=List.all_eq_true.mp (h _ _ _) _ (mV ⟨0,0,0,0,0⟩ 3 es hl)
theorem HR{P:List Row->Bool}(h:∀t0 t1 t2:Row,((dE [t0,t1,t2]).all P)=true){T:List Row}(hl:T.length<=3):P T=true:=List.all_eq_true.mp (h _ _ _) _ (mV [] 3 T hl)
theorem HS{P:List Row->Bool}(h:∀m0 m1 m2 m3 m4 m5:Row,((dE [m0,m1,m2,m3,m4,m5]).all P)=true){M:List Row}(hl:M.length<=6):P M=true:=List.all_eq_true.mp (h _ _ _ _ _ _) _ (mV [] 6 M hl)
theorem z5:∀(es:List E)(f m:Int),(iI f m es).length=es.length
 |[],_,_=>rfl
 |_::es,_,_=>congrArg (· +1) (z5 es _ _)
theorem Ep:∀(es:List E),(fl es).length<=2*es.length
 |[]=>Nat.le_refl _
 |e::es=>by
  show (gL e.f++fl es).length<=2*es.length+2
  rw[List.length_append,Nat.add_comm];exact Nat.add_le_add (Ep es) (uv e.f)
theorem Er:∀(es:List E),(ml es).length<=2*es.length
 |[]=>Nat.le_refl _
 |e::es=>by
  show (gM e.m++ml es).length<=2*es.length+2
  rw[List.length_append,Nat.add_comm];exact Nat.add_le_add (Er es) (uw e.m)
end FR.Q
section
set_option maxRecDepth 100000
namespace FR.Q
open PySem
noncomputable def AllP{X:Type}(P:X->Prop):List X->Prop
 |[]=>True
 |x::l=>P x/\AllP P l
theorem AllP.at{X:Type}{P:X->Prop}:∀{l:List X},AllP P l->∀x∈l,P x
 |_::_,h,x,m=>(List.mem_cons.mp m).elim (λe=>e▸h.1) λm=>AllP.at h.2 x m
 |[],_,_,m=>absurd m List.not_mem_nil
noncomputable abbrev tl(R:Int->List Row)(p:Part):List PV:=p.1 (tb R)
noncomputable abbrev Tl(R:Int->List Row)(w:List Ed×List PV)(p:Part):Prop:=tl (w.1.foldl fx R) p=w.2.filter (p.2 w.1)
noncomputable abbrev z6(q:Part×List Int):Prop:=BZ q.1 q.2
theorem bK{l:PL}(h:∀R,(l.map λq=>tl R q.1)=l.map λq=>tl (pv q.2 R) q.1):∀q∈l,z6 q:=λq m=>zW λR=>List.map_inj_left.mp (h R) q m
theorem pA{l:List (Int×List Int)}(h:(l.all λx=>HP x.1 x.2)=true):∀q∈l.map λx=>(cK x.1,x.2),z6 q:=λq m=>by
 obtain ⟨x,hx,rfl⟩:=List.mem_map.mp m
 exact ya (List.all_eq_true.mp h x hx)
section
variable{R:Int->List Row}{w:List Ed×List PV}{W:z0}{l:PL}
noncomputable def Gr(R:Int->List Row)(w:List Ed×List PV)(l:PL):Prop:=∀q∈l,Tl R w q.1
theorem eh(k:bQ W l R=true)(o:∀q∈l,z6 q)(hw:w∈W R):Gr R w l:=λq m=>Ni (List.all_eq_true.mp k q m) (o q m) hw
theorem Gr.at(h:Gr R w l)(i:Nat){p:Part}{ps:List Int}(e:l[i]? =some (p,ps)):Tl R w p:=h _ (List.mem_of_getElem? e)
end
section
variable{core:Int}{es:List E}{w:List Ed×List PV}
theorem z7{P:List Row->Bool}{f:List Nat->List Row}{L:List Row}{ns:List Nat}(h:(sC.all λms=>P (f ms))=true)(k:∀xs∈pW,f xs∈sC.map f)(e:f ns=L)(hn:ns∈pW):P L=true:=by
 obtain ⟨ms,m,q⟩:=List.mem_map.mp (k ns hn)
 rw[<-e,<-q]
 exact List.all_eq_true.mp h ms m
theorem HT:∀(es:List E),z4 (es.map (·.m))=ml es
 |[]=>rfl
 |e::es=>congrArg (gM e.m++ ·) (HT es)
theorem HU:∀(es:List E),Eo (es.map (·.f))=fl es
 |[]=>rfl
 |e::es=>congrArg (gL e.f++ ·) (HU es)
theorem tJ{P:List Row->Bool}(h:(sC.all λms=>P (z4 ms))=true)(xo:jD core es):P (ml es)=true:=z7 h (by decide+kernel) (HT es) xo.m
theorem z8{P:List Row->Bool}(h:(sC.all λms=>P (Eo ms))=true)(xo:jD core es):P (fl es)=true:=z7 h (by decide+kernel) (HU es) xo.f
theorem PQ(xo:jD core es):(iI 6 9 es).length<=3:=by rw[z5];exact xo.l
theorem UC(xo:jD core es):(fl es).length<=6:=Nat.le_trans (Ep es) (Nat.mul_le_mul_left 2 xo.l)
theorem UD(xo:jD core es):(ml es).length<=6:=Nat.le_trans (Er es) (Nat.mul_le_mul_left 2 xo.l)
theorem HV{l:PL}{W:z0}(h:∀(core:Int) (t0 t1 t2 m0 m1 m2 m3 m4 m5:Row) (F:List Row),((dE [t0,t1,t2]).all λT=>(dE [m0,m1,m2,m3,m4,m5]).all λM=>bQ W l (sX core T F M))=true)(xo:jD core es):bQ W l (sE core es)=true:=
 HS (P:=λM=>bQ W l (sX core (iI 6 9 es) (fl es) M)) (λm0 m1 m2 m3 m4 m5=>HR (P:=λT=>(dE [m0,m1,m2,m3,m4,m5]).all λM=>bQ W l (sX core T (fl es) M)) (λt0 t1 t2=>h core t0 t1 t2 m0 m1 m2 m3 m4 m5 (fl es)) (PQ xo)) (UD xo)
theorem Nu{l:PL}{W:z0}(h:∀(core:Int) (t0 t1 t2:Row) (F M:List Row),((dE [t0,t1,t2]).all λT=>bQ W l (sX core T F M))=true)(xo:jD core es):bQ W l (sE core es)=true:=
 HR (P:=λT=>bQ W l (sX core T (fl es) (ml es))) (λt0 t1 t2=>h core t0 t1 t2 (fl es) (ml es)) (PQ xo)
theorem Nv{l:PL}{W:z0}(h:∀(T F M:List Row),([0,1].all λcore=>bQ W l (sX core T F M))=true)(hc:core=0\/core=1):bQ W l (sE core es)=true:=
 List.all_eq_true.mp (h (iI 6 9 es) (fl es) (ml es)) core (List.mem_cons.mpr (hc.imp_right List.mem_singleton.mpr))
theorem S8{a2 a3 c7:Bool}(h:w∈oJ++uA a2 a3 c7):w∈zY:=by
 rcases List.mem_append.mp h with h | h
 ·exact List.mem_append_left _ h
 ·refine List.mem_append_right _ ?_
  have i:∀k v,rg[k]? =some v->v∈rg:=λk v h=>List.mem_of_getElem? h
  rcases List.mem_cons.mp h with h | h
  ·rw[h];cases a3
   ·exact i 0 _ rfl
   ·exact i 1 _ rfl
  ·rw[List.mem_singleton.mp h]
   cases c7
   ·cases a2
    ·exact i 2 _ rfl
    ·exact i 3 _ rfl
   ·cases a2<;>cases a3
    ·exact i 4 _ rfl
    ·exact i 5 _ rfl
    ·exact i 6 _ rfl
    ·exact i 7 _ rfl
theorem use(xo:jD core es)(hw:w∈zY):Tl (sE core es) w B1:=x5 (List.all_eq_true.mp (yd (P:=λes=>Np B1 zY (sE core es)) (Uz core) xo.l) w hw)
theorem UE(hc:core=0\/core=1)(xo:jD core es){a3 c7:Bool}(hw:w∈oJ++uA (eH (sE core es) 2) a3 c7):Tl (sE core es) w rh:=by
 have h:∀g:Nat->E,(x7.all λxs=>bQ (λO=>oJ++uA (eH (sE core (build g mT 0 xs)) 2) false false) [(rh,[2,41])] (sE core (build g mT 0 xs)))=true:=λg=>
  List.all_eq_true.mp (UA g) core (List.mem_cons.mpr (hc.imp_right List.mem_singleton.mpr))
 have h:=dA (get:=λe=>(e.nm,e.sp)) (upd:=mT) (P:=λes=>bQ (λO=>oJ++uA (eH (sE core es) 2) false false) [(rh,[2,41])] (sE core es)) (λO=>rfl) h xo.n
 have o:∀q∈[(rh,[2,41])],z6 q:=bK λR=>by kernel_rfl
 have g:∀v∈oJ++uA (eH (sE core es) 2) false false,Tl (sE core es) v rh:=λv hv=>(eh h o hv).at 0 rfl
 rcases List.mem_append.mp hw with hw | hw
 ·exact g w (List.mem_append_left _ hw)
 ·rcases List.mem_cons.mp hw with hw | hw
  ·rw[hw]
   exact(g (HI false) (List.mem_append_right _ List.mem_cons_self)).trans (by cases a3<;>rfl)
  ·rw[List.mem_singleton.mp hw]
   refine(g (jJ (eH (sE core es) 2) false false) (List.mem_append_right _ (List.mem_cons_of_mem _ List.mem_cons_self))).trans ?_
   generalize eH (sE core es) 2=a2
   cases c7
   ·cases a2<;>rfl
   ·cases a2<;>cases a3<;>rfl
theorem UG(hc:core=0\/core=1)(xo:jD core es)(hw:w∈sz (sE core es)):Tl (sE core es) w mU:=by
 have o:∀q∈[(mU,[2,32,41])],z6 q:=bK λR=>by kernel_rfl
 rcases hc with h | h
 ·subst h
  exact(eh (W:=sz) (dA (get:=λe=>(e.nm,e.sp,e.ex)) (upd:=B0) (P:=λes=>bQ sz [(mU,[2,32,41])] (sE 0 es)) (λO=>rfl) Rr (xo.b0 rfl)) o hw).at 0 rfl
 ·subst h
  exact(eh (W:=sz) (dA (get:=λe=>(e.nm,e.sp,e.ex)) (upd:=B0) (P:=λes=>bQ sz [(mU,[2,32,41])] (sE 1 es)) (λO=>rfl) Ru (xo.b1 rfl)) o hw).at 0 rfl
end
end FR.Q
end
section
set_option maxRecDepth 100000
namespace FR.Q
open PySem
noncomputable def lh(p:Int->Bool):(Int->List Row)->List Ed->Bool
 |_,[]=>true
 |R,e::es=>(bif p e.t then pq R e else true)&&lh p (fx R e) es
noncomputable def Ny(t:Int):Bool:=decide (t=4)
noncomputable def Nz(t:Int):Bool:=decide (t=6)
noncomputable def NA(t:Int):Bool:= !decide (t=4)&& !decide (t=6)
theorem z9:∀{es:List Ed}{R:Int->List Row},lh Ny R es=true->lh Nz R es=true->lh NA R es=true->jI R es=true
 |[],_,_,_,_=>rfl
 |e::es,R,h4,h6,ho=>by
  have h4:=Bool.and_eq_true_iff.mp h4
  have h6:=Bool.and_eq_true_iff.mp h6
  have ho:=Bool.and_eq_true_iff.mp ho
  refine Bool.and_eq_true_iff.mpr ⟨?_,z9 h4.2 h6.2 ho.2⟩
  have pick:∀{q:Bool},q=true->(bif q then pq R e else true)=true->pq R e=true:=λhq h=>by rw[hq] at h;exact h
  by_cases e4:e.t=4
  ·exact pick (decide_eq_true e4) h4.1
  ·by_cases e6:e.t=6
   ·exact pick (decide_eq_true e6) h6.1
   ·refine pick ?_ ho.1
    show (!decide (e.t=4)&& !decide (e.t=6))=true
    rw[decide_eq_false e4,decide_eq_false e6];rfl
theorem Rv:∀(core:Int)(g:Nat->E),(pW.all λxs=>(du (sE core (build g q9 0 xs))).all λw=>lh Ny (sE core (build g q9 0 xs)) w.1)=true:=by intros;kernel_rfl
theorem Rw:∀(core:Int)(g:Nat->E),(pW.all λxs=>(du (sE core (build g rf 0 xs))).all λw=>lh Nz (sE core (build g rf 0 xs)) w.1)=true:=by intros;kernel_rfl
theorem Rx:∀(core:Int)(e0 e1 e2:E),((dE [e0,e1,e2]).all λes=>(du (sE core es)).all λw=>lh NA (sE core es) w.1&&decide (w.1.length<=100))=true:=by intros;kernel_rfl
noncomputable abbrev NB:List Part:=[rh,Nl,pX 2 4 4 1 2,pX 2 5 6 3 4,pX 21 1 23 1 2,pX 18 1 20 1 (-1)]
noncomputable abbrev Gm:List Part:=[Ej,mU,Ek,HM,El,Em,Nn,B1,HN,HO]
noncomputable def oK:List Part:=zZ::([18,21].map sA++(named.map ew++(NB++Gm)))
noncomputable def lZ:List Part:=aB.map iX++(aB.map cK++(lists.map gf++aB.map fy))
noncomputable def mW(ps:List Part)(w:List Ed×List PV):List PV:=ps.flatMap λp=>w.2.filter (p.2 w.1)
theorem jm{X:Type}(G:X->List PV):∀(l:List X)(k:Nat),tell (λO t=>G t) k l=l.flatMap G
 |[],_=>rfl
 |x::l,k=>by
  show G x++tell (λO t=>G t) (k+1) l=G x++l.flatMap G
  rw[jm G l (k+1)]
theorem JI(R:Int->List Row):qK (tb R)=oK.flatMap (tl R):=by
 have hm:BD (tb R)=([18,21].map sA).flatMap (tl R):=(jm (ve (tb R)) [18,21] 0).trans (List.flatMap_map ..).symm
 have hn:names (tb R)=(named.map ew).flatMap (tl R):=(jm (λx=>tl R (ew x)) named 0).trans (List.flatMap_map ..).symm
 have ht:n5 (tb R)=NB.flatMap (tl R):=by
  show kb (tb R)++(j9 (tb R)++(dM (tb R) 2 4 4 1 2++(dM (tb R) 2 5 6 3 4++(dM (tb R) 21 1 23 1 2++dM (tb R) 18 1 20 1 (-1)))))=kb (tb R)++(j9 (tb R)++(dM (tb R) 2 4 4 1 2++(dM (tb R) 2 5 6 3 4++(dM (tb R) 21 1 23 1 2++(dM (tb R) 18 1 20 1 (-1)++[])))))
  rw[List.append_nil]
 have he:lN (tb R)++(bases (tb R)++(lL (tb R)++(lO (R 6)++(constants (tb R)++(params (tb R)++(iQ (tb R)++(fQ (tb R)++(o9 (tb R)++nested (tb R)))))))))=Gm.flatMap (tl R):=by
  show _=lN (tb R)++(bases (tb R)++(lL (tb R)++(lO (R 6)++(constants (tb R)++(params (tb R)++(iQ (tb R)++(fQ (tb R)++(o9 (tb R)++(nested (tb R)++[])))))))))
  rw[List.append_nil]
 show jN (tb R)++(BD (tb R)++(names (tb R)++(n5 (tb R)++(lN (tb R)++(bases (tb R)++(lL (tb R)++(lO (R 6)++(constants (tb R)++(params (tb R)++(iQ (tb R)++(fQ (tb R)++(o9 (tb R)++nested (tb R)))))))))))))
  =jN (tb R)++([18,21].map sA++(named.map ew++(NB++Gm))).flatMap (tl R)
 rw[List.flatMap_append,List.flatMap_append,List.flatMap_append,hm,hn,ht,he]
theorem flat_keys{R:Int->List Row}{G:Int->List PV}(h:∀t,R t=[]->G t=[]):∀l:List Int,(eQ R l).flatMap G=l.flatMap G
 |[]=>rfl
 |t::l=>by
  have ih:=flat_keys h l
  rw[eQ] at ih⊢
  show _=G t++l.flatMap G
  cases hr:R t with
  |nil=>rw[List.filter_cons_of_neg (by rw[hr];exact Bool.noConfusion),h t hr,ih];rfl
  |cons r rs=>rw[List.filter_cons_of_pos (by rw[hr];rfl),<-ih];rfl
theorem Gn{R:Int->List Row}(hw:eg R):early (hJ R)=lZ.flatMap (tl R):=by
 rw[hJ,ky hw]
 have zt:∀{t:Int}{p:Nat->Row->List PV},R t=[]->tell p 0 (R t)=[]:=λh=>by rw[h];rfl
 have z1:∀t,R t=[]->tl R (iX t)=[]:=λt h=>kW _ _ λk c=>by
  show (if decide (c.2>=512) then tell _ 0 (R t) else [])=[]
  rw[zt h];cases decide (c.2>=512)<;>rfl
 have z2:∀t,R t=[]->tl R (cK t)=[]:=λt h=>kW _ _ λk c=>by
  show (if decide (c.2<256)||gT t k then [] else tell _ 0 (R t))=[]
  rw[zt h];cases decide (c.2<256)||gT t k<;>rfl
 have z3:∀t,R t=[]->tl R (fy t)=[]:=λt h=>kW _ _ λk c=>zt h
 have go:∀{f:Int->Part},(∀t,R t=[]->tl R (f t)=[])->tell (λO t=>tl R (f t)) 0 (eQ R aB)=(aB.map f).flatMap (tl R):=λh=>(jm _ _ 0).trans ((flat_keys h aB).trans (List.flatMap_map ..).symm)
 have h4:tell (λO r=>tl R (gf r)) 0 lists=(lists.map gf).flatMap (tl R):=(jm (λr=>tl R (gf r)) lists 0).trans (List.flatMap_map ..).symm
 rw[lZ,List.flatMap_append,List.flatMap_append,List.flatMap_append,<-go z1,<-go z2,<-go z3,<-h4]
 rfl
theorem ye{ps:List Part}{w:List Ed×List PV}{R:Int->List Row}(h:∀p∈ps,tl R p=w.2.filter (p.2 w.1)):ps.flatMap (tl R)=mW ps w:=by
 induction ps with
 |nil=>rfl
 |cons p ps ih=>
  show tl R p++ps.flatMap (tl R)=w.2.filter (p.2 w.1)++mW ps w
  rw[h p List.mem_cons_self,ih λq hq=>h q (List.mem_cons_of_mem _ hq)]
theorem JJ{ps:List Part}{w:List Ed×List PV}{x:PV}(h:x∈mW ps w):x∈w.2:=
 (List.mem_flatMap.mp h).elim λO h=>(List.mem_filter.mp h.2).1
noncomputable def isInt:PV->Bool
 |.int _=>true
 |_=>false
noncomputable def isStr:PV->Bool
 |.str _=>true
 |_=>false
noncomputable def HW(x:PV):Bool:=match x with
 |.tup l=>match l with
  |a::l=>isInt a&&(match l with
   |b::l=>isInt b&&(match l with
    |c::l=>isStr c&&l.isEmpty
    |[]=>false)
   |[]=>false)
  |[]=>false
 |_=>false
noncomputable def yf(w:List Ed×List PV):Bool:=bif w.2.any tS then decide (w.2.length=1)&&(w.2.all HW&&decide ((mW lZ w).length=1)) else decide ((mW lZ w).length=0)
theorem UH:∀R:Int->List Row,((Ei R).all λw=>w.2.any tS&&yf w)=true:=by intros;kernel_rfl
theorem UI:((zV++rg).all yf)=true:=by kernel_rfl
noncomputable def PR:Option Bool->Bool
 |some b=>b
 |none=>false
noncomputable def Gp(a b:List PV):Bool:=match fV a with
 |some l1=>match fV b with
  |some l2=>PR (gO (eqv 6) l1 l2)
  |none=>false
 |none=>false
noncomputable def NC(a b:List PV):Prop:=∃l1 l2,fV a=some l1/\fV b=some l2/\gO (eqv 6) l1 l2=some true
theorem ND{a b:List PV}(h:Gp a b=true):NC a b:=by
 rw[Gp] at h
 rw[NC]
 cases e1:fV a with
 |none=>rw[e1] at h;cases h
 |some l1=>
  rw[e1] at h
  cases e2:fV b with
  |none=>rw[e2] at h;cases h
  |some l2=>
   rw[e2] at h
   have h:PR (gO (eqv 6) l1 l2)=true:=h
   cases e3:gO (eqv 6) l1 l2 with
   |none=>rw[e3] at h;cases h
   |some b=>rw[e3] at h;exact⟨l1,l2,rfl,rfl,e3.trans (congrArg some h)⟩
theorem UJ:(zY.all λw=>Gp (mW oK w) w.2&&decide ((mW oK w).length<=1000))=true:=by kernel_rfl
theorem JK{x:PV}(h:HW x=true):NC [x] [x]:=by
 cases x with
 |tup l=>
  cases l with
  |nil=>cases h
  |cons a l=>
   have h:=Bool.and_eq_true_iff.mp h
   cases a with
   |int a=>
    cases l with
    |nil=>exact nomatch h.2
    |cons b l=>
     have h:=Bool.and_eq_true_iff.mp h.2
     cases b with
     |int b=>
      cases l with
      |nil=>exact nomatch h.2
      |cons c l=>
       have h:=Bool.and_eq_true_iff.mp h.2
       cases c with
       |str c=>
        rw[List.isEmpty_iff.mp h.2]
        refine⟨[.tup [.int a,.int b,.str c]],[.tup [.int a,.int b,.str c]],rfl,rfl,?_⟩
        show some ((decide (a=a)&&(decide (b=b)&&(decide (c=c)&&true)))&&true)=some true
        rw[decide_eq_true (rfl:a=a),decide_eq_true (rfl:b=b),decide_eq_true (rfl:c=c)];rfl
       |_=>exact nomatch h.1
     |_=>exact nomatch h.1
   |_=>exact nomatch h.1
 |_=>cases h
section
variable{core:Int}{es:List E}{w:List Ed×List PV}
theorem JL(hc:core=0\/core=1)(xo:jD core es)(hw:w∈du (sE core es))(lj:eg (w.1.foldl fx (sE core es))):early (hJ (w.1.foldl fx (sE core es)))=mW lZ w:=by
 have g1:=eh (Ub core (iI 6 9 es) (fl es) (ml es)) (bK λR=>by kernel_rfl) hw
 have g2:=eh (Nu Uh xo) (bK λR=>by kernel_rfl) hw
 have g3:=eh (HV Uj xo) (bK λR=>by kernel_rfl) hw
 have u4:=dA (get:=(·.ex)) (upd:=Nj) (P:=λes=>bQ du [(iX 2,[2]),(cK 2,[2,1,27])] (sE core es)) (λO=>rfl) (Um core) xo.x
 have o4:∀q∈[(iX 2,[2]),(cK 2,[2,1,27])],z6 q:=λq m=>(List.mem_cons.mp m).elim (λe=>e▸zW λR=>by kernel_rfl) λm=>List.mem_singleton.mp m▸ya rfl
 have g4:=eh u4 o4 hw
 have g5:=eh (Uc core (iI 6 9 es) (fl es) (ml es)) (bK λR=>by kernel_rfl) hw
 have g6:=eh (dA (get:=λe=>(e.nm,e.sp)) (upd:=mT) (P:=λes=>bQ du [(fy 2,[2])] (sE core es)) (λO=>rfl) (Un core) xo.n) (bK λR=>by kernel_rfl) hw
 have g7:=eh (R:=sE core es) (z8 (P:=λF=>bQ du [(fy 4,[4])] (sX core (iI 6 9 es) F (ml es))) (Up core _ _) xo) (bK λR=>by kernel_rfl) hw
 have g8:=eh (R:=sE core es) (tJ (P:=λM=>bQ du [(fy 6,[6])] (sX core (iI 6 9 es) (fl es) M)) (Ur core _ _) xo) (bK λR=>by kernel_rfl) hw
 have g9:=eh (R:=sE core es) (Nv Rp hc) (bK λR=>by kernel_rfl) hw
 have p1:=eh (Ud core (iI 6 9 es) (fl es) (ml es)) (pA (l:=[(0,[0]),(1,[1,0,35]),(4,[4]),(6,[6]),(8,[8]),(17,[17]),(23,[23]),(27,[27]),(32,[32]),(35,[35])]) rfl) hw
 have p2:=eh (Nu Ui xo) (pA (l:=[(9,[9,2,1,27]),(10,[10,2,1,6,27]),(18,[18,2]),(20,[20,2,1,27]),(21,[21,2]),(41,[41,2]),(44,[44,42,2,1,27])]) rfl) hw
 have p3:=eh (HV Uk xo) (pA (l:=[(24,[24,6,20,23]),(25,[25,2,6,10]),(42,[42,2,6]),(43,[43,6,10])]) rfl) hw
 have p4:=eh (R:=sE core es) (HS (P:=λF=>bQ du [(cK 11,[11,4,8,23])] (sX core (iI 6 9 es) F (ml es))) (λf0 f1 f2 f3 f4 f5=>Ul core f0 f1 f2 f3 f4 f5 _ _) (UC xo)) (pA (l:=[(11,[11,4,8,23])]) rfl) hw
 have l0:=eh (dA (get:=(·.f)) (upd:=q9) (P:=λes=>bQ du [(gf [2,4,4],[2,4])] (sE core es)) (λO=>rfl) (Uu core) xo.f) (bK λR=>by kernel_rfl) hw
 have l1:=eh (dA (get:=(·.m)) (upd:=rf) (P:=λes=>bQ du [(gf [2,5,6],[2,6])] (sE core es)) (λO=>rfl) (Uv core) xo.m) (bK λR=>by kernel_rfl) hw
 have l2:=eh (R:=sE core es) (tJ (P:=λM=>bQ du [(gf [6,5,8],[6,8])] (sX core (iI 6 9 es) (fl es) M)) (Us core _ _) xo) (bK λR=>by kernel_rfl) hw
 have l3:=eh (Ue core (iI 6 9 es) (fl es) (ml es)) (bK λR=>by kernel_rfl) hw
 have h1:AllP (Tl (sE core es) w) (aB.map iX):=⟨g1.at 0 rfl,g1.at 1 rfl,g4.at 0 rfl,g1.at 2 rfl,g1.at 3 rfl,g1.at 4 rfl,g2.at 0 rfl,g1.at 5 rfl,g1.at 6 rfl,g1.at 7 rfl,g1.at 8 rfl,g1.at 9 rfl,g1.at 10 rfl,g1.at 11 rfl,g1.at 12 rfl,g1.at 13 rfl,g1.at 14 rfl,g1.at 15 rfl,g1.at 16 rfl,g1.at 17 rfl,g1.at 18 rfl,g3.at 0 rfl,g2.at 1 rfl,trivial⟩
 have h2:AllP (Tl (sE core es) w) (aB.map cK):=⟨p1.at 0 rfl,p1.at 1 rfl,g4.at 1 rfl,p1.at 2 rfl,p1.at 3 rfl,p1.at 4 rfl,p2.at 0 rfl,p2.at 1 rfl,p4.at 0 rfl,p1.at 5 rfl,p2.at 2 rfl,p2.at 3 rfl,p2.at 4 rfl,p1.at 6 rfl,p3.at 0 rfl,p3.at 1 rfl,p1.at 7 rfl,p1.at 8 rfl,p1.at 9 rfl,p2.at 5 rfl,p3.at 2 rfl,p3.at 3 rfl,p2.at 6 rfl,trivial⟩
 have h3:AllP (Tl (sE core es) w) (lists.map gf):=⟨l0.at 0 rfl,l1.at 0 rfl,l2.at 0 rfl,l3.at 0 rfl,l3.at 1 rfl,trivial⟩
 have h4:AllP (Tl (sE core es) w) (aB.map fy):=⟨g5.at 0 rfl,g5.at 1 rfl,g6.at 0 rfl,g7.at 0 rfl,g8.at 0 rfl,g5.at 2 rfl,g2.at 2 rfl,g5.at 3 rfl,g5.at 4 rfl,g5.at 5 rfl,g5.at 6 rfl,g5.at 7 rfl,g5.at 8 rfl,g5.at 9 rfl,g5.at 10 rfl,g5.at 11 rfl,g5.at 12 rfl,g9.at 0 rfl,g5.at 13 rfl,g5.at 14 rfl,g5.at 15 rfl,g3.at 1 rfl,g2.at 3 rfl,trivial⟩
 exact(Gn lj).trans (ye λp hp=>(List.mem_append.mp hp).elim (h1.at p) λhp=>(List.mem_append.mp hp).elim (h2.at p) λhp=>(List.mem_append.mp hp).elim (h3.at p) (h4.at p))
theorem NF(hc:core=0\/core=1)(xo:jD core es)(hw:w∈sz (sE core es))(lj:eg (w.1.foldl fx (sE core es))):qK (hJ (w.1.foldl fx (sE core es)))=mW oK w:=by
 have hL:w∈wL (sE core es):=S8 hw
 have g1:=eh (Ug core (iI 6 9 es) (fl es) (ml es)) (bK λR=>by kernel_rfl) hL
 have g2:=eh (dA (get:=λe=>(e.nm,e.sp)) (upd:=mT) (P:=λes=>bQ wL [(ew (n2 2),[2])] (sE core es)) (λO=>rfl) (Uo core) xo.n) (bK λR=>by kernel_rfl) hL
 have g4:=eh (R:=sE core es) (z8 (P:=λF=>bQ wL PN (sX core (iI 6 9 es) F (ml es))) (Uq core _ _) xo) (bK λR=>by kernel_rfl) hL
 have g6:=eh (R:=sE core es) (tJ (P:=λM=>bQ wL PM (sX core (iI 6 9 es) (fl es) M)) (Ut core _ _) xo) (bK λR=>by kernel_rfl) hL
 have g9:=eh (R:=sE core es) (Nv Rq hc) (bK λR=>by kernel_rfl) hL
 have t4:=eh (dA (get:=(·.f)) (upd:=q9) (P:=λes=>bQ wL [(pX 2 4 4 1 2,[2,4])] (sE core es)) (λO=>rfl) (Uw core) xo.f) (bK λR=>by kernel_rfl) hL
 have t6:=eh (dA (get:=(·.m)) (upd:=rf) (P:=λes=>bQ wL [(pX 2 5 6 3 4,[2,6])] (sE core es)) (λO=>rfl) (Ux core) xo.m) (bK λR=>by kernel_rfl) hL
 have e1:=eh (yd (P:=λes=>bQ wL PO (sE core es)) (Uy core) xo.l) (bK λR=>by kernel_rfl) hL
 have h:AllP (Tl (sE core es) w) oK:=⟨g1.at 0 rfl,g1.at 1 rfl,g1.at 2 rfl,g1.at 3 rfl,g1.at 4 rfl,g2.at 0 rfl,g4.at 0 rfl,g6.at 0 rfl,g1.at 5 rfl,g1.at 6 rfl,g1.at 7 rfl,g9.at 0 rfl,g1.at 8 rfl,g1.at 9 rfl,UE hc xo hw,g1.at 10 rfl,t4.at 0 rfl,t6.at 0 rfl,g1.at 11 rfl,g1.at 12 rfl,e1.at 1 rfl,UG hc xo hw,g6.at 1 rfl,g6.at 2 rfl,g4.at 1 rfl,g6.at 3 rfl,g1.at 13 rfl,use xo hL,e1.at 0 rfl,g1.at 14 rfl,trivial⟩
 rw[hJ,ky lj]
 exact(JI _).trans (ye h.at)
theorem OC(xo:jD core es)(hw:w∈du (sE core es)):jI (sE core es) w.1=true/\w.1.length<=100:=by
 have h4:=List.all_eq_true.mp (dA (get:=(·.f)) (upd:=q9) (P:=λes=>(du (sE core es)).all λw=>lh Ny (sE core es) w.1) (λO=>rfl) (Rv core) xo.f) w hw
 have h6:=List.all_eq_true.mp (dA (get:=(·.m)) (upd:=rf) (P:=λes=>(du (sE core es)).all λw=>lh Nz (sE core es) w.1) (λO=>rfl) (Rw core) xo.m) w hw
 have ho:=Bool.and_eq_true_iff.mp (List.all_eq_true.mp (yd (P:=λes=>(du (sE core es)).all λw=>lh NA (sE core es) w.1&&decide (w.1.length<=100)) (Rx core) xo.l) w hw)
 exact⟨z9 h4 h6 ho.1,of_decide_eq_true ho.2⟩
theorem kind(hw:w∈Ei (sE core es)++HJ (sE core es)):w∈du (sE core es)/\(w.2.any tS=false->w∈sz (sE core es))/\yf w=true:=by
 have hO:∀v∈zV++rg,yf v=true:=List.all_eq_true.mp UI
 rcases List.mem_append.mp hw with h | h
 ·have q:=Bool.and_eq_true_iff.mp (List.all_eq_true.mp (UH _) w h)
  exact⟨List.mem_append_left _ h,λe=>Bool.noConfusion (q.1.symm.trans e),q.2⟩
 ·have a:w∈zV++rg:=by
   rcases List.mem_append.mp h with h | h
   ·exact List.mem_append_left _ h
   ·exact(List.mem_append.mp (S8 (w:=w) (List.mem_append_right _ h))).elim (λh=>List.mem_append_left _ (List.mem_filter.mp h).1) (List.mem_append_right _)
  refine⟨List.mem_append_right _ a,λe=> ?_,hO w a⟩
  rcases List.mem_append.mp h with h | h
  ·exact List.mem_append_left _ (List.mem_filter.mpr ⟨h,by rw[e];rfl⟩)
  ·exact List.mem_append_right _ h
theorem NG(hc:core=0\/core=1)(xo:jD core es)(OD:eg (sE core es))(hw:w∈Ei (sE core es)++HJ (sE core es)):jI (sE core es) w.1=true/\w.1.length<=100/\Good (w.1.foldl fx (sE core es)) w.2:=by
 obtain ⟨hA,hB,yg⟩:=kind hw
 obtain ⟨he,hl⟩:=OC xo hA
 have lj:=tG he OD
 have hE:=JL hc xo hA lj
 have hL:=λh=>NF hc xo (hB h) lj
 have hS:=λh=>S8 (hB h)
 clear hA hB xo hc hw lj
 refine⟨he,hl,?_⟩
 generalize w.1.foldl fx (sE core es)=R at hE hL
 rw[yf] at yg
 cases yh:w.2.any tS with
 |true=>
  rw[yh] at yg
  have h1:=Bool.and_eq_true_iff.mp yg
  have h2:=Bool.and_eq_true_iff.mp h1.2
  obtain ⟨m,hm⟩:=List.length_eq_one_iff.mp (of_decide_eq_true h1.1)
  obtain ⟨m',t9⟩:=List.length_eq_one_iff.mp (of_decide_eq_true h2.2)
  have iA:m'∈w.2:=JJ (ps:=lZ) (t9.symm▸List.mem_cons_self)
  have hq:=List.all_eq_true.mp h2.1 m' iA
  rw[hm] at iA
  rw[List.mem_singleton.mp iA] at t9 hq
  rw[t9] at hE
  have dh:early (hJ R)≠[]:=by rw[hE];exact List.cons_ne_nil _ _
  refine⟨by rw[hE];exact Nat.le_of_ble_eq_true rfl,λh=>absurd h dh,?_⟩
  rw[told,if_neg dh,hE,hm]
  exact JK hq
 |false=>
  rw[yh] at yg
  have h0:early (hJ R)=[]:=hE.trans (List.eq_nil_of_length_eq_zero (of_decide_eq_true yg))
  have hf:=Bool.and_eq_true_iff.mp (List.all_eq_true.mp UJ w (hS yh))
  refine⟨by rw[h0];exact Nat.zero_le _,λO=>by rw[hL yh];exact of_decide_eq_true hf.2,?_⟩
  rw[told,if_pos h0,hL yh]
  exact ND hf.1
end
theorem Eu:xY:=λns xX=>by
 have hx:(ef ns).length<=3:=by rw[ef,List.length_drop];exact Nat.sub_le_sub_right (oG ns) 3
 have lj:=kU ((hh ns 0).fmod 2) (ef ns)
 rw[Gl] at lj⊢
 refine NG (vm _) (OB ((hh ns 0).fmod 2) (vm _) (ef ns) hx) lj ?_
 rw[brk]
 by_cases h:(hh ns 1).fmod 8>0
 ·rw[if_pos h];exact OA _ _ _ _
 ·rw[if_neg h];exact List.mem_append_right _ (List.mem_append_left _ (List.mem_append_right _ List.mem_cons_self))
theorem Gq(ns:List Int)(xX:ns.length<=63):∃af,ar ah aa 12 41 [.cQ (ns.map .int)] []=some (.ok (.bool true),af):=Nc Eu ns xX
end FR.Q
end
theorem PySem.Challenge.cw_sa0237_01_holds : PySem.Challenge.rw_sa0237_01.Holds := by
 exact FR.holds_of FR.Q.Gq
