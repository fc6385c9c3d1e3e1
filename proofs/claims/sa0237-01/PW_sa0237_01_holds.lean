import PyProof.Rows.All
import KE.KSortAsk
import Wide.All
import OpenK.AllK
import Wide.FinOn
import PyProof.ExcClass2
import PyProof.ExcBaseAll.Exception
import PyProof.InstStoreFacts
import KE.KSortTup
import KE.KDictSum
import Open.Tops
import PyProof.TableCode
import PySem.Challenge.RW_sa0237_01
set_option Elab.async false
set_option linter.all false
set_option genSizeOf false
set_option genInjectivity false
set_option backward.match.sparseCases false
set_option tactic.hygienic false
set_option bootstrap.genMatcherCode false
set_option compiler.extract_closed false
namespace FR
theorem a_:True:=trivial
theorem bJ{a b c:Nat}(h:a<=b)(g:b<=c):a<=c:=Nat.le_trans h g
theorem bV{p:Prop}[Decidable p](h:decide p=true):p:=of_decide_eq_true h
theorem b_{a b:Bool}(h:(a&&b)=true):a=true/\b=true:=Bool.and_eq_true_iff.mp h
theorem cR{α:Type _}{a:α}{l:List α}:a∈a::l:=List.mem_cons_self
theorem c_{α:Type _}{a b:α}(h:a∈[b]):a=b:=List.mem_singleton.mp h
open PySem
inductive PV where
 |none
 |bool (b:Bool)
 |int (i:Int)
 |str (s:List Nat)
 |bytes (b:List Nat)
 |ah (l:List PV)
 |ref (i:Nat)
 |dh (l:List PV)
 |fc (ks:List Int) (vs:List PV)
 |inst (c j:Nat)
 |AH (c:Nat) (rows:PV)
inductive K1 where
 |i (x:Int) | s (x:List Nat) | n (l:List Int)
 deriving DecidableEq
inductive KT where
 |i | s | n
 deriving DecidableEq
inductive Key where
 |int (x:Int) | ah (l:List K1)
 deriving DecidableEq
inductive KK where
 |int | ah (l:List KT)
 deriving DecidableEq
noncomputable def bL:PV->Option Int
 |.int i=>some i
 |_=>.none
noncomputable def dD:PV->Option (List PV)
 |.ah l=>some l
 |_=>.none
noncomputable def vp:PV->Option (List Nat)
 |.str l=>some l
 |_=>.none
noncomputable def ints?:List PV->Option (List Int)
 |[]=>some []
 |p::r=>(bL p).bind λx=>(ints? r).bind λl=>some (x::l)
noncomputable def Km(t:KT)(p:PV):Option K1:=match t with
 |.i=>(bL p).bind λx=>some (.i x)
 |.s=>(vp p).bind λx=>some (.s x)
 |.n=>(dD p).bind λl=>(ints? l).bind λl=>some (.n l)
noncomputable def AI:List KT->List PV->Option (List K1)
 |[],l=>match l with
  |[]=>some []
  |_::_=>.none
 |t::ts,l=>match l with
  |[]=>.none
  |v::vs=>(Km t v).bind λk=>(AI ts vs).bind λks=>some (k::ks)
noncomputable def toKey(kk:KK)(p:PV):Option Key:=match kk with
 |.int=>(bL p).bind λx=>some (.int x)
 |.ah ts=>(dD p).bind λl=>(AI ts l).bind λks=>some (.ah ks)
inductive MO where
 |list (l:List PV)
 |dict (k:KK) (es:List (Key×PV))
 |attrs (rows:Option PV)
noncomputable def aJ{α:Type}(b:Bool)(o:Option α):Option α:=match b with
 |true=>o
 |false=>.none
noncomputable abbrev af:=List MO
noncomputable abbrev aD:=List (Option PV)
noncomputable def bj:List (Key×PV)->Key->Option PV
 |[],_=>.none
 |p::r,k=>if p.1=k then some p.2 else bj r k
noncomputable def cn:List (Key×PV)->Key->PV->List (Key×PV)
 |[],k,v=>[(k,v)]
 |p::r,k,v=>if p.1=k then (p.1,v)::r else p::cn r k v
noncomputable def my:List Int->List PV->Int->Option PV
 |[],_,_=>.none
 |k::ks,l,x=>match l with
  |[]=>.none
  |v::vs=>if k=x then some v else my ks vs x
noncomputable def ar:af->Nat->Option MO
 |[],_=>.none
 |o::_,0=>some o
 |_::r,i+1=>ar r i
noncomputable def sset:af->Nat->MO->af
 |[],_,_=>[]
 |_::r,0,x=>x::r
 |o::r,i+1,x=>o::sset r i x
noncomputable def bD:aD->Nat->Option PV
 |[],_=>.none
 |o::_,0=>o
 |_::r,i+1=>bD r i
noncomputable def cU:aD->Nat->PV->aD
 |[],_,_=>[]
 |_::r,0,x=>some x::r
 |o::r,i+1,x=>o::cU r i x
inductive pV where
 |add | sub | mul | mod | fdiv | band | bor | shl | shr
 deriving DecidableEq
inductive Cm where
 |eq | ne | lt | le | gt | ge | isin | fK | is
 deriving DecidableEq
inductive Bi where
 |len | sorted | tuple | list
 deriving DecidableEq
mutual
inductive ME where
 |k (v:PV)
 |gl (i:Nat)
 |aa (i:Nat)
 |ah (es:bZ)
 |list (es:bZ)
 |dQ (kk:KK)
 |kN (ks:List Int) (es:bZ)
 |bin (o:pV) (a b:ME)
 |cmp (o:Cm) (a b:ME)
 |and (es:bZ)
 |or (es:bZ)
 |not (e:ME)
 |neg (e:ME)
 |ite (c a b:ME)
 |aq (a i:ME)
 |slice (a:ME) (lo hi:fM)
 |aC (f:Nat) (es:bZ)
 |aO (b:Bi) (e:ME)
 |aU (o:ME) (m:Nat) (es:bZ)
 |attr (o:ME)
 |new (c:Nat) (es:bZ)
 |comp (elt:ME) (it:MI) (cond:fM)
inductive bZ where
 |nil
 |cons (e:ME) (r:bZ)
inductive fM where
 |no
 |yes (e:ME)
inductive MI where
 |plain (e:ME)
 |enum (e:ME)
 |gP (e:ME)
 |dA (a b:ME)
end
inductive jh where
 |one (i:Nat)
 |many (is:List Nat)
mutual
inductive MS where
 |expr (e:ME)
 |aK (i:Nat) (e:ME)
 |dR (is:List Nat) (e:ME)
 |b4 (a i e:ME)
 |setAttr (o e:ME)
 |aug (i:Nat) (o:pV) (e:ME)
 |ba (c:ME) (a b:bG)
 |bt (t:jh) (it:MI) (body:bG)
 |lG (c:ME) (body:bG)
 |ret (e:ME)
 |cont
 |fq (es:bZ)
 |lr (body:bG) (h:PV)
inductive bG where
 |nil
 |cons (s:MS) (r:bG)
end
inductive Ex where
 |fresh | iy
 deriving DecidableEq
inductive Fl where
 |next | cont | ret (v:PV)
noncomputable abbrev aF(α:Type):=Option (Except Ex α×af)
noncomputable def hM(f:PV->PV->Option Bool):List PV->List PV->Option Bool
 |[],l=>match l with
  |[]=>some true
  |_::_=>some false
 |a::as,l=>match l with
  |[]=>some false
  |b::bs=>(f a b).bind λx=>(hM f as bs).bind λy=>some (x&&y)
noncomputable def G8(a b:PV):Option Bool:=match a with
 |.int a=>match b with
  |.int b=>some (decide (a=b))
  |.str _=>some false
  |_=>.none
 |.str a=>match b with
  |.str b=>some (decide (a=b))
  |.int _=>some false
  |_=>.none
 |.bool a=>match b with
  |.bool b=>some (decide (a=b))
  |_=>.none
 |_=>.none
noncomputable def eqv:Nat->PV->PV->Option Bool
 |0,a,b=>G8 a b
 |n+1,a,b=>match dD a with
  |some x=>(dD b).bind λy=>hM (eqv n) x y
  |.none=>G8 a b
noncomputable def isIn:PV->List PV->Option Bool
 |_,[]=>some false
 |x,y::r=>(eqv 6 y x).bind λb=>(isIn x r).bind λc=>some (b||c)
noncomputable def aS{α:Type}(l:List α):Bool:=decide (l.length<=65536)
noncomputable def c9:MO->Option (List PV)
 |.list l=>some l
 |_=>.none
noncomputable def truth(Z:af):PV->Option Bool
 |.none=>some false
 |.bool b=>some b
 |.int i=>some (i != 0)
 |.ref i=>(ar Z i).bind λo=>(c9 o).bind λl=>aJ (aS l) (some (!l.isEmpty))
 |_=>.none
noncomputable def small(i:Int):Bool:=decide (-4611686018427387904<i)&&decide (i<4611686018427387904)
noncomputable def listOf(Z:af):PV->Option (List PV)
 |.ref i=>(ar Z i).bind c9
 |_=>.none
noncomputable def items(Z:af):PV->Option (List PV)
 |.ah l=>some l
 |.dh l=>some l
 |.ref i=>(ar Z i).bind c9
 |_=>.none
noncomputable def gQ(o:pV)(x y:Int):Option Int:=
 match o with
 |.add=>some (x+y)
 |.sub=>some (x-y)
 |.mul=>aJ (small x) (some (x*y))
 |.mod=>aJ (decide (y≠0)) (some (x.fmod y))
 |.fdiv=>aJ (decide (y≠0)) (aJ (decide (y.natAbs<1073741824)) (some (x.fdiv y)))
 |.band=>some (Builtin.bitAnd x y)
 |.bor=>some (Builtin.bitOr x y)
 |.shl=>aJ (small x) (aJ (decide (0<=y)) (aJ (decide (y<=64)) (some (x*2 ^ y.toNat))))
 |.shr=>aJ (decide (0<=y)) (aJ (decide (y<=64)) (some (x.fdiv (2 ^ y.toNat))))
noncomputable def binop(o:pV)(a b:PV)(Z:af):Option (PV×af):=
 match a with
 |.int x=>(bL b).bind λy=>(gQ o x y).bind λz=>some (.int z,Z)
 |.ah x=>aJ (decide (o=.add)) ((dD b).bind λy=>aJ (aS (x++y)) (some (.ah (x++y),Z)))
 |.ref i=>aJ (decide (o=.add)) ((listOf Z (.ref i)).bind λx=>(listOf Z b).bind λy=>aJ (aS (x++y)) (some (.ref Z.length,Z++[.list (x++y)])))
 |_=>.none
noncomputable def fN:List PV->Nat->Option PV
 |[],_=>.none
 |x::_,0=>some x
 |_::r,i+1=>fN r i
noncomputable def listAt(l:List PV)(i:PV):Option PV:=(bL i).bind λk=>aJ (small k) ((seqIndex? k l.length).bind (fN l))
noncomputable def AJ(i:PV):MO->Option PV
 |.list l=>listAt l i
 |.dict kk es=>(toKey kk i).bind (bj es)
 |.attrs _=>.none
noncomputable def index(a i:PV)(Z:af):Option PV:=
 match a with
 |.ah l=>listAt l i
 |.fc ks vs=>(bL i).bind (my ks vs)
 |.ref r=>(ar Z r).bind (AJ i)
 |_=>.none
noncomputable def clamp(n:Nat)(dflt:Nat):Option PV->Option Nat
 |.none=>some dflt
 |some p=>(bL p).bind λk=>some (clipAt n k)
noncomputable def cut(x:PV)(lo hi:Option PV)(Z:af):Option (PV×af):=
 (items Z x).bind λl=>aJ (aS l) ((clamp l.length 0 lo).bind λi=>(clamp l.length l.length hi).bind λj=>
  match dD x with
  |some _=>some (.ah ((l.drop i).take (j-i)),Z)
  |.none=>some (.ref Z.length,Z++[.list ((l.drop i).take (j-i))]))
noncomputable def vO(x:PV):MO->Option Bool
 |.list l=>isIn x l
 |.dict kk es=>(toKey kk x).bind λk=>some (bj es k).isSome
 |.attrs _=>.none
noncomputable def among(x b:PV)(Z:af):Option Bool:=
 match b with
 |.ah l=>isIn x l
 |.ref i=>(ar Z i).bind (vO x)
 |_=>.none
noncomputable def equal(a b:PV)(Z:af):Option Bool:=
 match a with
 |.ref i=>(listOf Z (.ref i)).bind λx=>(listOf Z b).bind λy=>hM (eqv 6) x y
 |a=>eqv 6 a b
noncomputable def cmpInt(f:Int->Int->Bool)(a b:PV):Option Bool:=(bL a).bind λx=>(bL b).bind λy=>some (f x y)
noncomputable def QC:PV->Option Bool
 |.none=>some true
 |.ah _=>some false
 |_=>.none
noncomputable def lH:PV->Option Unit
 |.none=>some ()
 |_=>.none
noncomputable def kO(o:Cm)(a b:PV)(Z:af):Option Bool:=
 match o with
 |.eq=>equal a b Z
 |.ne=>(eqv 6 a b).bind λr=>some (!r)
 |.lt=>cmpInt (λx y=>decide (x<y)) a b
 |.le=>cmpInt (λx y=>decide (x<=y)) a b
 |.gt=>cmpInt (λx y=>decide (x>y)) a b
 |.ge=>cmpInt (λx y=>decide (x>=y)) a b
 |.isin=>among a b Z
 |.fK=>(among a b Z).bind λr=>some (!r)
 |.is=>(lH b).bind λO=>QC a
noncomputable def vq:List Nat->List Nat->Bool
 |[],[]=>false
 |[],_::_=>true
 |_::_,[]=>false
 |a::as,b::bs=>if a=b then vq as bs else decide (a<b)
noncomputable def Pc(a b:PV):Option Bool:=match a with
 |.int a=>(bL b).bind λb=>some (decide (a<b))
 |.str a=>(vp b).bind λb=>some (vq a b)
 |_=>.none
noncomputable def Kn:List PV->List PV->Option Bool
 |[],l=>match l with
  |[]=>some false
  |_::_=>some true
 |a::as,l=>match l with
  |[]=>some false
  |b::bs=>(eqv 6 a b).bind λe=>bif e then Kn as bs else Pc a b
noncomputable def Ko(a b:PV):Option Bool:=match a with
 |.ah a=>(dD b).bind λb=>Kn a b
 |.int a=>(bL b).bind λb=>some (decide (a<b))
 |_=>.none
noncomputable def tc(x:PV):List PV->Option (List PV)
 |[]=>some [x]
 |y::r=>(Ko x y).bind λb=>bif b then some (x::y::r) else (tc x r).bind λl=>some (y::l)
noncomputable def gV:List PV->Option (List PV)
 |[]=>some []
 |x::r=>(gV r).bind (tc x)
noncomputable def G9:Key->Option Int
 |.int x=>some x
 |.ah _=>.none
noncomputable def intKeys:List (Key×PV)->Option (List Int)
 |[]=>some []
 |p::r=>(G9 p.1).bind λx=>(intKeys r).bind λl=>some (x::l)
noncomputable def AK(lt:Nat->Nat->Option Bool){α:Type}:PySem.W.KasT α->Option α
 |.ret a=>some a
 |.ask i j k=>(lt i j).bind λb=>AK lt (k b)
noncomputable def nM(p:PV):Bool:=match dD p with
 |some l=>match l with
  |x::_=>(bL x).isSome
  |[]=>false
 |.none=>false
noncomputable def vt(l:List PV)(i j:Nat):Option Bool:=Ko (l.getD i .none) (l.getD j .none)
noncomputable def AL(l:List PV):Option (List PV):=aJ (l.all nM) (aJ (decide (l.length<64)) (bif decide (l.length<2) then some l
 else (AK (vt l) (PySem.W.kas_sort l.length)).bind λp=>some (p.toList.map λi=>l.getD i .none)))
noncomputable def gu(l:List PV):Option (List PV):=match ints? l with
 |some _=>aJ (decide (l.length<64)) (gV l)
 |.none=>AL l
noncomputable def lenOf(n:Nat)(Z:af):Option (PV×af):=aJ (decide (n<=65536)) (some (.int n,Z))
noncomputable def AM(Z:af)(l:List PV):Option (PV×af):=(gu l).bind λl=>some (.ref Z.length,Z++[.list l])
noncomputable def intD:KK->Option Unit
 |.int=>some ()
 |.ah _=>.none
noncomputable def E7(Z:af):MO->Option (PV×af)
 |.list l=>lenOf l.length Z
 |.dict kk es=>(intD kk).bind λO=>lenOf es.length Z
 |.attrs _=>.none
noncomputable def vw(Z:af):MO->Option (PV×af)
 |.list l=>AM Z l
 |.dict kk es=>(intD kk).bind λO=>(intKeys es).bind λks=>aJ (decide (ks.length<64)) ((gV (ks.map .int)).bind λl=>some (.ref Z.length,Z++[.list l]))
 |.attrs _=>.none
noncomputable def builtin(b:Bi)(v:PV)(Z:af):Option (PV×af):=match b with
 |.len=>match v with
  |.bytes l=>lenOf l.length Z
  |.ah l=>lenOf l.length Z
  |.ref i=>(ar Z i).bind (E7 Z)
  |_=>.none
 |.tuple=>match v with
  |.bytes l=>aJ (aS l) (some (.ah (l.map λ(n:Nat)=>PV.int n),Z))
  |_=>.none
 |.list=>(dD v).bind λl=>aJ (aS l) (some (.ref Z.length,Z++[.list l]))
 |.sorted=>match v with
  |.ah l=>AM Z l
  |.ref i=>(ar Z i).bind (vw Z)
  |_=>.none
noncomputable def ji:MO->Option (KK×List (Key×PV))
 |.dict kk es=>some (kk,es)
 |_=>.none
noncomputable def getM(o k d:PV)(Z:af):Option (PV×af):=match o with
 |.fc ks ws=>(bL k).bind λk=>some ((my ks ws k).getD d,Z)
 |.ref i=>(ar Z i).bind λo=>(ji o).bind λq=>(toKey q.1 k).bind λk=>some ((bj q.2 k).getD d,Z)
 |_=>.none
noncomputable def o8:PV->Option Nat
 |.ref i=>some i
 |_=>.none
noncomputable def vP(o k d:PV)(Z:af):Option (PV×af):=(o8 o).bind λi=>(bL k).bind λk=>(ar Z i).bind λo=>(ji o).bind λq=>(intD q.1).bind λO=>aJ (aS q.2) (match bj q.2 (.int k) with
 |some v=>some (v,Z)
 |.none=>some (d,sset Z i (.dict .int (cn q.2 (.int k) d))))
noncomputable def te(o v:PV)(Z:af):Option (PV×af):=(o8 o).bind λi=>(ar Z i).bind λo=>(c9 o).bind λl=>aJ (aS l) (some (.none,sset Z i (.list (l++[v]))))
noncomputable def two(vs:List PV):Option (PV×PV):=match vs with
 |[]=>.none
 |k::r=>match r with
  |[]=>.none
  |d::r=>match r with
   |[]=>some (k,d)
   |_::_=>.none
noncomputable def method(m:Nat)(o:PV)(vs:List PV)(Z:af):Option (PV×af):=match m with
 |0=>(two vs).bind λq=>getM o q.1 q.2 Z
 |1=>(two vs).bind λq=>vP o q.1 q.2 Z
 |2=>match vs with
  |[]=>.none
  |v::r=>match r with
   |[]=>te o v Z
   |_::_=>.none
 |_=>.none
noncomputable def vQ:PV->Option (Nat×Nat)
 |.inst c j=>some (c,j)
 |_=>.none
noncomputable def lI:MO->Option (Option PV)
 |.attrs r=>some r
 |_=>.none
noncomputable def getAttr(o:PV)(Z:af):Option PV:=(vQ o).bind λq=>(ar Z q.2).bind λa=>(lI a).bind λr=>r.bind λv=>(o8 v).bind λi=>aJ (Nat.ble q.1 1) (some (.ref i))
noncomputable def dj(m:Nat)(x:PV)(Z:af):Bool:=
 match x with
 |.fc _ _=>Nat.beq m 0
 |.ref i=>match ar Z i with
  |some o=>match o with
   |.dict _ _=>Nat.ble m 1
   |.list _=>Nat.beq m 2
   |.attrs _=>false
  |.none=>false
 |.inst c j=>match ar Z j with
  |some o=>match o with
   |.attrs _=>bif Nat.beq c 0 then Nat.beq m 3 else (Nat.beq c 1&&(Nat.beq m 3||(Nat.beq m 4||Nat.beq m 5)))
   |_=>false
  |.none=>false
 |_=>false
section
variable(cf:Nat->List PV->af->aF PV)(gl:Nat->PV)
noncomputable def ej(c m:Nat):Option Nat:=
 match c,m with
 |0,3=>some 102
 |1,3=>some 105
 |1,4=>some 106
 |1,5=>some 104
 |_,_=>.none
noncomputable def lJ(c:Nat):Option Nat:=
 match c with
 |0=>some 101
 |1=>some 103
 |_=>.none
inductive Src where
 |ah (l:List PV)
 |dh (l:List PV)
 |live (i:Nat)
 |range (a:Int) (n:Nat)
noncomputable def cC(Z:af)(k:Nat):Src->Option (Option PV)
 |.ah l=>some (fN l k)
 |.dh l=>some (fN l k)
 |.live i=>(ar Z i).bind λo=>(c9 o).bind λl=>some (fN l k)
 |.range a n=>some (if k<n then some (.int (a+(k:Int))) else .none)
noncomputable def ew(Z:af):Src->Nat
 |.ah l=>l.length
 |.dh l=>l.length
 |.live i=>match (ar Z i).bind c9 with
  |some l=>l.length
  |.none=>0
 |.range _ n=>n
noncomputable def srcOf(Z:af):PV->Option Src
 |.ah l=>some (.ah l)
 |.ref i=>(ar Z i).bind λo=>(c9 o).bind λO=>some (.live i)
 |_=>.none
noncomputable def wrap(en:Bool)(k:Nat)(x:PV):PV:=match en with
 |true=>.ah [.int (k:Int),x]
 |false=>x
noncomputable def ay{α β:Type}(m:aF α)(k:α->af->aF β):aF β:=match m with
 |some r=>match r with
  |(x,Z)=>match x with
   |.ok v=>k v Z
   |.error e=>some (.error e,Z)
 |.none=>.none
noncomputable def bp{α β:Type}(m:aF α)(k:α->af->aF β):aF β:=match m with
 |some r=>match r with
  |(x,Z)=>match x with
   |.ok v=>k v Z
   |.error _=>.none
 |.none=>.none
noncomputable def av{α:Type}(v:α)(Z:af):aF α:=some (.ok v,Z)
noncomputable def lift{α:Type}(o:Option (α×af)):aF α:=match o with
 |some r=>some (.ok r.1,r.2)
 |.none=>.none
noncomputable def read{α:Type}(Z:af)(o:Option α):aF α:=match o with
 |some v=>some (.ok v,Z)
 |.none=>.none
noncomputable def pick{α:Type}(t:Option Bool)(a b:aF α):aF α:=t.bind λt=>match t with
 |true=>a
 |false=>b
noncomputable def cu(f:PV->af->aF (Option PV))(src:Src)(en:Bool):Nat->Nat->af->aF (List PV)
 |0,_,_=>.none
 |n+1,k,Z=>match cC Z k src with
  |some x=>match x with
   |some x=>aJ (decide (k<=65536)) (bp (f (wrap en k x) Z) λy Z=>match y with
    |some y=>bp (cu f src en n (k+1) Z) λys Z=>av (y::ys) Z
    |.none=>cu f src en n (k+1) Z)
   |.none=>av [] Z
  |.none=>.none
noncomputable def iz(Z:af):Option PV->Option Bool
 |.none=>some true
 |some v=>truth Z v
noncomputable def iV(ks:List Int):Bool:=decide (17<ks.length)&&decide (ks.length<33)&&decide ks.Nodup
noncomputable def CC(vs:List PV)(Z:af):aF PV:=aJ (aS vs) (av (.ah vs) Z)
noncomputable def newList(vs:List PV)(Z:af):aF PV:=aJ (aS vs) (some (.ok (.ref Z.length),Z++[.list vs]))
noncomputable def gw(x:PV)(m:Nat)(vs:List PV)(Z:af):aF PV:=match x with
 |.inst c _=>(ej c m).bind λf=>cf f (x::vs) Z
 |x=>lift (method m x vs Z)
noncomputable def ID(c:Nat)(vs:List PV)(Z:af):aF PV:=(lJ c).bind λf=>ay (cf f (.inst c Z.length::vs) (Z++[.attrs .none])) λr ag=>(lH r).bind λO=>av (.inst c Z.length) ag
mutual
noncomputable def ai:ME->aD->af->aF PV
 |.k v,_,Z=>av v Z
 |.gl i,_,Z=>av (gl i) Z
 |.aa i,J,Z=>read Z (bD J i)
 |.ah es,J,Z=>ay (bw es J Z) CC
 |.list es,J,Z=>ay (bw es J Z) newList
 |.dQ kk,_,Z=>some (.ok (.ref Z.length),Z++[.dict kk []])
 |.kN ks es,J,Z=>bp (bw es J Z) λvs Z=>aJ (iV ks) (aJ (decide (vs.length=ks.length)) (some (.ok (.ref Z.length),Z++[.dict .int ((ks.map Key.int).zip vs)])))
 |.bin o a b,J,Z=>ay (ai a J Z) λx Z=>ay (ai b J Z) λy Z=>lift (binop o x y Z)
 |.cmp o a b,J,Z=>ay (ai a J Z) λx Z=>ay (ai b J Z) λy Z=>read Z ((kO o x y Z).bind λb=>some (.bool b))
 |.and es,J,Z=>evalAnd es J Z
 |.or es,J,Z=>evalOr es J Z
 |.not e,J,Z=>ay (ai e J Z) λv Z=>read Z ((truth Z v).bind λb=>some (.bool (!b)))
 |.neg e,J,Z=>ay (ai e J Z) λv Z=>read Z ((bL v).bind λi=>some (.int (-i)))
 |.ite c a b,J,Z=>ay (ai c J Z) λv Z=>pick (truth Z v) (ai a J Z) (ai b J Z)
 |.aq a i,J,Z=>ay (ai a J Z) λx Z=>ay (ai i J Z) λy Z=>read Z (index x y Z)
 |.slice a lo hi,J,Z=>ay (ai a J Z) λx Z=>ay (dk lo J Z) λlo Z=>ay (dk hi J Z) λhi Z=>lift (cut x lo hi Z)
 |.aC f es,J,Z=>ay (bw es J Z) λvs Z=>cf f vs Z
 |.aO b e,J,Z=>ay (ai e J Z) λv Z=>lift (builtin b v Z)
 |.aU o m es,J,Z=>ay (ai o J Z) λx Z=>aJ (dj m x Z) (ay (bw es J Z) λvs Z=>gw cf x m vs Z)
 |.attr o,J,Z=>ay (ai o J Z) λx Z=>read Z (getAttr x Z)
 |.new c es,J,Z=>ay (bw es J Z) λvs Z=>ID cf c vs Z
 |.comp elt it cond,J,Z=>ay (fO it J Z) λsrc Z=>
   bp (cu (λx Z=>bp (dk cond [some x] Z) λc Z=>
     pick (iz Z c) (bp (ai elt [some x] Z) λy Z=>av (some y) Z) (av .none Z))
    src.1 src.2 (ew Z src.1+1) 0 Z) λvs Z=>some (.ok (.ref Z.length),Z++[.list vs])
noncomputable def bw:bZ->aD->af->aF (List PV)
 |.nil,_,Z=>av [] Z
 |.cons e r,J,Z=>ay (ai e J Z) λv Z=>ay (bw r J Z) λvs Z=>av (v::vs) Z
noncomputable def evalAnd:bZ->aD->af->aF PV
 |.nil,_,_=>.none
 |.cons e r,J,Z=>match r with
  |.nil=>ai e J Z
  |.cons e' r'=>ay (ai e J Z) λv Z=>pick (truth Z v) (evalAnd (.cons e' r') J Z) (av v Z)
noncomputable def evalOr:bZ->aD->af->aF PV
 |.nil,_,_=>.none
 |.cons e r,J,Z=>match r with
  |.nil=>ai e J Z
  |.cons e' r'=>ay (ai e J Z) λv Z=>pick (truth Z v) (av v Z) (evalOr (.cons e' r') J Z)
noncomputable def dk:fM->aD->af->aF (Option PV)
 |.no,_,Z=>av .none Z
 |.yes e,J,Z=>ay (ai e J Z) λv Z=>av (some v) Z
noncomputable def fO:MI->aD->af->aF (Src×Bool)
 |.plain e,J,Z=>ay (ai e J Z) λv Z=>read Z ((srcOf Z v).bind λs=>some (s,false))
 |.enum e,J,Z=>ay (ai e J Z) λv Z=>read Z ((srcOf Z v).bind λs=>some (s,true))
 |.gP e,J,Z=>ay (ai e J Z) λv Z=>read Z ((bL v).bind λn=>aJ (small n) (some (.range 0 n.toNat,false)))
 |.dA a b,J,Z=>ay (ai a J Z) λu Z=>ay (ai b J Z) λv Z=>read Z ((bL u).bind λm=>(bL v).bind λn=>aJ (small m) (aJ (small n) (some (.range m (n-m).toNat,false))))
end
noncomputable def kP:aD->List Nat->List PV->Option aD
 |J,[],l=>match l with
  |[]=>some J
  |_::_=>.none
 |J,i::is,l=>match l with
  |[]=>.none
  |v::vs=>kP (cU J i v) is vs
noncomputable def fe(t:jh)(v:PV)(J:aD):Option aD:=
 match t with
 |.one i=>some (cU J i v)
 |.many is=>(dD v).bind (kP J is)
noncomputable def setItem(a i v:PV)(Z:af):Option af:=(o8 a).bind λr=>(ar Z r).bind λo=>(ji o).bind λq=>(toKey q.1 i).bind λk=>aJ (aS q.2) (some (sset Z r (.dict q.1 (cn q.2 k v))))
noncomputable def tf(o v:PV)(Z:af):Option af:=(vQ o).bind λq=>(ar Z q.2).bind λa=>(lI a).bind λO=>aJ (Nat.ble q.1 1) (some (sset Z q.2 (.attrs (some v))))
noncomputable def put{α:Type}(J:α):Option af->aF (Fl×α)
 |some Z=>av (.next,J) Z
 |.none=>.none
noncomputable def forL(body:aD->af->aF (Fl×aD))(t:jh)(src:Src)(en:Bool):Nat->Nat->aD->af->aF (Fl×aD)
 |0,_,_,_=>.none
 |n+1,k,J,Z=>match cC Z k src with
  |some x=>match x with
   |some x=>(fe t (wrap en k x) J).bind λJ=>bp (body J Z) λr Z=>match r.1 with
    |.ret v=>av (.ret v,r.2) Z
    |_=>forL body t src en n (k+1) r.2 Z
   |.none=>av (.next,J) Z
  |.none=>.none
noncomputable def ft(test:aD->af->aF PV)(body:aD->af->aF (Fl×aD)):Nat->aD->af->aF (Fl×aD)
 |0,_,_=>.none
 |n+1,J,Z=>bp (test J Z) λv Z=>pick (truth Z v)
   (bp (body J Z) λr Z=>match r.1 with
    |.ret v=>av (.ret v,r.2) Z
    |_=>ft test body n r.2 Z)
   (av (.next,J) Z)
noncomputable def turns:Nat:=100000
noncomputable def jj(r:aF (Fl×aD))(h:PV)(J:aD):aF (Fl×aD):=match r with
 |some q=>match q.1 with
  |.ok r=>av r q.2
  |.error e=>match e with
   |.iy=>av (.ret h,J) q.2
   |.fresh=>.none
 |.none=>.none
noncomputable def fresh(Z:af):aF (Fl×aD):=some (.error .fresh,Z)
mutual
noncomputable def br:MS->aD->af->aF (Fl×aD)
 |.expr e,J,Z=>ay (ai cf gl e J Z) λO Z=>av (.next,J) Z
 |.aK i e,J,Z=>ay (ai cf gl e J Z) λv Z=>av (.next,cU J i v) Z
 |.dR is e,J,Z=>ay (ai cf gl e J Z) λv Z=>read Z ((fe (.many is) v J).bind λJ=>some (.next,J))
 |.b4 a i e,J,Z=>ay (ai cf gl e J Z) λv Z=>ay (ai cf gl a J Z) λa Z=>ay (ai cf gl i J Z) λi Z=>
   put J (setItem a i v Z)
 |.setAttr o e,J,Z=>ay (ai cf gl e J Z) λv Z=>ay (ai cf gl o J Z) λo Z=>put J (tf o v Z)
 |.aug i o e,J,Z=>ay (read Z (bD J i)) λx Z=>ay (ai cf gl e J Z) λy Z=>ay (read Z (bL x)) λm Z=>ay (read Z (bL y)) λn Z=>ay (lift (binop o (.int m) (.int n) Z)) λv Z=>av (.next,cU J i v) Z
 |.ba c a b,J,Z=>ay (ai cf gl c J Z) λv Z=>pick (truth Z v) (au a J Z) (au b J Z)
 |.bt t it body,J,Z=>ay (fO cf gl it J Z) λsrc Z=>forL (au body) t src.1 src.2 (ew Z src.1+1) 0 J Z
 |.lG c body,J,Z=>ft (ai cf gl c) (au body) turns J Z
 |.ret e,J,Z=>ay (ai cf gl e J Z) λv Z=>av (.ret v,J) Z
 |.cont,J,Z=>av (.cont,J) Z
 |.fq es,J,Z=>ay (bw cf gl es J Z) λO Z=>fresh Z
 |.lr body h,J,Z=>jj (au body J Z) h J
noncomputable def au:bG->aD->af->aF (Fl×aD)
 |.nil,J,Z=>av (.next,J) Z
 |.cons s r,J,Z=>ay (br s J Z) λf Z=>match f.1 with
  |.next=>au r f.2 Z
  |_=>av f Z
end
end
structure bo where
 params:Nat
 locals:Nat
 body:bG
noncomputable def back(r:aF (Fl×aD)):aF PV:=match r with
 |some q=>match q.1 with
  |.ok r=>match r.1 with
   |.ret v=>av v q.2
   |.next=>av .none q.2
   |.cont=>.none
  |.error e=>match e with
   |.fresh=>some (.error .iy,q.2)
   |.iy=>.none
 |.none=>.none
noncomputable def vx(cf:Nat->List PV->af->aF PV)(gl:Nat->PV)(d:bo)(vs:List PV)(Z:af):aF PV:=
 aJ (decide (vs.length=d.params)) (back (au cf gl d.body (vs.map some++List.replicate (d.locals-d.params) .none) Z))
noncomputable def ax(defs:Nat->Option bo)(gl:Nat->PV):Nat->Nat->List PV->af->aF PV
 |0,_,_,_=>.none
 |n+1,f,vs,Z=>(defs f).bind λd=>vx (ax defs gl n) gl d vs Z
end FR
namespace FR
open PySem PySem.W PySem.Calls PyProof.Rows
open Sem (wp)
section
variable{prog:Program}{w:World}
noncomputable def kd:K1->KT
 |.i _=>.i
 |.s _=>.s
 |.n _=>.n
noncomputable def iA(prog:Program)(w:World)(h:Heap)(k:K1)(v:Value):Prop:=match k with
 |.i x=>∃t,v=.int x t
 |.s x=>∃t,v=.str ⟨x.toArray⟩ t
 |.n l=>∃a,v=.ref a/\IsTupleKey (intKind prog w) h l a
noncomputable def fg(prog:Program)(w:World)(h:Heap):List K1->List Value->Prop
 |[],vs=>vs=[]
 |k::ks,vs=>∃v r,vs=v::r/\iA prog w h k v/\fg prog w h ks r
noncomputable def kQ(prog:Program)(w:World):K1->Int
 |.i x=>hashInt x
 |.s x=>hashStr w ⟨x.toArray⟩
 |.n l=>tupleKeyHash (intKind prog w) l
noncomputable def lK:K1->Nat
 |.i _=>1
 |.s _=>1
 |.n l=>l.length+1
noncomputable def AN(prog:Program)(w:World)(ks:List K1):Int:=reduceHash (Builtin.Tuple.tupleHashOf (ks.map (kQ prog w)))
noncomputable def vR(ks:List K1):Nat:=(ks.map lK).sum+1
noncomputable def ip(prog:Program)(w:World)(ts:List KT)(h:Heap)(ks:List K1)(a:Addr):Prop:=
 ks.map kd=ts/\∃o xs n,h.get? a=some o/\o.cls=.type "tuple"/\o.data=.seq xs n/\fg prog w h ks xs.toList
section
variable{h h':Heap}{k k':K1}{ks ny:List K1}{v:Value}{vs:List Value}{ts:List KT}{a:Addr}
theorem Ha(e:kd k=kd k'){M:Prop}(i:∀x y,k=.i x->k'=.i y->M)(s:∀x y,k=.s x->k'=.s y->M)(n:∀x y,k=.n x->k'=.n y->M):M:=by
 cases k with
 |i x=>cases k' with
  |i y=>exact i x y rfl rfl
  |s y=>exact nomatch e
  |n y=>exact nomatch e
 |s x=>cases k' with
  |i y=>exact nomatch e
  |s y=>exact s x y rfl rfl
  |n y=>exact nomatch e
 |n x=>cases k' with
  |i y=>exact nomatch e
  |s y=>exact nomatch e
  |n y=>exact n x y rfl rfl
theorem iA.inj(x:iA prog w h k v)(e:kd k=kd k')(y:iA prog w h k' v):k=k':=
 Ha (M:=k=k') e (λa b e1 e2=>by subst e1 e2;exact x.elim λt p=>y.elim λu q=>by rw[p] at q;cases q;rfl)
  (λa b e1 e2=>by subst e1 e2;exact x.elim λt p=>y.elim λu q=>by rw[p] at q;cases q;rfl)
  λa b e1 e2=>by subst e1 e2;exact x.elim λt p=>y.elim λu q=>by have e:=p.1.symm.trans q.1;cases e;rw[p.2.inj q.2]
theorem fg.inj(x:fg prog w h ks vs)(e:ks.map kd=ny.map kd)(y:fg prog w h ny vs):ks=ny:=by
 induction ks generalizing ny vs with
 |nil=>exact(List.map_eq_nil_iff.mp e.symm).symm
 |cons k ks ih=>cases ny with
  |nil=>exact nomatch e
  |cons k' ny=>
   obtain ⟨v,r,rfl,x1,x2⟩:=x
   obtain ⟨v',r',e',y1,y2⟩:=y
   cases e'
   rw[x1.inj (List.cons.inj e).1 y1,ih x2 (List.cons.inj e).2 y2]
theorem ip.inj{x y:List K1}(hx:ip prog w ts h x a)(hy:ip prog w ts h y a):x=y:=by
 obtain ⟨e,o,xs,n,ho,_,hd,hi⟩:=hx
 obtain ⟨e',o',zF,n',vS,_,Kp,lL⟩:=hy
 cases ho.symm.trans vS
 cases hd.symm.trans Kp
 exact hi.inj (e.trans e'.symm) lL
variable{d:Addr}{o:Obj}{es:Array DictEntry}{ep:Nat}
theorem iA.keeps(x:iA prog w h k v)(ho:h.get? d=some o)(hd:o.data=.dict es ep)(hs:Heap.SameBut d h h'):iA prog w h' k v:=by
 cases k with
 |i a=>exact x
 |s a=>exact x
 |n a=>exact x.imp λt=>And.imp_right λx=>x.keeps ho hd hs
theorem fg.keeps(ho:h.get? d=some o)(hd:o.data=.dict es ep)(hs:Heap.SameBut d h h')(x:fg prog w h ks vs):fg prog w h' ks vs:=by
 induction ks generalizing vs with
 |nil=>exact x
 |cons k ks ih=>exact x.imp λv=>Exists.imp λr=>And.imp_right (And.imp (λx=>x.keeps ho hd hs) ih)
theorem ip.keeps(x:ip prog w ts h ks a)(ho:h.get? d=some o)(hd:o.data=.dict es ep)(hs:Heap.SameBut d h h'):ip prog w ts h' ks a:=
 x.imp id λx=>x.imp λo'=>Exists.imp λitems=>Exists.imp λn x=>⟨(hs.2 a λq=>nomatch x.2.2.1.symm.trans ((congrArg Obj.data (Option.some.inj (x.1.symm.trans (q▸ho)))).trans hd)).trans x.1,x.2.1,x.2.2.1,fg.keeps ho hd hs x.2.2.2⟩
theorem ip.typeIs{s:Shared}(x:ip prog w ts s.heap ks a):s.TypeIs (.ref a) "tuple":=x.2.imp λO x=>x.elim λO x=>x.elim λO x=>⟨x.1,x.2.1⟩
end
variable{A:Around}{E:Value->Shared->Prop}{s:Shared}{ts:List KT}{ks:List K1}{a b:Addr}{Q:Bool->Shared->Prop}
theorem IE{k:K1}{v:Value}{Q:Int->Shared->Prop}(hu:A.units<cLine)(hk:iA prog w s.heap k v)(h:Q (kQ prog w k) {s with toks:=s.toks+lK k}):
  wpAny (model prog w) A (pyHash v) Q E s:=by
 cases k with
 |i x=>exact hk.elim λt e=>e▸wpAny_pyHash_int h
 |s x=>exact hk.elim λt e=>e▸wpAny_pyHash_str h
 |n l=>exact hk.elim λa e=>e.1▸wpAny_pyHash_tuple hu e.2 h
theorem Og(a b:Int):decide (K1.i a=K1.i b)=decide (a=b):=decide_eq_decide.mpr ⟨λh=>K1.i.noConfusion h id,congrArg _⟩
theorem Oh(a b:List Nat):decide (K1.s a=K1.s b)=decide (Str.mk a.toArray=Str.mk b.toArray):=decide_eq_decide.mpr ⟨λh=>K1.s.noConfusion h λe=>congrArg (λl:List Nat=>Str.mk l.toArray) e,λh=>congrArg K1.s (congrArg (λs:Str=>s.cps.toList) h)⟩
theorem Oi(a b:List Int):decide (K1.n a=K1.n b)=decide (a=b):=decide_eq_decide.mpr ⟨λh=>K1.n.noConfusion h id,congrArg _⟩
theorem IF{k k':K1}{u v:Value}(hu:A.units<cLine)(e:kd k=kd k')(hk:iA prog w s.heap k u)(dE:iA prog w s.heap k' v)(h:Q (decide (k=k')) s):wpAny (model prog w) A (eqBool u v) Q E s:=by
 refine Ha e (λx y e1 e2=> ?_) (λx y e1 e2=> ?_) λx y e1 e2=> ?_
 ·subst e1 e2
  rw[Og] at h
  exact hk.elim λt p=>dE.elim λt' p'=>p▸p'▸wpAny_eqBool_int h
 ·subst e1 e2
  rw[Oh] at h
  exact hk.elim λt p=>dE.elim λt' p'=>p▸p'▸wpAny_eqBool_str h
 ·subst e1 e2
  rw[Oi] at h
  exact hk.elim λt p=>dE.elim λt' p'=>p.1▸p'.1▸wpAny_eqBool_tuple hu p.2 p'.2 h
theorem cl{n:Nat}(h:n+1<cLine):n<cLine:=Nat.lt_of_succ_lt h
set_option tactic.hygienic true in
theorem IG{Q:Int->Shared->Prop}(hu:A.units+1<cLine)(hk:ip prog w ts s.heap ks a)(h:Q (AN prog w ks) {s with toks:=s.toks+vR ks}):
  wpAny (model prog w) A (pyHash (.ref a)) Q E s:=by
 have hT:=hk.typeIs
 obtain ⟨_,o,items,n,ho,_,hd,hi⟩:=hk
 unfold pyHash
 first | unfold pyHashByItsType | skip
 first | refine wpAny_bind (wpAny_cRoomFor_or (.inr (cl hu)) ?_) | skip
 refine wpAny_bind (wpAny_specialOf hT F.slot_tuple_hash.lookup ?_)
 show wpAny _ _ (if (some (Value.builtin "tuple.__hash__") == some Value.none)=true then _ else _) Q E s
 rw[if_neg (by rw[beq_builtin_none];exact Bool.false_ne_true)]
 refine wpAny_bind (wpAny_specialOf hT F.slot_tuple_hash.lookup ?_)
 show wpAny _ _ (callSpecialIfBoundUnlessNone? (.ref a) "__hash__" _ >>= _) Q E s
 refine wpAny_bind (wpAny_callSpecialIfBoundUnlessNone?_slot hT F.slot_tuple_hash (wpAny_call_entry F.slot_tuple_hash hT F.entry_tuple_hash ?_ (F.args_tuple_hash_1 _)))
 show wpAny _ _ (Builtin.Tuple.tupleItemsOf (.ref a) >>= _) _ _ s
 refine wpAny_bind (wpAny_tupleItemsOf ho hd ?_)
 refine wpAny_bind ?_
 rw[<-Array.forIn_toList]
 refine wpAny_forIn_list _
  (λrest (b:Array Int) s'=>∃done left,ks=done++left/\fg prog w s.heap left rest/\b.toList=done.map (kQ prog w)/\s'={s with toks:=s.toks+(done.map lK).sum})
  _ ?_ ?_ _ _ ⟨[],ks,rfl,hi,rfl,rfl⟩
 ·rintro x rest b s' ⟨done,left,rfl,hl,hb,rfl⟩
  cases left with
  |nil=>exact nomatch hl
  |cons k ny=>
   obtain ⟨_,_,e,h1,h2⟩:=hl
   cases e
   have fin:∃d left,done++k::ny=d++left/\fg prog w s.heap left rest/\(b.push (kQ prog w k)).toList=d.map (kQ prog w)/\({s with toks:=s.toks+(done.map lK).sum+lK k}:Shared)={s with toks:=s.toks+(d.map lK).sum}:=
    ⟨done++[k],ny,by rw[List.append_assoc];rfl,h2,by rw[Array.toList_push,hb,List.map_append];rfl,by rw[List.map_append,List.sum_append];exact congrArg (λt=>({s with toks:=t}:Shared)) (Nat.add_assoc _ _ _)⟩
   refine wpAny_bind (IE (show A.in1.units<cLine from hu) h1 ?_)
   first
    |exact wpAny_pure fin
    |exact wpAny_bind (wpAny_pure (wpAny_pure fin))
 ·rintro b s' ⟨done,left,rfl,hl,hb,rfl⟩
  cases left with
  |cons k ny=>obtain ⟨_,_,e,_⟩:=hl;cases e
  |nil=>
   rw[List.append_nil] at h
   show wpAny _ _ (retInt (Builtin.Tuple.tupleHashOf b.toList)) _ _ _
   rw[hb]
   refine wpAny_ret_mkInt ?_
   show wpAny _ _ (if (decide (-(2:Int) ^ 63<=Builtin.Tuple.tupleHashOf (done.map (kQ prog w)))&&decide (Builtin.Tuple.tupleHashOf (done.map (kQ prog w))<2 ^ 63))=true then _ else _) Q E _
   unfold AN reduceHash vR at h
   generalize Builtin.Tuple.tupleHashOf (done.map (kQ prog w))=hh at h⊢
   rw[<-Nat.add_assoc] at h
   by_cases hr:(decide (-(2:Int) ^ 63<=hh)&&decide (hh<2 ^ 63))=true
   ·rw[if_pos hr] at h⊢
    exact wpAny_pure h
   ·rw[if_neg hr] at h⊢
    exact wpAny_bind (wpAny_rule (wpAny_pure h))
noncomputable def E8(prog:Program)(w:World)(h:Heap):List K1->List K1->List (Value×Value)->Prop
 |[],y,r=>y=[]/\r=[]
 |k::x,y,r=>∃k' y' u v r',y=k'::y'/\r=(u,v)::r'/\kd k=kd k'/\iA prog w h k u/\iA prog w h k' v/\E8 prog w h x y' r'
theorem IH{h:Heap}{x y:List K1}{xs ys:List Value}(e:x.map kd=y.map kd)(hx:fg prog w h x xs)(hy:fg prog w h y ys):E8 prog w h x y (xs.zip ys)/\xs.length=ys.length:=by
 induction x generalizing y xs ys with
 |nil=>
  cases List.map_eq_nil_iff.mp e.symm
  rw[show xs=[] from hx,show ys=[] from hy]
  exact⟨⟨rfl,rfl⟩,rfl⟩
 |cons k x ih=>
  cases y with
  |nil=>exact nomatch e
  |cons k' y=>
   obtain ⟨u,xs,rfl,x1,x2⟩:=hx
   obtain ⟨v,ys,rfl,y1,y2⟩:=hy
   have e:=List.cons.inj e
   have i:=ih e.2 x2 y2
   exact⟨⟨k',y,u,v,_,rfl,rfl,e.1,x1,y1,i.1⟩,congrArg (· +1) i.2⟩
theorem Kq{x y:List K1}{P:Fin->Shared->Prop}(hu:A.units<cLine)(hx:ip prog w ts s.heap x a)(hy:ip prog w ts s.heap y b)(h:P (.done (.ret (.bool (decide (x=y))))) s):
  wpAny (model prog w) A (Builtin.«tuple.__eq__» ⟨[.ref a,.ref b],[]⟩) P E s:=by
 have Pd:=hy.typeIs
 obtain ⟨Pe,oa,xs,na,zG,_,vT,Hb⟩:=hx
 obtain ⟨Pf,ob,ys,nb,Hc,_,Pg,Ph⟩:=hy
 obtain ⟨S,hl⟩:=IH (Pe.trans Pf.symm) Hb Ph
 show wpAny _ _ (isInstance (.ref b) (.type "tuple") >>= _) _ _ s
 refine wpAny_bind (wpAny_isInstance Pd isSubtype_tuple_tuple ?_)
 simp only [Bool.not_true,Bool.false_eq_true,if_false]
 refine wpAny_bind (wpAny_tupleItemsOf zG vT ?_)
 refine wpAny_bind (wpAny_tupleItemsOf Hc Pg ?_)
 refine wpAny_bind ?_
 clear Hb Ph vT Pg zG Hc Pe Pf Pd
 refine wpAny_forIn_list _ (λrest r s'=>r.1=none/\s'=s/\∃x' y',E8 prog w s.heap x' y' rest/\(x'=y'↔x=y)) _ ?_ ?_ _ _ ⟨rfl,rfl,x,y,S,Iff.rfl⟩
 ·rintro ⟨u,v⟩ rest r s' ⟨hr,rfl,x',y',S,hq⟩
  cases x' with
  |nil=>exact nomatch S.2
  |cons k x'=>
   obtain ⟨k',y',u',v',r',rfl,e,hk,h1,h2,S⟩:=S
   cases e
   refine wpAny_bind (IF hu hk h1 h2 ?_)
   by_cases q:k=k'
   ·subst q
    rw[decide_eq_true rfl]
    simp only [Bool.not_true,Bool.false_eq_true,if_false]
    exact wpAny_pure ⟨rfl,rfl,x',y',S,⟨λe=>hq.mp (congrArg _ e),λe=>(List.cons.inj (hq.mpr e)).2⟩⟩
   ·rw[decide_eq_false q]
    simp only [Bool.not_false,if_true]
    rw[decide_eq_false λe=>q (List.cons.inj (hq.mpr e)).1] at h
    exact wpAny_bind (wpAny_pure (wpAny_pure (wpAny_pure h)))
 ·rintro ⟨r1,r2⟩ s' ⟨hr,rfl,x',y',S,hq⟩
  cases (show r1=none from hr)
  cases x' with
  |cons k x'=>obtain ⟨_,_,_,_,_,_,e,_⟩:=S;cases e
  |nil=>
   rw[decide_eq_true (hq.mp S.1.symm)] at h
   refine wpAny_pure ?_
   show P (.done (.ret (.bool (xs.size == ys.size)))) s'
   rw[show (xs.size == ys.size)=true from beq_iff_eq.mpr hl]
   exact h
theorem II{x y:List K1}(hu:A.units+1<cLine)(hx:ip prog w ts s.heap x a)(hy:ip prog w ts s.heap y b)(h:Q (decide (x=y)) s):
  wpAny (model prog w) A (eqBool (.ref a) (.ref b)) Q E s:=by
 unfold eqBool
 try with_reducible refine wpAny_holding ?_
 show wpAny _ _ (if (Value.ref a == Value.ref b)=true then _ else _) Q E s
 by_cases Kr:(Value.ref a == Value.ref b)=true
 ·rw[if_pos Kr]
  cases eq_of_beq Kr
  rw[decide_eq_true (hx.inj hy)] at h
  exact wpAny_bind (wpAny_rule (wpAny_pure h))
 ·rw[if_neg Kr]
  exact wpAny_bind (wpAny_richCompare_same_room (op:=.Eq) hx.typeIs hy.typeIs F.slot_tuple_eq
   (wpAny_call_entry F.slot_tuple_eq hx.typeIs F.entry_tuple_eq (Kq (show A.in1.units<cLine from hu) hx hy ⟨_,rfl,(λe=>nomatch e),wpAny_truthy_bool h⟩) (F.args_tuple_eq_2 _ _)) (cl hu))
theorem CD{n m:Nat}{o:Obj}{items:Array Value}{a:Addr}(ho:s.heap.get? a=some o)(hc:o.cls=.type "tuple")(hd:o.data=.seq items m)(hi:∀v∈items.toList,∀{Q:Bool->Shared->Prop} {E:Value->Shared->Prop},Q true s->wpAny (model prog w) A (eqIsQuiet n v) Q E s)(h:Q true s):wpAny (model prog w) A (eqIsQuiet (n+1) (.ref a)) Q E s:=by
 have hT:s.TypeIs (.ref a) "tuple":=⟨o,ho,hc⟩
 unfold eqIsQuiet
 refine wpAny_bind (wpAny_specialOf hT F.slot_tuple_eq.lookup ?_)
 show wpAny _ _ (isInstance (.ref a) (.type "tuple") >>= _) _ _ s
 refine wpAny_bind (wpAny_isInstance hT isSubtype_tuple_tuple ?_)
 simp only [Bool.not_true,Bool.false_eq_true,if_false]
 refine wpAny_bind (wpAny_seqItems ho hd ?_)
 refine wpAny_bind ?_
 show wpAny _ _ (forIn items _ _) _ _ s
 rw[<-Array.forIn_toList]
 refine wpAny_forIn_list _ (λrest r s'=>r.1=none/\s'=s/\∀v∈rest,v∈items.toList) _ ?_ ?_ _ _ ⟨rfl,rfl,λO h=>h⟩
 ·rintro v rest r s' ⟨hr,rfl,Ks⟩
  refine wpAny_bind (hi v (Ks v cR) ?_)
  simp only [Bool.not_true,Bool.false_eq_true,if_false]
  exact wpAny_pure ⟨rfl,rfl,λu Sl=>Ks u (List.mem_cons_of_mem _ Sl)⟩
 ·rintro ⟨r1,r2⟩ s' ⟨hr,rfl,_⟩
  cases (show r1=none from hr)
  exact wpAny_pure h
theorem Kt{k:K1}{n:Nat}{v:Value}(hk:iA prog w s.heap k v)(h:Q true s):wpAny (model prog w) A (eqIsQuiet (n+2) v) Q E s:=by
 cases k with
 |i x=>obtain ⟨t,rfl⟩:=hk;rw[eqIsQuiet_byValue _ rfl];exact wpAny_pure h
 |s x=>obtain ⟨t,rfl⟩:=hk;rw[eqIsQuiet_byValue _ rfl];exact wpAny_pure h
 |n l=>
  obtain ⟨a,rfl,o,items,m,ho,hc,hd,hi⟩:=hk
  exact CD ho hc hd (λv hv {Q E} q=>by rw[eqIsQuiet_byValue _ (hi.byValue v hv)];exact wpAny_pure q) h
theorem fg.mem{h:Heap}{ks:List K1}{vs:List Value}(x:fg prog w h ks vs){v:Value}(m:v∈vs):∃k,iA prog w h k v:=by
 induction ks generalizing vs with
 |nil=>rw[show vs=[] from x] at m;exact absurd m List.not_mem_nil
 |cons k ks ih=>
  obtain ⟨u,r,rfl,x1,x2⟩:=x
  exact(List.mem_cons.mp m).elim (λe=>⟨k,e▸x1⟩) (ih x2)
theorem Ku(hk:ip prog w ts s.heap ks a)(h:Q true s):wpAny (model prog w) A (eqIsQuiet 8 (.ref a)) Q E s:=by
 obtain ⟨_,o,items,n,ho,hc,hd,hi⟩:=hk
 exact CD ho hc hd (λv hv {Q E} q=>(hi.mem hv).elim λk x=>Kt (n:=5) x q) h
end
noncomputable def mz(prog:Program)(w:World)(ts:List KT):HeapKind prog w (List K1) where
 is:=ip prog w ts
 hash:=AN prog w
 draws:=vR
 room:=λA=>A.units+1<cLine
 inj:=λhx hy=>hx.inj hy
 keeps:=λx ho hd hs=>x.keeps ho hd hs
 pyHash:=λhu hk h=>IG hu hk h
 eqBool:=λhu hx hy h=>II hu hx hy h
 quiet:=λhk h=>Ku hk h
end FR
namespace FR
open PySem PySem.W PySem.Calls PyProof.Rows
noncomputable def b9:Nat->Addr
 |0=>478
 |1=>520
 |_=>44
noncomputable abbrev mB(xs:Array Value)(n:Nat):Obj:=⟨.type "tuple",none,.seq xs n,#[]⟩
noncomputable abbrev gW(xs:Array Value)(n:Nat):Obj:=⟨.type "list",none,.seq xs n,#[]⟩
noncomputable abbrev fP(es:Array DictEntry)(n:Nat):Obj:=⟨.type "dict",none,.dict es n,#[]⟩
noncomputable abbrev gX(c:Nat)(dx:Addr):Obj:=⟨.ref (b9 c),some dx,.plain,#[]⟩
noncomputable def Sub(h h':Heap):Prop:=∀a o,h.get? a=some o->h'.get? a=some o
structure Bs where
 prog:Program
 w:World
 hc:Heap
 sys:∃o,hc.get? sysModules=some o
mutual
noncomputable def VR(b:Bs)(h:Heap)(Y:List Addr):PV->Value->Prop
 |.none,v=>v=.none
 |.bool x,v=>v=.bool x
 |.int i,v=>∃t,v=.int i t
 |.str x,v=>∃t,v=.str ⟨x.toArray⟩ t
 |.bytes x,v=>∃y t,v=.bytes y t/\y.toList.map (·.toNat)=x
 |.ah l,v=>∃a xs n,v=.ref a/\h.get? a=some (mB xs n)/\aH b h Y l xs.toList
 |.ref i,v=>∃a,v=.ref a/\Y[i]? =some a
 |.dh l,v=>∃a o xs,v=.ref a/\b.hc.get? a=some o/\o.cls=.type "list"/\(∃n,o.data=.seq xs n)/\aH b h Y l xs.toList
 |.fc ks vs,v=>∃a aX,v=.ref a/\b.hc.DictOf (intKind b.prog b.w) a aX/\(a == sysModules)=false/\aX.map (·.1)=ks/\aH b h Y vs (aX.map (·.2))
 |.inst c j,v=>∃a dx,v=.ref a/\h.get? a=some (gX c dx)/\Y[j]? =some dx
 |.AH c r,v=>∃a dx hs t x n,v=.ref a/\b.hc.get? a=some (gX c dx)/\b.hc.get? dx=some (fP #[⟨hs,.str (Str.ofString "rows") t,x⟩] n)/\VR b h Y r x
noncomputable def aH(b:Bs)(h:Heap)(Y:List Addr):List PV->List Value->Prop
 |[],[]=>True
 |p::ps,v::vs=>VR b h Y p v/\aH b h Y ps vs
 |_,_=>False
end
section
variable{b:Bs}{h:Heap}{Y:List Addr}{p:PV}{v:Value}{ps qs:List PV}{vs ws:List Value}
theorem aH.nil:aH b h Y [] []:=a_
theorem aH.cons(x:VR b h Y p v)(y:aH b h Y ps vs):aH b h Y (p::ps) (v::vs):=⟨x,y⟩
@[elab_as_elim] theorem aH.cZ{M:List Value->Prop}(x:aH b h Y (p::ps) vs)(k:∀v vs,VR b h Y p v->aH b h Y ps vs->M (v::vs)):M vs:=by
 cases vs with
 |nil=>exact x.elim
 |cons v vs=>exact k v vs x.1 x.2
@[elab_as_elim] theorem aH.elim0{M:List Value->Prop}(x:aH b h Y [] vs)(k:M []):M vs:=by
 cases vs with
 |nil=>exact k
 |cons v vs=>exact x.elim
theorem aH.length(x:aH b h Y ps vs):vs.length=ps.length:=by
 induction ps generalizing vs with
 |nil=>exact x.elim0 rfl
 |cons p ps ih=>exact x.cZ λv vs O y=>congrArg (· +1) (ih y)
theorem aH.append(x:aH b h Y ps vs)(y:aH b h Y qs ws):aH b h Y (ps++qs) (vs++ws):=by
 induction ps generalizing vs with
 |nil=>exact x.elim0 y
 |cons p ps ih=>exact x.cZ λv vs a z=>⟨a,ih z⟩
theorem aH.get(x:aH b h Y ps vs){i:Nat}(e:fN ps i=some p):∃v,vs[i]? =some v/\VR b h Y p v:=by
 induction ps generalizing vs i with
 |nil=>exact nomatch e
 |cons q ps ih=>cases i with
  |zero=>exact x.cZ λv vs a O=>⟨v,rfl,Option.some.inj e▸a⟩
  |succ i=>exact x.cZ λv vs a z=>ih z e
theorem aH.at(x:aH b h Y ps vs){i:Nat}(e:vs[i]? =some v):∃p,fN ps i=some p/\VR b h Y p v:=by
 induction ps generalizing vs i with
 |nil=>exact(x.elim0 (M:=λvs=>vs[i]? =some v->_) nofun) e
 |cons q ps ih=>cases i with
  |zero=>exact(x.cZ (M:=λvs=>vs[0]? =some v->_) λw vs a O e=>⟨q,rfl,Option.some.inj e▸a⟩) e
  |succ i=>exact(x.cZ (M:=λvs=>vs[i+1]? =some v->_) λw vs a z e=>ih z e) e
theorem aH.past(x:aH b h Y ps vs){i:Nat}(e:fN ps i=none):vs[i]? =none:=by
 induction ps generalizing vs i with
 |nil=>exact x.elim0 rfl
 |cons q ps ih=>cases i with
  |zero=>exact nomatch e
  |succ i=>exact x.cZ λv vs a z=>ih z e
theorem aH.take(n:Nat)(x:aH b h Y ps vs):aH b h Y (ps.take n) (vs.take n):=by
 induction n generalizing ps vs with
 |zero=>exact a_
 |succ n ih=>cases ps with
  |nil=>exact x.elim0 a_
  |cons p ps=>exact x.cZ λv vs a z=>⟨a,ih z⟩
theorem aH.drop(n:Nat)(x:aH b h Y ps vs):aH b h Y (ps.drop n) (vs.drop n):=by
 induction n generalizing ps vs with
 |zero=>exact x
 |succ n ih=>cases ps with
  |nil=>exact x.elim0 a_
  |cons p ps=>exact x.cZ λv vs a z=>ih z
variable{M:Value->Prop}
@[elab_as_elim] theorem VR.AO(x:VR b h Y .none v)(k:M .none):M v:=(show v=.none from x)▸k
@[elab_as_elim] theorem VR.AP{i:Bool}(x:VR b h Y (.bool i) v)(k:M (.bool i)):M v:=(show v=.bool i from x)▸k
@[elab_as_elim] theorem VR.jF{i:Int}(x:VR b h Y (.int i) v)(k:∀t,M (.int i t)):M v:=let ⟨t,e⟩:=(show ∃t,v=.int i t from x);e▸k t
@[elab_as_elim] theorem VR.th{i:List Nat}(x:VR b h Y (.str i) v)(k:∀t,M (.str ⟨i.toArray⟩ t)):M v:=let ⟨t,e⟩:=(show ∃t,v=.str ⟨i.toArray⟩ t from x);e▸k t
@[elab_as_elim] theorem VR.E9{i:Nat}(x:VR b h Y (.ref i) v)(k:∀a,Y[i]? =some a->M (.ref a)):M v:=let ⟨a,e,f⟩:=(show ∃a,v=.ref a/\Y[i]? =some a from x);e▸k a f
@[elab_as_elim] theorem VR.eF{l:List PV}(x:VR b h Y (.ah l) v)(k:∀a xs n,h.get? a=some (mB xs n)->aH b h Y l xs.toList->M (.ref a)):M v:=
 let ⟨a,xs,n,e,f,g⟩:=(show ∃a xs n,v=.ref a/\h.get? a=some (mB xs n)/\aH b h Y l xs.toList from x);e▸k a xs n f g
theorem VR.mC(i:Int)(t:Tok):VR b h Y (.int i) (.int i t):=⟨t,rfl⟩
theorem VR.QD(i:List Nat)(t:Tok):VR b h Y (.str i) (.str ⟨i.toArray⟩ t):=⟨t,rfl⟩
theorem VR.vz(i:Bool):VR b h Y (.bool i) (.bool i):=rfl
theorem VR.vA:VR b h Y .none .none:=rfl
theorem VR.qq{l:List PV}{a:Addr}{xs:Array Value}{n:Nat}(e:h.get? a=some (mB xs n))(x:aH b h Y l xs.toList):VR b h Y (.ah l) (.ref a):=⟨a,xs,n,rfl,e,x⟩
theorem VR.mD{i:Nat}{a:Addr}(e:Y[i]? =some a):VR b h Y (.ref i) (.ref a):=⟨a,rfl,e⟩
end
structure ez(o:Obj):Prop where
 l:o.cls≠ .type "list"
 d:o.cls≠ .type "dict"
 t:∀es n,o.data≠ .dict es n
 f:∀vs,o.data≠ .fields vs
theorem nN{o:Obj}{xs:Array Value}{n:Nat}(e:o.cls=.type "tuple")(d:o.data=.seq xs n):ez o:=
 ⟨e▸by decide,e▸by decide,λO O=>d▸nofun,λO=>d▸nofun⟩
theorem nO(xs:Array Value)(n:Nat):ez (mB xs n):=nN rfl rfl
theorem AQ(c:Nat)(dx:Addr):ez (gX c dx):=⟨nofun,nofun,nofun,nofun⟩
structure Later(h:Heap)(Y:List Addr)(h':Heap)(gF:List Addr):Prop where
 k:∀a o,h.get? a=some o->ez o->h'.get? a=some o
 m:∃ν,gF=Y++ν
section
variable{b:Bs}{h h' iq:Heap}{Y gF Kv:List Addr}
theorem Later.lM(k:Sub h h')(a:List Addr):Later h Y h' (Y++a):=⟨λa o e O=>k a o e,a,rfl⟩
theorem Later.sub(k:Sub h h'):Later h Y h' Y:=⟨λa o e O=>k a o e,[],(List.append_nil Y).symm⟩
theorem Later.trans(A:Later h Y h' gF)(B:Later h' gF iq Kv):Later h Y iq Kv:=
 ⟨λa o e s=>B.k a o (A.k a o e s) s,let ⟨ν,e⟩:=A.m;let ⟨CE,e'⟩:=B.m;⟨ν++CE,by rw[e',e,List.append_assoc]⟩⟩
theorem Later.at(k:Later h Y h' gF){i:Nat}{a:Addr}(e:Y[i]? =some a):gF[i]? =some a:=by
 obtain ⟨ν,e'⟩:=k.m
 rw[e',List.getElem?_append_left (List.getElem?_eq_some_iff.mp e).1]
 exact e
mutual
theorem VR.bc(k:Later h Y h' gF):∀{p:PV}{v:Value},VR b h Y p v->VR b h' gF p v
 |.none,_,x=>x
 |.bool _,_,x=>x
 |.int _,_,x=>x
 |.str _,_,x=>x
 |.bytes _,_,x=>x
 |.ah l,_,x=>x.eF λa xs n g y=>VR.qq (k.k _ _ g (nO xs n)) (aH.bc k y)
 |.ref i,_,x=>x.E9 λa e=>VR.mD (k.at e)
 |.dh l,v,x=>(show VR b h Y (.dh l) v->∃a o xs,v=.ref a/\b.hc.get? a=some o/\o.cls=.type "list"/\(∃n,o.data=.seq xs n)/\aH b h Y l xs.toList from λx=>x) x |>.imp λO=>Exists.imp λO=>Exists.imp λO=>And.imp_right (And.imp_right (And.imp_right (And.imp_right (aH.bc k))))
 |.fc ks vs,v,x=>(show VR b h Y (.fc ks vs) v->∃a aX,v=.ref a/\b.hc.DictOf (intKind b.prog b.w) a aX/\(a == sysModules)=false/\aX.map (·.1)=ks/\aH b h Y vs (aX.map (·.2)) from λx=>x) x |>.imp λO=>Exists.imp λO=>And.imp_right (And.imp_right (And.imp_right (And.imp_right (aH.bc k))))
 |.inst c j,v,x=>(show VR b h Y (.inst c j) v->∃a dx,v=.ref a/\h.get? a=some (gX c dx)/\Y[j]? =some dx from λx=>x) x |>.imp λO=>Exists.imp λdx=>And.imp_right (And.imp (λg=>k.k _ _ g (AQ c dx)) k.at)
 |.AH c r,v,x=>(show VR b h Y (.AH c r) v->∃a dx hs t x n,v=.ref a/\b.hc.get? a=some (gX c dx)/\b.hc.get? dx=some (fP #[⟨hs,.str (Str.ofString "rows") t,x⟩] n)/\VR b h Y r x from λx=>x) x |>.imp λO=>Exists.imp λO=>Exists.imp λO=>Exists.imp λO=>Exists.imp λO=>Exists.imp λO=>And.imp_right (And.imp_right (And.imp_right (VR.bc k)))
theorem aH.bc(k:Later h Y h' gF):∀{ps:List PV}{vs:List Value},aH b h Y ps vs->aH b h' gF ps vs
 |[],_,x=>x.elim0 a_
 |p::ps,_,x=>x.cZ λv vs a c=>⟨VR.bc k a,aH.bc k c⟩
end
end
noncomputable def MR(b:Bs)(h:Heap)(Y:List Addr)(a:Addr):MO->Prop
 |.list l=>∃xs n,h.get? a=some (gW xs n)/\aH b h Y l xs.toList
 |.dict kk es=>match kk with
  |.int=>∃aX,h.DictOf (intKind b.prog b.w) a aX/\es.map (·.1)=aX.map (λx=>Key.int x.1)/\aH b h Y (es.map (·.2)) (aX.map (·.2))
  |.ah ts=>∃xs,h.DictOfH (mz b.prog b.w ts) a xs/\es.map (·.1)=xs.map (λx=>Key.ah x.1)/\aH b h Y (es.map (·.2)) (xs.map (·.2.2))
 |.attrs r=>∃ds n,h.get? a=some (fP ds n)/\match r with
  |.none=>ds= #[]
  |some p=>∃hs t x,ds= #[⟨hs,.str (Str.ofString "rows") t,x⟩]/\VR b h Y p x
structure j5(o:Obj):Prop where
 c:o.cls=.type "list"\/o.cls=.type "dict"
 f:∀vs,o.data≠ .fields vs
theorem ez.no{o:Obj}(s:ez o)(q:j5 o):False:=q.c.elim s.l s.d
theorem iA.bc{prog:Program}{w:World}{h h':Heap}{k:K1}{v:Value}(s:∀a o,h.get? a=some o->ez o->h'.get? a=some o)(x:iA prog w h k v):iA prog w h' k v:=by
 cases k with
 |i _=>exact x
 |s _=>exact x
 |n l=>exact x.imp λt=>And.imp_right (Exists.imp λo=>Exists.imp λitems=>Exists.imp λn x=>⟨s _ _ x.1 (nN x.2.1 x.2.2.1),x.2⟩)
theorem fg.bc{prog:Program}{w:World}{h h':Heap}(s:∀a o,h.get? a=some o->ez o->h'.get? a=some o){ks:List K1}{vs:List Value}(x:fg prog w h ks vs):fg prog w h' ks vs:=by
 induction ks generalizing vs with
 |nil=>exact x
 |cons p ks ih=>exact x.imp λv=>Exists.imp λr=>And.imp_right (And.imp (iA.bc s) ih)
theorem ip.bc{prog:Program}{w:World}{ts:List KT}{h h':Heap}{ks:List K1}{a:Addr}(k:∀a o,h.get? a=some o->ez o->h'.get? a=some o)(x:ip prog w ts h ks a):ip prog w ts h' ks a:=
 x.imp id (Exists.imp λo=>Exists.imp λxs=>Exists.imp λn x=>⟨k _ _ x.1 (nN x.2.1 x.2.2.1),x.2.1,x.2.2.1,x.2.2.2.bc k⟩)
theorem DictOf.obj{prog:Program}{w:World}{h:Heap}{a:Addr}{aX:List (Int×Value)}(D:h.DictOf (intKind prog w) a aX):∃o,h.get? a=some o/\o.ExactDict/\j5 o:=
 D.imp λO D=>D.elim λO D=>D.elim λO D=>⟨D.1,D.2.1,.inr D.2.1.1,λO=>D.2.2.1▸nofun⟩
theorem DictOfH.obj{prog:Program}{w:World}{ts:List KT}{h:Heap}{a:Addr}{xs:List (List K1×Addr×Value)}(D:h.DictOfH (mz prog w ts) a xs):∃o,h.get? a=some o/\o.ExactDict/\j5 o:=
 D.imp λO D=>D.elim λO D=>D.elim λO D=>⟨D.1,D.2.1,.inr D.2.1.1,λO=>D.2.2.1▸nofun⟩
theorem DictOfH.bc{prog:Program}{w:World}{ts:List KT}{h h':Heap}{a:Addr}{xs:List (List K1×Addr×Value)}(s:∀a o,h.get? a=some o->ez o->h'.get? a=some o)(ka:∀o,h.get? a=some o->h'.get? a=some o)(D:h.DictOfH (mz prog w ts) a xs):h'.DictOfH (mz prog w ts) a xs:=
 D.imp λo=>Exists.imp λO=>Exists.imp λO=>And.imp (ka o) (And.imp_right (And.imp_right (And.imp_right (And.imp_left λSm x hx=>ip.bc s (Sm x hx)))))
theorem MR.obj{b:Bs}{h:Heap}{Y:List Addr}{a:Addr}{m:MO}(x:MR b h Y a m):∃o,h.get? a=some o/\j5 o:=by
 cases m with
 |list l=>exact x.elim λO x=>x.elim λO x=>⟨_,x.1,.inl rfl,nofun⟩
 |attrs r=>exact x.elim λO x=>x.elim λO x=>⟨_,x.1,.inr rfl,nofun⟩
 |dict k es=>
  cases k with
  |int=>exact x.elim λO x=>(DictOf.obj x.1).imp λO x=>⟨x.1,x.2.2⟩
  |ah ts=>exact x.elim λO x=>(DictOfH.obj x.1).imp λO x=>⟨x.1,x.2.2⟩
theorem MR.bc{b:Bs}{h h':Heap}{Y gF:List Addr}{a:Addr}{m:MO}(k:Later h Y h' gF)(ka:∀o,h.get? a=some o->h'.get? a=some o)(x:MR b h Y a m):MR b h' gF a m:=by
 cases m with
 |list l=>exact x.imp λO=>Exists.imp λO=>And.imp (ka _) (aH.bc k)
 |attrs r=>
  refine x.imp λO=>Exists.imp λO=>And.imp (ka _) ?_
  cases r with
  |none=>exact id
  |some p=>exact Exists.imp λO=>Exists.imp λO=>Exists.imp λO=>And.imp_right (VR.bc k)
 |dict kk es=>
  cases kk with
  |int=>exact x.imp λO=>And.imp (λD=>D.at ka) (And.imp_right (aH.bc k))
  |ah ts=>exact x.imp λO=>And.imp (DictOfH.bc k.k ka) (And.imp_right (aH.bc k))
theorem zH:∀{Z:af}{i:Nat},i<Z.length->∃o,ar Z i=some o
 |o::_,0,_=>⟨o,rfl⟩
 |_::Z,i+1,e=>zH (Z:=Z) (i:=i) (Nat.lt_of_succ_lt_succ e)
theorem bA:∀{Z:af}{i:Nat}{o:MO},ar Z i=some o->i<Z.length
 |_::_,0,_,_=>Nat.succ_pos _
 |_::r,i+1,_,h=>Nat.succ_lt_succ (bA (Z:=r) (i:=i) h)
theorem dJ:∀{Z:af}{x:af}{i:Nat},i<Z.length->ar (Z++x) i=ar Z i
 |_::_,_,0,_=>rfl
 |_::r,_,i+1,h=>dJ (Z:=r) (Nat.lt_of_succ_lt_succ h)
theorem bM:∀(Z:af)(o:MO),ar (Z++[o]) Z.length=some o
 |[],_=>rfl
 |_::r,o=>bM r o
theorem fT:∀(Z:af)(i:Nat)(x:MO),(sset Z i x).length=Z.length
 |[],_,_=>rfl
 |_::_,0,_=>rfl
 |_::r,i+1,x=>congrArg (· +1) (fT r i x)
theorem bO:∀(Z:af){i j:Nat}(x:MO),j≠i->ar (sset Z i x) j=ar Z j
 |[],_,_,_,_=>rfl
 |_::_,0,0,_,h=>absurd rfl h
 |_::_,0,_+1,_,_=>rfl
 |_::_,_+1,0,_,_=>rfl
 |_::r,_+1,_+1,x,h=>bO r x λe=>h (congrArg (· +1) e)
theorem eN:∀(Z:af){i:Nat}(x:MO),i<Z.length->ar (sset Z i x) i=some x
 |_::_,0,_,_=>rfl
 |_::r,_+1,x,h=>eN r x (Nat.lt_of_succ_lt_succ h)
structure cM(b:Bs)(Z:af)(Y:List Addr)(h:Heap):Prop where
 ml:Y.length=Z.length
 st:∀i o,ar Z i=some o->∃a,Y[i]? =some a/\MR b h Y a o
 nd:Y.Nodup
 fresh:∀a∈Y,b.hc.get? a=none
section
variable{b:Bs}{Z:af}{Y:List Addr}{h h':Heap}{a:Addr}{o:Obj}{m m₀:MO}
theorem bF{α:Type}{x:Option α}{a c:α}(e:x=some a)(f:x=some c):a=c:=Option.some.inj (e.symm.trans f)
theorem aQ{α:Type}{x:Option α}{c:α}(e:x=none)(f:x=some c):False:=nomatch e.symm.trans f
theorem cM.at(S:cM b Z Y h){i:Nat}(q:ar Z i=some m)(e:Y[i]? =some a):MR b h Y a m:=
 (S.st i m q).elim λO x=>bF x.1 e▸x.2
theorem cM.obj(S:cM b Z Y h)(ha:a∈Y):∃o,h.get? a=some o/\j5 o:=by
 obtain ⟨i,e⟩:=List.getElem?_of_mem ha
 exact(zH (Z:=Z) (i:=i) (S.ml▸(List.getElem?_eq_some_iff.mp e).1)).elim λm q=>(S.at q e).obj
theorem cM.off(S:cM b Z Y h)(e:h.get? a=some o)(s:¬j5 o):a∉Y:=λm=>
 (S.obj m).elim λO x=>s (bF e x.1▸x.2)
theorem cM.Fb(S:cM b Z Y h)(e:h.get? a=none):a∉Y:=λm=>(S.obj m).elim λO x=>aQ e x.1
theorem cM.noSys(S:cM b Z Y h)(ha:a∈Y):(a == sysModules)=false:=
 beq_eq_false_iff_ne.mpr λq=>b.sys.elim λO e=>aQ (S.fresh _ ha) (q▸e)
theorem cM.move(S:cM b Z Y h)(s:∀a o,h.get? a=some o->ez o->h'.get? a=some o)(k:∀a∈Y,∀o,h.get? a=some o->h'.get? a=some o):cM b Z Y h':=
 ⟨S.ml,λi o q=>(S.st i o q).imp λa x=>⟨x.1,x.2.bc ⟨s,[],(List.append_nil Y).symm⟩ (k a (List.mem_of_getElem? x.1))⟩,S.nd,S.fresh⟩
theorem cM.keeps(S:cM b Z Y h)(k:Sub h h'):cM b Z Y h':=S.move (λa o e O=>k a o e) λa O o e=>k a o e
theorem cM.add(S:cM b Z Y h)(hn:a∉Y)(hf:b.hc.get? a=none)(M:MR b h (Y++[a]) a m):cM b (Z++[m]) (Y++[a]) h:=by
 have la:Later h Y h (Y++[a]):=.lM (λO O e=>e) _
 have ml:(Y++[a]).length=(Z++[m]).length:=by rw[List.length_append,List.length_append,S.ml];rfl
 refine⟨ml,λi o e=> ?_,List.nodup_append.mpr ⟨S.nd,List.nodup_cons.mpr ⟨nofun,List.nodup_nil⟩,λx hx y hy q=>hn (c_ hy▸q▸hx)⟩,λx hx=>(List.mem_append.mp hx).elim (S.fresh x) λhx=>c_ hx▸hf⟩
 cases Nat.lt_or_ge i Z.length with
 |inl hi=>exact(S.st i o (dJ hi▸e)).imp λa x=>⟨la.at x.1,x.2.bc la λO e=>e⟩
 |inr hi=>
  have hl:=bA e
  rw[List.length_append] at hl
  obtain rfl:=Nat.le_antisymm (Nat.le_of_lt_succ hl) hi
  exact bF (bM Z m) e▸⟨a,by rw[<-S.ml];exact List.getElem?_concat_length,M⟩
theorem cM.put{i:Nat}(S:cM b Z Y h)(q:ar Z i=some m₀)(e:Y[i]? =some a)(s:∀x o,h.get? x=some o->ez o->h'.get? x=some o)(k:∀x∈Y,x≠a->∀o,h.get? x=some o->h'.get? x=some o)(M:MR b h' Y a m):cM b (sset Z i m) Y h':=by
 refine⟨(S.ml.trans (fT Z i m).symm),λj o eo=> ?_,S.nd,S.fresh⟩
 by_cases hj:j=i
 ·subst hj
  exact bF (eN Z m (bA q)) eo▸⟨a,e,M⟩
 ·exact(S.st j o ((bO Z m hj).symm.trans eo)).imp λa' x=>⟨x.1,x.2.bc ⟨s,[],(List.append_nil Y).symm⟩ (k a' (List.mem_of_getElem? x.1) λz=>hj ((List.getElem?_inj (List.getElem?_eq_some_iff.mp x.1).1 S.nd).mp (x.1.trans (z▸e.symm))))⟩
theorem cM.set{i:Nat}(S:cM b Z Y h)(q:ar Z i=some m₀)(e:Y[i]? =some a)(hs:Heap.SameBut a h h')(M:MR b h' Y a m):cM b (sset Z i m) Y h':=
 S.put q e (λx o ex s=>(hs.2 x λz=>(S.at q e).obj.elim λO y=>s.no (bF y.1 (z▸ex)▸y.2)).trans ex) (λx O n o ex=>(hs.2 x n).trans ex) M
end
structure Cx extends Bs where
 fr:List Env
 L:Addr
 locs:List Str
 kf:∀env∈fr,env.scope.kind≠ .module/\∃L,env.frame=some L/\hc.get? L=none
 lf:hc.get? L=none
noncomputable def Cx.F(c:Cx):List Addr:=c.fr.filterMap (·.frame)
structure Pt where
 Y:List Addr
 s:Shared
noncomputable abbrev Pt.h(P:Pt):Heap:=P.s.heap
noncomputable abbrev Pt.at(P:Pt)(Y:List Addr)(h:Heap)(t:Nat):Pt:=⟨Y,{P.s with heap:=h,toks:=t}⟩
noncomputable abbrev Pt.tok(P:Pt)(t:Nat):Pt:=⟨P.Y,{P.s with toks:=t}⟩
noncomputable def Vl(c:Cx)(P:Pt)(p:PV)(v:Value):Prop:=VR c.toBs P.s.heap P.Y p v
noncomputable def cy(c:Cx)(P:Pt)(ps:List PV)(vs:List Value):Prop:=aH c.toBs P.s.heap P.Y ps vs
structure Inv(c:Cx)(J:aD)(Z:af)(P:Pt):Prop where
 so:cM c.toBs Z P.Y P.s.heap
 kc:Sub c.hc P.s.heap
 sep:∀a∈P.Y,a∉c.F/\a≠c.L
 ns:∀a∈c.F,∃m,P.s.heap.Ns a m
 aa:∃m,P.s.heap.Ns c.L m/\∀(i:Nat) x p,c.locs[i]? =some x->bD J i=some p->∃v,m x=some v/\Vl c P p v
structure iQ(F X:List Addr)(P P':Pt):Prop where
 pre:∃ν,P'.Y=P.Y++ν
 keep:∀a o,P.s.heap.get? a=some o->a∉P.Y->a∉F->a∉X->a∉P'.Y/\P'.s.heap.get? a=some o
 ns:∀a∈F,a∉X->∀m,P.s.heap.Ns a m->P'.s.heap.Ns a m
 off:∀a,a∈F\/a∈X->a∉P.Y->a∉P'.Y
 same:P'.s={P.s with heap:=P'.s.heap,toks:=P'.s.toks}
noncomputable abbrev To(c:Cx)(P P':Pt):Prop:=iQ c.F [c.L] P P'
theorem Ns.tab{h:Heap}{a:Addr}{m:Str->Option Value}(n:h.Ns a m):∃o es k,h.get? a=some o/\o.data=.dict es k:=n.imp λO=>Exists.imp λO=>Exists.imp λO n=>⟨n.1,n.2.1⟩
theorem Ns.at{h h':Heap}{a:Addr}{m:Str->Option Value}(n:h.Ns a m)(k:∀o,h.get? a=some o->h'.get? a=some o):h'.Ns a m:=n.imp λo=>Exists.imp λO=>Exists.imp λO=>And.imp_left (k o)
theorem Ns.no{h:Heap}{a:Addr}{m:Str->Option Value}(n:h.Ns a m){o:Obj}(e:h.get? a=some o)(d:∀es k,o.data≠ .dict es k):False:=
 (Ns.tab n).elim λO n=>n.elim λes n=>n.elim λk n=>d es k (bF n.1 e▸n.2)
section
variable{c:Cx}{J aY:aD}{Z ag:af}{P P' ud:Pt}{F X:List Addr}{a:Addr}{o:Obj}{h':Heap}
theorem Inv.Hd(I:Inv c J Z P):∃m,P.s.heap.Ns c.L m:=I.aa.imp λO=>And.left
theorem Inv.zI(I:Inv c J Z P)(e:P.s.heap.get? a=some o)(d:∀es k,o.data≠ .dict es k):a∉c.F/\a≠c.L:=
 ⟨λm=>(I.ns a m).elim λO n=>Ns.no n e d,λm=>I.Hd.elim λO n=>Ns.no n (m▸e) d⟩
theorem Inv.new(I:Inv c J Z P)(e:P.s.heap.get? a=none):c.hc.get? a=none/\a∉P.Y/\a∉c.F/\a≠c.L:=by
 have tab:∀{b m},P.s.heap.Ns b m->a≠b:=λn q=>(Ns.tab n).elim λO n=>n.elim λO n=>n.elim λO n=>aQ e (q▸n.1)
 refine⟨?_,I.so.Fb e,λm=>(I.ns a m).elim λO n=>tab n rfl,I.Hd.elim λO n=>tab n⟩
 cases q:c.hc.get? a with
 |none=>rfl
 |some o=>exact(aQ e (I.kc a o q)).elim
theorem iQ.refl{t:Nat}:iQ F X P (P.tok t):=⟨⟨[],(List.append_nil _).symm⟩,λO O e n O O=>⟨n,e⟩,λO O O O n=>n,λO O n=>n,rfl⟩
theorem iQ.trans(A:iQ F X P P')(B:iQ F X P' ud):iQ F X P ud:=
 ⟨A.pre.elim λν e=>B.pre.elim λCE e'=>⟨ν++CE,by rw[e',e,List.append_assoc]⟩,λa o e x y z=>let q:=A.keep a o e x y z;B.keep a o q.2 q.1 y z,λa x y m n=>B.ns a x y m (A.ns a x y m n),λa x n=>B.off a x (A.off a x n),by rw[B.same,A.same]⟩
theorem Inv.bc(I:Inv c J Z P)(hX:∀a∈X,a=c.L)(A:iQ c.F X P P'):Later P.s.heap P.Y P'.s.heap P'.Y:=
 ⟨λa o e s=>let t:=I.zI e s.t;(A.keep a o e (I.so.off e s.no) t.1 λm=>t.2 (hX a m)).2,A.pre⟩
theorem Inv.nP(I:Inv c J Z P)(A:To c P P'):Later P.s.heap P.Y P'.s.heap P'.Y:=I.bc (λO=>c_) A
theorem Vl.to{p:PV}{v:Value}(V:Vl c P p v)(I:Inv c J Z P)(A:To c P P'):Vl c P' p v:=VR.bc (I.nP A) V
theorem cy.to{p:List PV}{v:List Value}(V:cy c P p v)(I:Inv c J Z P)(A:To c P P'):cy c P' p v:=aH.bc (I.nP A) V
theorem Inv.under(I:Inv c J Z P)(A:iQ c.F [] P P')(S:cM c.toBs ag P'.Y P'.s.heap):Inv c J ag P'/\To c P P':=by
 have la:=I.bc (λO m=>absurd m List.not_mem_nil) A
 have oL:c.L∉P'.Y:=by
  by_cases q:c.L∈c.F
  ·exact A.off c.L (.inl q) λz=>(I.sep _ z).2 rfl
  ·exact I.Hd.elim λm n=>(Ns.tab n).elim λo n=>n.elim λO n=>n.elim λO n=>(A.keep c.L o n.1 (λz=>(I.sep _ z).2 rfl) q nofun).1
 have kL:∀m,P.s.heap.Ns c.L m->P'.s.heap.Ns c.L m:=λm n=>by
  by_cases q:c.L∈c.F
  ·exact A.ns c.L q nofun m n
  ·exact Ns.at n λo e=>(A.keep c.L o e (λz=>(I.sep _ z).2 rfl) q nofun).2
 have oF:∀a∈c.F,a∉P'.Y:=λa q=>A.off a (.inl q) λz=>(I.sep a z).1 q
 refine⟨⟨S,λa o e=> ?_,λa m=>⟨λq=>oF a q m,λq=>oL (q▸m)⟩,λa q=>(I.ns a q).imp (A.ns a q nofun),I.aa.imp λm=>And.imp (kL m) λhl i x p hx hp=>(hl i x p hx hp).imp λv=>And.imp_right (VR.bc la)⟩,
  A.pre,λa o e x y O=>A.keep a o e x y nofun,λa x O=>A.ns a x nofun,λa x n=>x.elim (λx=>A.off a (.inl x) n) λx=>c_ x▸oL,A.same⟩
 refine(A.keep a o (I.kc a o e) (λm=>aQ (I.so.fresh a m) e) (λm=> ?_) nofun).2
 obtain ⟨env,hm,hf⟩:=List.mem_filterMap.mp m
 exact(c.kf env hm).2.elim λL x=>aQ x.2 (bF x.1 hf▸e)
end
end FR
namespace FR.Q
noncomputable abbrev Row:=List Int
noncomputable def pr(r:Row):PV:=.ah (r.map .int)
noncomputable def aG(t:Int)(k:Int)(w:List Nat):PV:=.ah [.int t,.int k,.str w]
noncomputable def rF:List (Int×List (List Nat×Int)):=[(0,[([71,101,110,101,114,97,116,105,111,110],1),([78,97,109,101],4),([77,118,105,100],6),([69,110,99,73,100],6),([69,110,99,66,97,115,101,73,100],6)]),
 (1,[([82,101,115,111,108,117,116,105,111,110,83,99,111,112,101],517),([84,121,112,101,78,97,109,101],4),([84,121,112,101,78,97,109,101,115,112,97,99,101],4)]),
 (2,[([70,108,97,103,115],2),([84,121,112,101,78,97,109,101],4),([84,121,112,101,78,97,109,101,115,112,97,99,101],4),([69,120,116,101,110,100,115],512),([70,105,101,108,100,76,105,115,116],260),([77,101,116,104,111,100,76,105,115,116],262)]),
 (4,[([70,108,97,103,115],1),([78,97,109,101],4),([83,105,103,110,97,116,117,114,101],5)]),
 (6,[([82,86,65],2),([73,109,112,108,70,108,97,103,115],1),([70,108,97,103,115],1),([78,97,109,101],4),([83,105,103,110,97,116,117,114,101],5),([80,97,114,97,109,76,105,115,116],264)]),
 (8,[([70,108,97,103,115],1),([83,101,113,117,101,110,99,101],1),([78,97,109,101],4)]),
 (9,[([67,108,97,115,115],258),([73,110,116,101,114,102,97,99,101],512)]),
 (10,[([67,108,97,115,115],514),([78,97,109,101],4),([83,105,103,110,97,116,117,114,101],5)]),
 (11,[([84,121,112,101],3),([80,97,114,101,110,116],513),([86,97,108,117,101],5)]),
 (17,[([83,105,103,110,97,116,117,114,101],5)]),
 (18,[([80,97,114,101,110,116],258),([69,118,101,110,116,76,105,115,116],276)]),
 (20,[([69,118,101,110,116,70,108,97,103,115],1),([78,97,109,101],4),([69,118,101,110,116,84,121,112,101],512)]),
 (21,[([80,97,114,101,110,116],258),([80,114,111,112,101,114,116,121,76,105,115,116],279)]),
 (23,[([70,108,97,103,115],1),([78,97,109,101],4),([84,121,112,101],5)]),
 (24,[([83,101,109,97,110,116,105,99,115],1),([77,101,116,104,111,100],262),([65,115,115,111,99,105,97,116,105,111,110],515)]),
 (25,[([67,108,97,115,115],258),([77,101,116,104,111,100,66,111,100,121],516),([77,101,116,104,111,100,68,101,99,108,97,114,97,116,105,111,110],516)]),
 (27,[([83,105,103,110,97,116,117,114,101],5)]),
 (32,[([72,97,115,104,65,108,103,73,100],2),([77,97,106,111,114,86,101,114,115,105,111,110],1),([77,105,110,111,114,86,101,114,115,105,111,110],1),([66,117,105,108,100,78,117,109,98,101,114],1),([82,101,118,105,115,105,111,110,78,117,109,98,101,114],1),([70,108,97,103,115],2),([80,117,98,108,105,99,75,101,121],5),([78,97,109,101],4),([67,117,108,116,117,114,101],4)]),
 (35,[([77,97,106,111,114,86,101,114,115,105,111,110],1),([77,105,110,111,114,86,101,114,115,105,111,110],1),([66,117,105,108,100,78,117,109,98,101,114],1),([82,101,118,105,115,105,111,110,78,117,109,98,101,114],1),([70,108,97,103,115],2),([80,117,98,108,105,99,75,101,121,79,114,84,111,107,101,110],5),([78,97,109,101],4),([67,117,108,116,117,114,101],4),([72,97,115,104,86,97,108,117,101],5)]),
 (41,[([78,101,115,116,101,100,67,108,97,115,115],258),([69,110,99,108,111,115,105,110,103,67,108,97,115,115],258)]),
 (42,[([78,117,109,98,101,114],1),([70,108,97,103,115],1),([79,119,110,101,114],518),([78,97,109,101],4)]),
 (43,[([77,101,116,104,111,100],516),([73,110,115,116,97,110,116,105,97,116,105,111,110],5)]),
 (44,[([79,119,110,101,114],298),([67,111,110,115,116,114,97,105,110,116],512)])]
noncomputable def ec(c:List Nat×Int):PV:=.ah [.str c.1,.int c.2]
inductive Ev where
 |i (x:Int) | T | M | r (row:Row)
structure Ed where
 t:Int
 row:Int
 p:Int
 v:Ev
noncomputable def pW:Ev->PV
 |.i x=>.int x
 |.T=>.str [84]
 |.M=>.str [77]
 |.r row=>pr row
noncomputable def jk(e:Ed):PV:=.ah [.int e.t,.int e.row,.int e.p,pW e.v]
inductive Lv where
 |i (x:Int) | F | M
structure Ls where
 t:Int
 row:Ev
 p:Int
 v:Lv
noncomputable def ue:Ed:=⟨0,0,0,.T⟩
noncomputable def rG:Ls:=⟨0,.T,0,.M⟩
noncomputable def Pj:Lv->PV
 |.i x=>.int x
 |.F=>.str [70]
 |.M=>.str [77]
noncomputable def uf(e:Ls):PV:=.ah [.int e.t,pW e.row,.int e.p,Pj e.v]
noncomputable abbrev Spot:=Int×Int×Int
noncomputable def jm(s:Spot):PV:=.ah [.int s.1,.int s.2.1,.int s.2.2]
noncomputable def mE:List Ed:=[⟨2,2,3,.i 7⟩,⟨1,1,0,.i 5⟩,⟨11,1,1,.i 11⟩,⟨10,1,0,.i 10⟩,⟨10,1,0,.i 15⟩,⟨9,1,1,.i 7⟩,⟨44,1,1,.i 7⟩,⟨20,1,2,.i 11⟩]
noncomputable def hN:List Ed:=[⟨9,1,0,.T⟩,⟨9,1,0,.i 0⟩,⟨9,1,1,.i 0⟩,⟨18,1,0,.T⟩,⟨21,1,0,.i 0⟩,⟨24,1,1,.M⟩,⟨24,1,1,.i 0⟩,⟨24,1,2,.i 7⟩,⟨24,3,2,.i 4⟩,⟨24,3,2,.i 0⟩,⟨25,1,0,.T⟩,⟨25,1,1,.i 0⟩,⟨25,1,2,.i 5⟩,⟨41,1,1,.T⟩,⟨41,1,0,.i 0⟩,⟨42,1,2,.i 0⟩,⟨42,1,2,.i 1⟩,⟨43,1,0,.i 5⟩,⟨44,1,0,.i 4⟩,⟨44,1,0,.i 0⟩,⟨10,1,0,.i 25⟩,⟨10,1,0,.i 20⟩,⟨1,1,0,.i 10⟩,⟨1,1,0,.i 0⟩,⟨2,2,3,.i 13⟩,⟨2,3,3,.i 10⟩,⟨11,1,1,.i 0⟩,⟨11,1,1,.i 29⟩,⟨20,1,2,.i 13⟩,⟨44,1,1,.i 10⟩]
noncomputable def fu:List Ls:=[⟨2,.i 1,4,.i 2⟩,⟨2,.i 1,5,.i 0⟩,⟨2,.i 3,4,.i 0⟩,⟨2,.i 4,5,.i 6⟩,⟨2,.T,4,.F⟩,⟨2,.T,5,.M⟩,⟨6,.i 3,5,.i 0⟩,⟨6,.i 6,5,.i 4⟩,⟨6,.M,5,.i 8⟩,⟨18,.i 1,1,.i 2⟩,⟨21,.i 1,1,.i 2⟩,⟨21,.i 1,1,.i 0⟩,⟨6,.i 1,5,.i 2⟩]
noncomputable def jo:List Spot:=[(0,1,1),(1,2,1),(1,1,2),(2,3,1),(2,2,2),(4,3,1),(6,8,3),(8,2,2),(10,1,1),(20,1,1),(23,2,1),(32,1,7),(32,1,8),(35,1,6),(35,1,7),(42,3,3)]
noncomputable def gy:List Spot:=[(4,1,2),(6,2,4),(10,1,2),(17,1,0),(23,1,2),(27,1,0),(43,1,1)]
noncomputable def ir:List Spot:=[(11,1,2),(32,1,6),(35,1,5),(35,1,8)]
noncomputable def dB:List Spot:=[(0,1,1),(1,2,1),(2,2,1),(4,3,1),(6,6,3),(10,1,1),(20,1,1),(23,1,1),(32,1,7),(35,1,6),(42,1,3)]
noncomputable def jW:List (List Ed×List PV):=[([⟨0,1,(-1),.r [0,1,1,0,0]⟩],[aG 0 2 [115,105,110,103,108,101]]),
 ([⟨0,1,(-2),.i 0⟩],[aG 0 0 [115,105,110,103,108,101]]),
 ([⟨32,1,(-1),.r [0,0,0,0,0,0,0,2,0]⟩],[aG 32 2 [115,105,110,103,108,101]]),
 ([⟨2,1,1,.i 19⟩],[aG 2 1 [109,111,100,117,108,101]]),
 ([⟨2,1,0,.i 32⟩],[aG 2 1 [109,111,100,117,108,101]]),
 ([⟨2,1,3,.i 5⟩],[aG 2 1 [109,111,100,117,108,101]]),
 ([⟨18,1,(-1),.r [2,2]⟩],[aG 18 2 [109,97,112]]),
 ([⟨21,1,(-1),.r [2,3]⟩],[aG 21 2 [109,97,112]]),
 ([⟨18,1,(-1),.r [3,2]⟩],[]),
 ([⟨2,3,1,.i 2⟩],[aG 2 3 [116,119,105,99,101]]),
 ([⟨41,1,(-2),.i 0⟩],[aG 2 4 [116,119,105,99,101]]),
 ([⟨41,1,1,.i 3⟩],[]),
 ([⟨1,2,1,.i 17⟩],[aG 1 2 [116,119,105,99,101]]),
 ([⟨1,2,1,.i 17⟩,⟨1,2,2,.i 19⟩],[]),
 ([⟨4,3,1,.i 4⟩],[aG 4 3 [116,119,105,99,101]]),
 ([⟨4,2,2,.i 1⟩],[aG 4 2 [116,119,105,99,101]]),
 ([⟨6,2,3,.i 6⟩,⟨6,2,4,.i 5⟩],[aG 6 2 [116,119,105,99,101]]),
 ([⟨6,2,3,.i 6⟩],[]),
 ([⟨23,2,2,.i 6⟩],[aG 23 2 [116,119,105,99,101]]),
 ([⟨20,1,(-1),.r [0,14,5]⟩],[aG 20 2 [116,119,105,99,101],aG 20 2 [115,101,109,97,110,116,105,99,115]]),
 ([⟨20,1,(-1),.r [0,13,0]⟩],[aG 20 2 [115,101,109,97,110,116,105,99,115]]),
 ([⟨2,3,3,.i 5⟩],[aG 2 3 [105,102,97,99,101]]),
 ([⟨4,4,0,.i 6⟩],[aG 4 4 [105,102,97,99,101]]),
 ([⟨2,2,3,.i 0⟩],[aG 2 2 [98,97,115,101]]),
 ([⟨2,4,3,.i 0⟩],[aG 2 4 [98,97,115,101]]),
 ([⟨2,3,0,.i 129⟩],[aG 2 3 [98,97,115,101]]),
 ([⟨6,5,2,.i 6⟩],[aG 6 5 [99,99,116,111,114]]),
 ([⟨6,5,4,.i 4⟩],[aG 6 5 [99,99,116,111,114]]),
 ([⟨6,8,3,.i 10⟩],[aG 6 8 [99,99,116,111,114]]),
 ([⟨6,1,0,.i 0⟩],[aG 6 1 [98,111,100,121]]),
 ([⟨6,7,0,.i 1⟩],[aG 6 7 [98,111,100,121]]),
 ([⟨6,8,0,.i 9⟩],[aG 6 8 [98,111,100,121]]),
 ([⟨6,8,1,.i 4096⟩],[aG 6 8 [98,111,100,121]]),
 ([⟨6,8,1,.i 4097⟩],[]),
 ([⟨6,7,2,.i 70⟩],[aG 6 7 [98,111,100,121]]),
 ([⟨6,2,2,.i 1094⟩],[aG 6 2 [98,111,100,121]]),
 ([⟨6,2,1,.i 4098⟩],[aG 6 2 [98,111,100,121]]),
 ([⟨11,1,1,.i 4⟩],[aG 11 1 [99,111,110,115,116,97,110,116],aG 4 1 [99,111,110,115,116,97,110,116],aG 4 2 [99,111,110,115,116,97,110,116]]),
 ([⟨11,1,1,.i 5⟩],[aG 11 1 [99,111,110,115,116,97,110,116],aG 4 2 [99,111,110,115,116,97,110,116]]),
 ([⟨11,1,1,.i 6⟩],[aG 11 1 [99,111,110,115,116,97,110,116],aG 4 2 [99,111,110,115,116,97,110,116]]),
 ([⟨11,1,(-1),.r [8,8,8]⟩],[aG 11 2 [99,111,110,115,116,97,110,116]]),
 ([⟨11,1,(-2),.i 0⟩],[aG 4 2 [99,111,110,115,116,97,110,116]]),
 ([⟨4,2,0,.i 86⟩],[aG 4 2 [99,111,110,115,116,97,110,116]]),
 ([⟨4,2,0,.i 32790⟩],[aG 11 1 [99,111,110,115,116,97,110,116]]),
 ([⟨4,3,0,.i 32774⟩],[aG 4 3 [99,111,110,115,116,97,110,116]]),
 ([⟨4,3,0,.i 86⟩],[aG 4 3 [99,111,110,115,116,97,110,116]]),
 ([⟨4,3,0,.i 32854⟩,⟨11,1,(-1),.r [8,12,8]⟩],[]),
 ([⟨4,3,0,.i 32838⟩,⟨11,1,(-1),.r [8,12,8]⟩],[aG 4 3 [99,111,110,115,116,97,110,116]]),
 ([⟨8,2,1,.i 0⟩],[aG 8 2 [112,97,114,97,109]]),
 ([⟨8,6,1,.i 1⟩],[aG 8 6 [112,97,114,97,109]]),
 ([⟨8,1,1,.i 3⟩],[aG 8 2 [112,97,114,97,109]]),
 ([⟨8,5,1,.i 0⟩,⟨8,6,1,.i 9⟩],[]),
 ([⟨42,3,0,.i 2⟩],[aG 42 3 [110,117,109,98,101,114]]),
 ([⟨42,3,0,.i 0⟩],[aG 42 3 [110,117,109,98,101,114]]),
 ([⟨42,2,0,.i 1⟩],[aG 42 2 [110,117,109,98,101,114],aG 42 3 [110,117,109,98,101,114]]),
 ([⟨42,1,0,.i 1⟩],[aG 42 1 [110,117,109,98,101,114]]),
 ([⟨42,3,3,.i 15⟩],[aG 42 3 [116,119,105,99,101]]),
 ([⟨42,3,2,.i 6⟩],[]),
 ([⟨24,1,0,.i 8⟩],[aG 24 1 [115,101,109,97,110,116,105,99,115]]),
 ([⟨24,2,0,.i 2⟩],[aG 24 2 [115,101,109,97,110,116,105,99,115]]),
 ([⟨24,2,0,.i 3⟩],[aG 24 2 [115,101,109,97,110,116,105,99,115]]),
 ([⟨24,3,0,.i 2⟩],[aG 24 3 [115,101,109,97,110,116,105,99,115],aG 20 1 [115,101,109,97,110,116,105,99,115]]),
 ([⟨24,4,0,.i 8⟩],[aG 24 4 [115,101,109,97,110,116,105,99,115],aG 20 1 [115,101,109,97,110,116,105,99,115]]),
 ([⟨24,4,(-2),.i 0⟩],[aG 20 1 [115,101,109,97,110,116,105,99,115]]),
 ([⟨24,1,1,.i 8⟩],[aG 24 1 [115,101,109,97,110,116,105,99,115]]),
 ([⟨24,4,1,.i 7⟩],[aG 24 4 [115,101,109,97,110,116,105,99,115]]),
 ([⟨24,1,2,.i 5⟩],[]),
 ([⟨18,1,0,.i 4⟩],[aG 24 3 [115,101,109,97,110,116,105,99,115],aG 24 4 [115,101,109,97,110,116,105,99,115]]),
 ([⟨25,1,1,.i 3⟩],[aG 25 1 [105,109,112,108]]),
 ([⟨25,1,1,.i 16⟩],[aG 25 1 [105,109,112,108]]),
 ([⟨25,1,0,.i 4⟩],[aG 25 1 [105,109,112,108]]),
 ([⟨25,1,(-1),.r [2,4,3]⟩],[aG 25 2 [105,109,112,108]]),
 ([⟨25,1,(-1),.r [2,2,14]⟩],[]),
 ([⟨41,1,(-1),.r [4,3]⟩],[aG 41 2 [110,101,115,116,101,100]]),
 ([⟨41,1,(-1),.r [2,4]⟩],[aG 41 1 [110,101,115,116,101,100],aG 41 2 [110,101,115,116,101,100]]),
 ([⟨41,1,(-1),.r [3,3]⟩],[aG 41 2 [110,101,115,116,101,100]]),
 ([⟨41,1,(-1),.r [2,3]⟩,⟨41,1,(-1),.r [3,4]⟩],[aG 41 1 [110,101,115,116,101,100],aG 41 2 [110,101,115,116,101,100],aG 41 3 [110,101,115,116,101,100]]),
 ([⟨41,1,(-1),.r [3,2]⟩],[]),
 ([⟨41,1,(-1),.r [2,3]⟩,⟨41,1,(-1),.r [3,2]⟩],[aG 41 2 [110,101,115,116,101,100],aG 41 3 [110,101,115,116,101,100]]),
 ([⟨18,1,(-2),.i 0⟩],[aG 20 1 [108,105,115,116]]),
 ([⟨21,1,(-2),.i 0⟩],[aG 23 1 [108,105,115,116]]),
 ([⟨25,1,(-1),.r [4,16,3]⟩],[]),
 ([⟨1,2,1,.i 17⟩,⟨1,2,0,.i 4⟩],[]),
 ([⟨24,1,(-1),.r [2,6,5]⟩],[]),
 ([⟨2,4,1,.i 17⟩],[])]
noncomputable def j6(b:List Ed×List PV):PV:=.ah [.ah (b.1.map jk),.ah b.2]
noncomputable def texts:List (List Nat):=[[],[60,77,111,100,117,108,101,62],[65],[73],[102],[103],[103,101,116,95,80],[115,101,116,95,80],[97,100,100,95,69],[114,101,109,111,118,101,95,69],[46,99,99,116,111,114],[109],[77],[80],[69],[84],[85],[79,98,106,101,99,116],[82],[115],[67],[68],[104],[99,111,114,101]]
noncomputable def kR:List (List Nat):=[[],[6,8],[6,2],[0,0,1],[32,0,1],[32,0,8],[40,0,8],[40,0,2],[1]]
noncomputable def lN:bZ:=(.cons (.list (.cons (.ah (.cons (.k (.int 0)) (.cons (.k (.int 2)) (.cons (.k (.int 1)) (.cons (.k (.int 0)) (.cons (.k (.int 0)) .nil)))))) .nil)) (.cons (.list (.cons (.ah (.cons (.k (.int 6)) (.cons (.k (.int 17)) (.cons (.k (.int 0)) .nil)))) (.cons (.ah (.cons (.k (.int 6)) (.cons (.k (.int 18)) (.cons (.k (.int 0)) .nil)))) .nil))) (.cons (.list (.cons (.ah (.cons (.k (.int 0)) (.cons (.k (.int 1)) (.cons (.k (.int 0)) (.cons (.k (.int 0)) (.cons (.k (.int 1)) (.cons (.k (.int 1)) .nil))))))) (.cons (.ah (.cons (.k (.int 1)) (.cons (.k (.int 2)) (.cons (.k (.int 0)) (.cons (.k (.int 5)) (.cons (.k (.int 1)) (.cons (.k (.int 1)) .nil))))))) (.cons (.ah (.cons (.k (.int 161)) (.cons (.k (.int 3)) (.cons (.k (.int 0)) (.cons (.k (.int 0)) (.cons (.k (.int 4)) (.cons (.k (.int 7)) .nil))))))) (.cons (.ah (.cons (.k (.int 2)) (.cons (.k (.int 2)) (.cons (.k (.int 0)) (.cons (.k (.int 5)) (.cons (.k (.int 5)) (.cons (.k (.int 8)) .nil))))))) .nil))))) (.cons (.list (.cons (.ah (.cons (.k (.int 6)) (.cons (.k (.int 4)) (.cons (.k (.int 1)) .nil)))) (.cons (.ah (.cons (.k (.int 32854)) (.cons (.k (.int 4)) (.cons (.k (.int 2)) .nil)))) (.cons (.ah (.cons (.k (.int 6)) (.cons (.k (.int 5)) (.cons (.k (.int 1)) .nil)))) (.cons (.ah (.cons (.k (.int 22)) (.cons (.k (.int 22)) (.cons (.k (.int 1)) .nil)))) (.cons (.ah (.cons (.k (.int 6)) (.cons (.k (.int 4)) (.cons (.k (.int 1)) .nil)))) .nil)))))) (.cons (.list (.cons (.ah (.cons (.k (.int 1)) (.cons (.k (.int 0)) (.cons (.k (.int 2054)) (.cons (.k (.int 6)) (.cons (.k (.int 5)) (.cons (.k (.int 1)) .nil))))))) (.cons (.ah (.cons (.k (.int 5)) (.cons (.k (.int 0)) (.cons (.k (.int 2054)) (.cons (.k (.int 7)) (.cons (.k (.int 4)) (.cons (.k (.int 1)) .nil))))))) (.cons (.ah (.cons (.k (.int 9)) (.cons (.k (.int 0)) (.cons (.k (.int 2054)) (.cons (.k (.int 8)) (.cons (.k (.int 4)) (.cons (.k (.int 3)) .nil))))))) (.cons (.ah (.cons (.k (.int 13)) (.cons (.k (.int 0)) (.cons (.k (.int 2054)) (.cons (.k (.int 9)) (.cons (.k (.int 4)) (.cons (.k (.int 4)) .nil))))))) (.cons (.ah (.cons (.k (.int 17)) (.cons (.k (.int 0)) (.cons (.k (.int 6161)) (.cons (.k (.int 10)) (.cons (.k (.int 3)) (.cons (.k (.int 5)) .nil))))))) (.cons (.ah (.cons (.k (.int 21)) (.cons (.k (.int 0)) (.cons (.k (.int 6)) (.cons (.k (.int 11)) (.cons (.k (.int 4)) (.cons (.k (.int 5)) .nil))))))) (.cons (.ah (.cons (.k (.int 0)) (.cons (.k (.int 0)) (.cons (.k (.int 1478)) (.cons (.k (.int 12)) (.cons (.k (.int 4)) (.cons (.k (.int 7)) .nil))))))) (.cons (.ah (.cons (.k (.int 0)) (.cons (.k (.int 4101)) (.cons (.k (.int 6)) (.cons (.k (.int 11)) (.cons (.k (.int 4)) (.cons (.k (.int 7)) .nil))))))) .nil))))))))) (.cons (.list (.cons (.ah (.cons (.k (.int 0)) (.cons (.k (.int 0)) (.cons (.k (.int 0)) .nil)))) (.cons (.ah (.cons (.k (.int 0)) (.cons (.k (.int 1)) (.cons (.k (.int 19)) .nil)))) (.cons (.ah (.cons (.k (.int 0)) (.cons (.k (.int 1)) (.cons (.k (.int 19)) .nil)))) (.cons (.ah (.cons (.k (.int 0)) (.cons (.k (.int 1)) (.cons (.k (.int 0)) .nil)))) (.cons (.ah (.cons (.k (.int 0)) (.cons (.k (.int 1)) (.cons (.k (.int 19)) .nil)))) (.cons (.ah (.cons (.k (.int 0)) (.cons (.k (.int 2)) (.cons (.k (.int 18)) .nil)))) .nil))))))) (.cons (.list (.cons (.ah (.cons (.k (.int 2)) (.cons (.k (.int 12)) .nil))) .nil)) (.cons (.list (.cons (.ah (.cons (.k (.int 9)) (.cons (.k (.int 10)) (.cons (.k (.int 4)) .nil)))) .nil)) (.cons (.list (.cons (.ah (.cons (.k (.int 8)) (.cons (.k (.int 8)) (.cons (.k (.int 8)) .nil)))) .nil)) (.cons (.list (.cons (.ah (.cons (.k (.int 8)) .nil)) .nil)) (.cons (.list (.cons (.ah (.cons (.k (.int 2)) (.cons (.k (.int 1)) .nil))) .nil)) (.cons (.list (.cons (.ah (.cons (.k (.int 0)) (.cons (.k (.int 14)) (.cons (.k (.int 5)) .nil)))) .nil)) (.cons (.list (.cons (.ah (.cons (.k (.int 2)) (.cons (.k (.int 1)) .nil))) .nil)) (.cons (.list (.cons (.ah (.cons (.k (.int 0)) (.cons (.k (.int 13)) (.cons (.k (.int 6)) .nil)))) (.cons (.ah (.cons (.k (.int 0)) (.cons (.k (.int 13)) (.cons (.k (.int 7)) .nil)))) .nil))) (.cons (.list (.cons (.ah (.cons (.k (.int 2)) (.cons (.k (.int 1)) (.cons (.k (.int 3)) .nil)))) (.cons (.ah (.cons (.k (.int 1)) (.cons (.k (.int 2)) (.cons (.k (.int 3)) .nil)))) (.cons (.ah (.cons (.k (.int 8)) (.cons (.k (.int 3)) (.cons (.k (.int 2)) .nil)))) (.cons (.ah (.cons (.k (.int 16)) (.cons (.k (.int 4)) (.cons (.k (.int 2)) .nil)))) .nil))))) (.cons (.list (.cons (.ah (.cons (.k (.int 2)) (.cons (.k (.int 2)) (.cons (.k (.int 3)) .nil)))) .nil)) (.cons (.list (.cons (.ah (.cons (.k (.int 8)) .nil)) .nil)) (.cons (.list (.cons (.ah (.cons (.k (.int 0)) (.cons (.k (.int 0)) (.cons (.k (.int 0)) (.cons (.k (.int 0)) (.cons (.k (.int 0)) (.cons (.k (.int 0)) (.cons (.k (.int 0)) (.cons (.bin .add (.k (.int 2)) (.bin .mul (.k (.int 21)) (.aa 0))) (.cons (.k (.int 0)) .nil)))))))))) .nil)) (.cons (.list (.cons (.ah (.cons (.k (.int 0)) (.cons (.k (.int 0)) (.cons (.k (.int 0)) (.cons (.k (.int 0)) (.cons (.k (.int 0)) (.cons (.k (.int 0)) (.cons (.k (.int 18)) (.cons (.k (.int 0)) (.cons (.k (.int 0)) .nil)))))))))) .nil)) (.cons (.list (.cons (.ah (.cons (.k (.int 4)) (.cons (.k (.int 2)) .nil))) .nil)) (.cons (.list (.cons (.ah (.cons (.k (.int 0)) (.cons (.k (.int 1)) (.cons (.k (.int 6)) (.cons (.k (.int 15)) .nil))))) (.cons (.ah (.cons (.k (.int 0)) (.cons (.k (.int 0)) (.cons (.k (.int 13)) (.cons (.k (.int 15)) .nil))))) (.cons (.ah (.cons (.k (.int 1)) (.cons (.k (.int 0)) (.cons (.k (.int 13)) (.cons (.k (.int 16)) .nil))))) .nil)))) (.cons (.list (.cons (.ah (.cons (.k (.int 12)) (.cons (.k (.int 8)) .nil))) .nil)) (.cons (.list (.cons (.ah (.cons (.k (.int 2)) (.cons (.k (.int 5)) .nil))) .nil)) .nil)))))))))))))))))))))))
noncomputable def rH:bG:=(.cons (.aK 5 (.bin .add (.aO .len (.aq (.aa 2) (.k (.int 4)))) (.k (.int 1))))
 (.cons (.aK 6 (.bin .add (.aO .len (.aq (.aa 2) (.k (.int 6)))) (.k (.int 1))))
 (.cons (.aK 7 (.aq (.ah (.cons (.k (.int 20)) (.cons (.k (.int 21)) (.cons (.k (.int 2)) .nil)))) (.aa 3)))
 (.cons (.aK 8 (.k (.int 0)))
 (.cons (.ba (.or (.cons (.cmp .eq (.aa 3) (.k (.int 2))) (.cons (.cmp .eq (.bin .mod (.bin .fdiv (.aa 4) (.k (.int 36))) (.k (.int 2))) (.k (.int 1))) .nil)))
 (.cons (.aK 8 (.k (.int 19)))
 .nil)
 .nil)
 (.cons (.aK 9 (.aq (.ah (.cons (.k (.int 5)) (.cons (.k (.int 8)) .nil))) (.bin .mod (.bin .fdiv (.aa 4) (.k (.int 18))) (.k (.int 2)))))
 (.cons (.ba (.and (.cons (.cmp .eq (.aa 3) (.k (.int 0))) (.cons (.cmp .eq (.bin .mod (.bin .fdiv (.aa 4) (.k (.int 9))) (.k (.int 2))) (.k (.int 1))) .nil)))
 (.cons (.aK 7 (.k (.int 17)))
 (.cons (.ba (.and (.cons (.cmp .eq (.aa 0) (.k (.int 1))) (.cons (.cmp .eq (.aa 8) (.k (.int 0))) .nil)))
 (.cons (.aK 9 (.k (.int 0)))
 .nil)
 .nil)
 .nil))
 .nil)
 (.cons (.expr (.aU (.aq (.aa 2) (.k (.int 2))) 2 (.cons (.ah (.cons (.k (.int 1)) (.cons (.aa 7) (.cons (.aa 8) (.cons (.aa 9) (.cons (.aa 5) (.cons (.aa 6) .nil))))))) .nil)))
 (.cons (.b4 (.aa 2) (.k (.int 4)) (.bin .add (.aq (.aa 2) (.k (.int 4))) (.comp (.ah (.cons (.k (.int 6)) (.cons (.bin .add (.k (.int 4)) (.aa 0)) (.cons (.k (.int 1)) .nil)))) (.gP (.bin .mod (.aa 4) (.k (.int 3)))) .no)))
 (.cons (.b4 (.aa 2) (.k (.int 6)) (.bin .add (.aq (.aa 2) (.k (.int 6))) (.comp (.ah (.cons (.bin .add (.k (.int 25)) (.aa 0)) (.cons (.k (.int 0)) (.cons (.k (.int 6)) (.cons (.k (.int 11)) (.cons (.bin .add (.k (.int 4)) (.aa 0)) (.cons (.k (.int 7)) .nil))))))) (.gP (.bin .mod (.bin .fdiv (.aa 4) (.k (.int 3))) (.k (.int 3)))) .no)))
 .nil))))))))))
end FR.Q
namespace FR
open FR.Q
noncomputable def rI:bo:=⟨1,1,
 (.cons (.ba (.or (.cons (.cmp .lt (.aa 0) (.k (.int 0))) (.cons (.cmp .ge (.aa 0) (.gl 0)) .nil)))
 (.cons (.fq (.cons (.k (.str [114,111,119])) (.cons (.aa 0) .nil)))
 .nil)
 .nil)
 .nil)⟩
noncomputable def vU:bo:=⟨3,6,
 (.cons (.expr (.aC 0 (.cons (.aa 2) .nil)))
 (.cons (.aK 3 (.aq (.gl 1) (.aa 0)))
 (.cons (.bt (.many [4,5]) (.enum (.aq (.aa 3) (.k (.int 1))))
 (.cons (.ba (.and (.cons (.cmp .eq (.aa 5) (.aa 1)) (.cons (.cmp .ge (.aa 1) (.k (.int 0))) .nil)))
 (.cons (.ret (.bin .bor (.bin .shl (.aa 2) (.aq (.aa 3) (.k (.int 0)))) (.aa 4)))
 .nil)
 .nil)
 .nil))
 (.cons (.fq (.cons (.k (.str [99,111,100,101,100])) (.cons (.aa 1) .nil)))
 .nil))))⟩
noncomputable def nD:bo:=⟨2,4,
 (.cons (.aK 2 (.aq (.gl 1) (.aa 0)))
 (.cons (.aK 3 (.bin .band (.aa 1) (.bin .sub (.bin .shl (.k (.int 1)) (.aq (.aa 2) (.k (.int 0)))) (.k (.int 1)))))
 (.cons (.ba (.or (.cons (.cmp .ge (.aa 3) (.aO .len (.aq (.aa 2) (.k (.int 1))))) (.cons (.cmp .lt (.aq (.aq (.aa 2) (.k (.int 1))) (.aa 3)) (.k (.int 0))) .nil)))
 (.cons (.fq (.cons (.k (.str [116,97,103])) (.cons (.aa 1) .nil)))
 .nil)
 .nil)
 (.cons (.ret (.ah (.cons (.aq (.aq (.aa 2) (.k (.int 1))) (.aa 3)) (.cons (.bin .shr (.aa 1) (.aq (.aa 2) (.k (.int 0)))) .nil))))
 .nil))))⟩
noncomputable def tj:bo:=⟨2,4,
 (.cons (.bt (.many [2,3]) (.enum (.aq (.gl 2) (.aa 0)))
 (.cons (.ba (.cmp .eq (.aq (.aa 3) (.k (.int 0))) (.aa 1))
 (.cons (.ret (.aa 2))
 .nil)
 .nil)
 .nil))
 (.cons (.ret (.neg (.k (.int 1))))
 .nil))⟩
noncomputable def lO:bo:=⟨3,4,
 (.cons (.aK 3 (.list .nil))
 (.cons (.expr (.aC 12 (.cons (.aa 0) (.cons (.aa 3) .nil))))
 (.cons (.expr (.aC 15 (.cons (.aa 0) (.cons (.aa 3) .nil))))
 (.cons (.expr (.aC 17 (.cons (.aa 0) (.cons (.aa 3) .nil))))
 (.cons (.expr (.aC 8 (.cons (.aa 0) (.cons (.aa 1) (.cons (.aa 2) (.cons (.aa 3) .nil))))))
 (.cons (.ba (.aa 3)
 (.cons (.ret (.aa 3))
 .nil)
 .nil)
 (.cons (.expr (.aC 10 (.cons (.aa 0) (.cons (.aa 1) (.cons (.aa 3) .nil)))))
 (.cons (.expr (.aC 11 (.cons (.aa 0) (.cons (.aa 3) .nil))))
 (.cons (.expr (.aC 20 (.cons (.aa 0) (.cons (.aa 1) (.cons (.aa 3) .nil)))))
 (.cons (.expr (.aC 21 (.cons (.aa 0) (.cons (.aa 1) (.cons (.aa 2) (.cons (.aa 3) .nil))))))
 (.cons (.expr (.aC 24 (.cons (.aa 0) (.cons (.aa 3) .nil))))
 (.cons (.expr (.aC 26 (.cons (.aa 0) (.cons (.aa 1) (.cons (.aa 3) .nil)))))
 (.cons (.expr (.aC 27 (.cons (.aa 0) (.cons (.aa 1) (.cons (.aa 2) (.cons (.aa 3) .nil))))))
 (.cons (.expr (.aC 28 (.cons (.aa 0) (.cons (.aa 3) .nil))))
 (.cons (.expr (.aC 29 (.cons (.aa 0) (.cons (.aa 3) .nil))))
 (.cons (.expr (.aC 30 (.cons (.aa 0) (.cons (.aa 3) .nil))))
 (.cons (.expr (.aC 31 (.cons (.aa 0) (.cons (.aa 1) (.cons (.aa 3) .nil)))))
 (.cons (.expr (.aC 32 (.cons (.aa 0) (.cons (.aa 3) .nil))))
 (.cons (.expr (.aC 35 (.cons (.aa 0) (.cons (.aa 3) .nil))))
 (.cons (.expr (.aC 36 (.cons (.aa 0) (.cons (.aa 3) .nil))))
 (.cons (.ret (.aa 3))
 .nil)))))))))))))))))))))⟩
noncomputable def ug:bo:=⟨2,2,
 (.cons (.ret (.aU (.attr (.aa 0)) 0 (.cons (.aa 1) (.cons (.list .nil) .nil))))
 .nil)⟩
noncomputable def vV:bo:=⟨2,2,
 (.cons (.ret (.aU (.aa 0) 3 (.cons (.aa 1) .nil)))
 .nil)⟩
noncomputable def vW:bo:=⟨2,2,
 (.cons (.ret (.aO .tuple (.aU (.aa 0) 3 (.cons (.aa 1) .nil))))
 .nil)⟩
noncomputable def vX:bo:=⟨4,9,
 (.cons (.bt (.one 4) (.plain (.aO .sorted (.attr (.aa 0))))
 (.cons (.bt (.many [5,6]) (.enum (.aq (.gl 2) (.aa 4)))
 (.cons (.bt (.many [7,8]) (.enum (.aC 5 (.cons (.aa 0) (.cons (.aa 4) .nil))))
 (.cons (.ba (.not (.aC 9 (.cons (.aa 1) (.cons (.aa 2) (.cons (.aa 4) (.cons (.aa 6) (.cons (.aq (.aa 8) (.aa 5)) .nil)))))))
 (.cons (.expr (.aU (.aa 3) 2 (.cons (.ah (.cons (.aa 4) (.cons (.bin .add (.aa 7) (.k (.int 1))) (.cons (.k (.str [104,101,97,112])) .nil)))) .nil)))
 .nil)
 .nil)
 .nil))
 .nil))
 .nil))
 .nil)⟩
noncomputable def uV:bo:=⟨5,6,
 (.cons (.lr (.cons (.ba (.cmp .eq (.aq (.aa 3) (.k (.int 1))) (.gl 3))
 (.cons (.expr (.aU (.aa 0) 3 (.cons (.aa 4) .nil)))
 .nil)
 (.cons (.ba (.cmp .eq (.aq (.aa 3) (.k (.int 1))) (.gl 4))
 (.cons (.aK 5 (.aO .len (.aU (.aa 1) 3 (.cons (.aa 4) .nil))))
 (.cons (.ret (.or (.cons (.cmp .gt (.aa 5) (.k (.int 0))) (.cons (.cmp .fK (.aa 2) (.gl 6)) (.cons (.cmp .fK (.aq (.aa 3) (.k (.int 0))) (.gl 5)) .nil)))))
 .nil))
 .nil)
 .nil))
 .nil) (.bool false))
 (.cons (.ret (.k (.bool true)))
 .nil))⟩
noncomputable def uW:bo:=⟨3,5,
 (.cons (.bt (.one 3) (.plain (.ah (.cons (.gl 10) (.cons (.gl 9) .nil))))
 (.cons (.ba (.cmp .ne (.aU (.aa 0) 4 (.cons (.aa 3) .nil)) (.k (.int 1)))
 (.cons (.expr (.aU (.aa 2) 2 (.cons (.ah (.cons (.aa 3) (.cons (.aU (.aa 0) 4 (.cons (.aa 3) .nil)) (.cons (.k (.str [115,105,110,103,108,101])) .nil)))) .nil)))
 .nil)
 .nil)
 .nil))
 (.cons (.aK 4 (.aC 5 (.cons (.aa 0) (.cons (.gl 8) .nil))))
 (.cons (.ba (.or (.cons (.cmp .eq (.aO .len (.aa 4)) (.k (.int 0))) (.cons (.cmp .ne (.aC 6 (.cons (.aa 1) (.cons (.aq (.aq (.aa 4) (.k (.int 0))) (.k (.int 1))) .nil))) (.gl 7)) (.cons (.aC 23 (.cons (.aq (.aa 4) (.k (.int 0))) .nil)) (.cons (.bin .shr (.aq (.aq (.aa 4) (.k (.int 0))) (.k (.int 3))) (.k (.int 2))) .nil)))))
 (.cons (.expr (.aU (.aa 2) 2 (.cons (.ah (.cons (.gl 8) (.cons (.k (.int 1)) (.cons (.k (.str [109,111,100,117,108,101])) .nil)))) .nil)))
 .nil)
 .nil)
 .nil)))⟩
noncomputable def yM:bo:=⟨2,6,
 (.cons (.bt (.one 2) (.plain (.ah (.cons (.gl 12) (.cons (.gl 11) .nil))))
 (.cons (.aK 3 (.dQ .int))
 (.cons (.bt (.many [4,5]) (.enum (.aC 5 (.cons (.aa 0) (.cons (.aa 2) .nil))))
 (.cons (.ba (.cmp .isin (.aq (.aa 5) (.k (.int 0))) (.aa 3))
 (.cons (.expr (.aU (.aa 1) 2 (.cons (.ah (.cons (.aa 2) (.cons (.bin .add (.aa 4) (.k (.int 1))) (.cons (.k (.str [109,97,112])) .nil)))) .nil)))
 .nil)
 .nil)
 (.cons (.b4 (.aa 3) (.aq (.aa 5) (.k (.int 0))) (.k (.int 1)))
 .nil)))
 .nil)))
 .nil)⟩
noncomputable def yN:bo:=⟨2,7,
 (.cons (.bt (.one 2) (.plain (.aO .sorted (.attr (.aa 0))))
 (.cons (.bt (.many [3,4]) (.enum (.aq (.gl 2) (.aa 2)))
 (.cons (.ba (.cmp .ge (.aq (.aa 4) (.k (.int 1))) (.gl 13))
 (.cons (.bt (.many [5,6]) (.enum (.aC 5 (.cons (.aa 0) (.cons (.aa 2) .nil))))
 (.cons (.ba (.cmp .is (.aC 13 (.cons (.aq (.aa 4) (.k (.int 1))) (.cons (.aq (.aa 6) (.aa 3)) .nil))) (.k .none))
 (.cons (.expr (.aU (.aa 1) 2 (.cons (.ah (.cons (.aa 2) (.cons (.bin .add (.aa 5) (.k (.int 1))) (.cons (.k (.str [116,97,103])) .nil)))) .nil)))
 .nil)
 .nil)
 .nil))
 .nil)
 .nil)
 .nil))
 .nil))
 .nil)⟩
noncomputable def vY:bo:=⟨2,2,
 (.cons (.lr (.cons (.ret (.aC 2 (.cons (.bin .sub (.aa 0) (.gl 13)) (.cons (.aa 1) .nil))))
 .nil) .none)
 .nil)⟩
noncomputable def qt:bo:=⟨2,3,
 (.cons (.bt (.one 2) (.plain (.gl 14))
 (.cons (.ba (.and (.cons (.cmp .eq (.aq (.aa 2) (.k (.int 0))) (.aa 0)) (.cons (.cmp .eq (.aq (.aa 2) (.k (.int 1))) (.aa 1)) .nil)))
 (.cons (.ret (.k (.bool true)))
 .nil)
 .nil)
 .nil))
 (.cons (.ret (.k (.bool false)))
 .nil))⟩
noncomputable def tm:bo:=⟨2,8,
 (.cons (.bt (.one 2) (.plain (.aO .sorted (.attr (.aa 0))))
 (.cons (.bt (.many [3,4]) (.enum (.aq (.gl 2) (.aa 2)))
 (.cons (.ba (.or (.cons (.cmp .lt (.aq (.aa 4) (.k (.int 1))) (.gl 16)) (.cons (.aC 14 (.cons (.aa 2) (.cons (.aa 3) .nil))) .nil)))
 (.cons .cont
 .nil)
 .nil)
 (.cons (.aK 5 (.cmp .isin (.ah (.cons (.aa 2) (.cons (.aq (.aa 4) (.k (.int 0))) .nil))) (.gl 15)))
 (.cons (.bt (.many [6,7]) (.enum (.aC 5 (.cons (.aa 0) (.cons (.aa 2) .nil))))
 (.cons (.ba (.not (.aC 16 (.cons (.aa 0) (.cons (.aq (.aa 4) (.k (.int 1))) (.cons (.aq (.aa 7) (.aa 3)) (.cons (.aa 5) .nil))))))
 (.cons (.expr (.aU (.aa 1) 2 (.cons (.ah (.cons (.aa 2) (.cons (.bin .add (.aa 6) (.k (.int 1))) (.cons (.k (.str [112,97,114,101,110,116])) .nil)))) .nil)))
 .nil)
 .nil)
 .nil))
 .nil))))
 .nil))
 .nil)⟩
noncomputable def yO:bo:=⟨4,5,
 (.cons (.ba (.cmp .lt (.aa 1) (.gl 13))
 (.cons (.ret (.and (.cons (.cmp .ge (.aa 2) (.k (.int 1))) (.cons (.cmp .le (.aa 2) (.aU (.aa 0) 4 (.cons (.bin .sub (.aa 1) (.gl 16)) .nil))) .nil))))
 .nil)
 .nil)
 (.cons (.aK 4 (.aC 13 (.cons (.aa 1) (.cons (.aa 2) .nil))))
 (.cons (.ba (.cmp .is (.aa 4) (.k .none))
 (.cons (.ret (.k (.bool true)))
 .nil)
 .nil)
 (.cons (.ba (.cmp .eq (.aq (.aa 4) (.k (.int 1))) (.k (.int 0)))
 (.cons (.ret (.aa 3))
 .nil)
 .nil)
 (.cons (.ret (.and (.cons (.cmp .ge (.aq (.aa 4) (.k (.int 1))) (.k (.int 1))) (.cons (.cmp .le (.aq (.aa 4) (.k (.int 1))) (.aU (.aa 0) 4 (.cons (.aq (.aa 4) (.k (.int 0))) .nil))) .nil))))
 .nil)))))⟩
noncomputable def vZ:bo:=⟨2,10,
 (.cons (.bt (.many [2,3,4]) (.plain (.gl 14))
 (.cons (.aK 5 (.aC 5 (.cons (.aa 0) (.cons (.aa 2) .nil))))
 (.cons (.ba (.and (.cons (.cmp .eq (.aO .len (.aa 5)) (.k (.int 0))) (.cons (.cmp .gt (.aU (.aa 0) 4 (.cons (.aa 4) .nil)) (.k (.int 0))) .nil)))
 (.cons (.expr (.aU (.aa 1) 2 (.cons (.ah (.cons (.aa 4) (.cons (.k (.int 1)) (.cons (.k (.str [108,105,115,116])) .nil)))) .nil)))
 .nil)
 .nil)
 (.cons (.aK 6 (.k (.int 1)))
 (.cons (.bt (.many [7,8]) (.enum (.aa 5))
 (.cons (.aK 9 (.aq (.aa 8) (.aa 3)))
 (.cons (.ba (.or (.cons (.cmp .lt (.aa 9) (.aa 6)) (.cons (.cmp .gt (.aa 9) (.bin .add (.aU (.aa 0) 4 (.cons (.aa 4) .nil)) (.k (.int 1)))) (.cons (.and (.cons (.cmp .eq (.aa 7) (.k (.int 0))) (.cons (.cmp .ne (.aa 9) (.k (.int 1))) .nil))) .nil))))
 (.cons (.expr (.aU (.aa 1) 2 (.cons (.ah (.cons (.aa 2) (.cons (.bin .add (.aa 7) (.k (.int 1))) (.cons (.k (.str [108,105,115,116])) .nil)))) .nil)))
 .nil)
 (.cons (.aK 6 (.aa 9))
 .nil))
 .nil)))
 .nil)))))
 .nil)⟩
noncomputable def v3:bo:=⟨5,6,
 (.cons (.aK 5 (.aq (.aU (.aa 0) 3 (.cons (.aa 1) (.cons (.aa 4) .nil))) (.aa 2)))
 (.cons (.ba (.cmp .lt (.aa 4) (.aU (.aa 0) 4 (.cons (.aa 1) .nil)))
 (.cons (.ret (.ah (.cons (.aa 5) (.cons (.aq (.aU (.aa 0) 3 (.cons (.aa 1) (.cons (.bin .add (.aa 4) (.k (.int 1))) .nil))) (.aa 2)) .nil))))
 .nil)
 .nil)
 (.cons (.ret (.ah (.cons (.aa 5) (.cons (.bin .add (.aU (.aa 0) 4 (.cons (.aa 3) .nil)) (.k (.int 1))) .nil))))
 .nil)))⟩
noncomputable def yP:bo:=⟨5,8,
 (.cons (.bt (.one 5) (.dA (.k (.int 1)) (.bin .add (.aU (.aa 0) 4 (.cons (.aa 1) .nil)) (.k (.int 1))))
 (.cons (.dR [6,7] (.aC 18 (.cons (.aa 0) (.cons (.aa 1) (.cons (.aa 2) (.cons (.aa 3) (.cons (.aa 5) .nil)))))))
 (.cons (.ba (.and (.cons (.cmp .ge (.aa 4) (.aa 6)) (.cons (.cmp .lt (.aa 4) (.aa 7)) .nil)))
 (.cons (.ret (.aa 5))
 .nil)
 .nil)
 .nil)))
 (.cons (.ret (.k (.int 0)))
 .nil))⟩
noncomputable def v5:bo:=⟨3,8,
 (.cons (.bt (.many [3,4]) (.plain (.gl 17))
 (.cons (.aK 5 (.aC 3 (.cons (.aa 3) (.cons (.aa 4) .nil))))
 (.cons (.bt (.many [6,7]) (.enum (.aC 5 (.cons (.aa 0) (.cons (.aa 3) .nil))))
 (.cons (.ba (.cmp .eq (.aC 6 (.cons (.aa 1) (.cons (.aq (.aa 7) (.aa 5)) .nil))) (.k (.str [])))
 (.cons (.expr (.aU (.aa 2) 2 (.cons (.ah (.cons (.aa 3) (.cons (.bin .add (.aa 6) (.k (.int 1))) (.cons (.k (.str [110,97,109,101])) .nil)))) .nil)))
 .nil)
 .nil)
 .nil))
 .nil)))
 .nil)⟩
noncomputable def v9:bo:=⟨4,9,
 (.cons (.aK 4 (.dQ .int))
 (.cons (.bt (.one 5) (.plain (.aC 5 (.cons (.aa 0) (.cons (.gl 23) .nil))))
 (.cons (.b4 (.aa 4) (.aq (.aa 5) (.k (.int 0))) (.aq (.aa 5) (.k (.int 1))))
 .nil))
 (.cons (.aK 6 (.dQ (.ah [.i,.s,.s])))
 (.cons (.bt (.many [7,5]) (.enum (.aC 5 (.cons (.aa 0) (.cons (.gl 8) .nil))))
 (.cons (.aK 8 (.ah (.cons (.aU (.aa 4) 0 (.cons (.bin .add (.aa 7) (.k (.int 1))) (.cons (.k (.int 0)) .nil))) (.cons (.aC 6 (.cons (.aa 1) (.cons (.aq (.aa 5) (.k (.int 2))) .nil))) (.cons (.aC 6 (.cons (.aa 1) (.cons (.aq (.aa 5) (.k (.int 1))) .nil))) .nil)))))
 (.cons (.ba (.cmp .isin (.aa 8) (.aa 6))
 (.cons (.expr (.aU (.aa 3) 2 (.cons (.ah (.cons (.gl 8) (.cons (.bin .add (.aa 7) (.k (.int 1))) (.cons (.k (.str [116,119,105,99,101])) .nil)))) .nil)))
 .nil)
 .nil)
 (.cons (.b4 (.aa 6) (.aa 8) (.k (.int 1)))
 .nil))))
 (.cons (.aK 6 (.dQ (.ah [.i,.s,.s])))
 (.cons (.bt (.many [7,5]) (.enum (.aC 5 (.cons (.aa 0) (.cons (.gl 22) .nil))))
 (.cons (.aK 8 (.ah (.cons (.aq (.aa 5) (.k (.int 0))) (.cons (.aC 6 (.cons (.aa 1) (.cons (.aq (.aa 5) (.k (.int 2))) .nil))) (.cons (.aC 6 (.cons (.aa 1) (.cons (.aq (.aa 5) (.k (.int 1))) .nil))) .nil)))))
 (.cons (.ba (.cmp .isin (.aa 8) (.aa 6))
 (.cons (.expr (.aU (.aa 3) 2 (.cons (.ah (.cons (.gl 22) (.cons (.bin .add (.aa 7) (.k (.int 1))) (.cons (.k (.str [116,119,105,99,101])) .nil)))) .nil)))
 .nil)
 .nil)
 (.cons (.b4 (.aa 6) (.aa 8) (.k (.int 1)))
 .nil))))
 (.cons (.expr (.aC 22 (.cons (.aa 0) (.cons (.aa 1) (.cons (.aa 2) (.cons (.aa 3) (.cons (.ah (.cons (.gl 8) (.cons (.k (.int 4)) (.cons (.gl 21) .nil)))) (.cons (.k (.int 1)) (.cons (.k (.int 2)) .nil)))))))))
 (.cons (.expr (.aC 22 (.cons (.aa 0) (.cons (.aa 1) (.cons (.aa 2) (.cons (.aa 3) (.cons (.ah (.cons (.gl 8) (.cons (.k (.int 5)) (.cons (.gl 20) .nil)))) (.cons (.k (.int 3)) (.cons (.k (.int 4)) .nil)))))))))
 (.cons (.expr (.aC 22 (.cons (.aa 0) (.cons (.aa 1) (.cons (.aa 2) (.cons (.aa 3) (.cons (.ah (.cons (.gl 11) (.cons (.k (.int 1)) (.cons (.gl 19) .nil)))) (.cons (.k (.int 1)) (.cons (.k (.int 2)) .nil)))))))))
 (.cons (.expr (.aC 22 (.cons (.aa 0) (.cons (.aa 1) (.cons (.aa 2) (.cons (.aa 3) (.cons (.ah (.cons (.gl 12) (.cons (.k (.int 1)) (.cons (.gl 18) .nil)))) (.cons (.k (.int 1)) (.cons (.neg (.k (.int 1))) .nil)))))))))
 .nil))))))))))⟩
noncomputable def rJ:bo:=⟨7,18,
 (.cons (.dR [7,8,9] (.aa 4))
 (.cons (.bt (.one 10) (.dA (.k (.int 1)) (.bin .add (.aU (.aa 0) 4 (.cons (.aa 7) .nil)) (.k (.int 1))))
 (.cons (.dR [11,12] (.aC 18 (.cons (.aa 0) (.cons (.aa 7) (.cons (.aa 8) (.cons (.aa 9) (.cons (.aa 10) .nil)))))))
 (.cons (.aK 13 (.dQ (.ah [.s,.n])))
 (.cons (.bt (.one 14) (.dA (.aa 11) (.aa 12))
 (.cons (.aK 15 (.aU (.aa 0) 3 (.cons (.aa 9) (.cons (.aa 14) .nil))))
 (.cons (.aK 16 (.ite (.cmp .ge (.aa 6) (.k (.int 0))) (.aC 7 (.cons (.aa 2) (.cons (.aq (.aa 15) (.aa 6)) .nil))) (.ah .nil)))
 (.cons (.aK 17 (.ah (.cons (.aC 6 (.cons (.aa 1) (.cons (.aq (.aa 15) (.aa 5)) .nil))) (.cons (.aa 16) .nil))))
 (.cons (.ba (.cmp .isin (.aa 17) (.aa 13))
 (.cons (.expr (.aU (.aa 3) 2 (.cons (.ah (.cons (.aa 9) (.cons (.aa 14) (.cons (.k (.str [116,119,105,99,101])) .nil)))) .nil)))
 .nil)
 .nil)
 (.cons (.b4 (.aa 13) (.aa 17) (.k (.int 1)))
 .nil))))))
 .nil))))
 .nil))⟩
noncomputable def tn:bo:=⟨1,1,
 (.cons (.ret (.cmp .ne (.bin .band (.aq (.aa 0) (.k (.int 0))) (.gl 24)) (.k (.int 0))))
 .nil)⟩
noncomputable def wa:bo:=⟨2,7,
 (.cons (.bt (.many [2,3]) (.enum (.aC 5 (.cons (.aa 0) (.cons (.gl 8) .nil))))
 (.cons (.ba (.not (.aC 23 (.cons (.aa 3) .nil)))
 (.cons .cont
 .nil)
 .nil)
 (.cons (.ba (.bin .shr (.aq (.aa 3) (.k (.int 3))) (.k (.int 2)))
 (.cons (.expr (.aU (.aa 1) 2 (.cons (.ah (.cons (.gl 8) (.cons (.bin .add (.aa 2) (.k (.int 1))) (.cons (.k (.str [105,102,97,99,101])) .nil)))) .nil)))
 .nil)
 .nil)
 (.cons (.dR [4,5] (.aC 18 (.cons (.aa 0) (.cons (.gl 8) (.cons (.k (.int 4)) (.cons (.gl 21) (.cons (.bin .add (.aa 2) (.k (.int 1))) .nil)))))))
 (.cons (.bt (.one 6) (.dA (.aa 4) (.aa 5))
 (.cons (.ba (.not (.bin .band (.aq (.aU (.aa 0) 3 (.cons (.gl 21) (.cons (.aa 6) .nil))) (.k (.int 0))) (.gl 25)))
 (.cons (.expr (.aU (.aa 1) 2 (.cons (.ah (.cons (.gl 21) (.cons (.aa 6) (.cons (.k (.str [105,102,97,99,101])) .nil)))) .nil)))
 .nil)
 .nil)
 .nil))
 .nil)))))
 .nil)⟩
noncomputable def AR:bo:=⟨2,5,
 (.cons (.ba (.or (.cons (.cmp .eq (.aU (.aa 0) 4 (.cons (.gl 9) .nil)) (.k (.int 0))) (.cons (.cmp .ne (.aC 6 (.cons (.aa 1) (.cons (.aq (.aU (.aa 0) 3 (.cons (.gl 9) (.cons (.k (.int 1)) .nil))) (.k (.int 7))) .nil))) (.gl 27)) .nil)))
 (.cons (.ret (.k (.int 0)))
 .nil)
 .nil)
 (.cons (.aK 2 (.comp (.aq (.aa 0) (.k (.int 0))) (.plain (.aC 5 (.cons (.aa 0) (.cons (.gl 23) .nil)))) .no))
 (.cons (.bt (.many [3,4]) (.enum (.aC 5 (.cons (.aa 0) (.cons (.gl 8) .nil))))
 (.cons (.ba (.and (.cons (.cmp .eq (.ah (.cons (.aC 6 (.cons (.aa 1) (.cons (.aq (.aa 4) (.k (.int 2))) .nil))) (.cons (.aC 6 (.cons (.aa 1) (.cons (.aq (.aa 4) (.k (.int 1))) .nil))) .nil))) (.ah (.cons (.k (.str [])) (.cons (.gl 26) .nil)))) (.cons (.cmp .fK (.bin .add (.aa 3) (.k (.int 1))) (.aa 2)) .nil)))
 (.cons (.ret (.bin .add (.aa 3) (.k (.int 1))))
 .nil)
 .nil)
 .nil))
 (.cons (.ret (.k (.int 0)))
 .nil))))⟩
noncomputable def yQ:bo:=⟨3,6,
 (.cons (.aK 3 (.aC 25 (.cons (.aa 0) (.cons (.aa 1) .nil))))
 (.cons (.bt (.one 4) (.dA (.k (.int 2)) (.bin .add (.aU (.aa 0) 4 (.cons (.gl 8) .nil)) (.k (.int 1))))
 (.cons (.aK 5 (.aU (.aa 0) 3 (.cons (.gl 8) (.cons (.aa 4) .nil))))
 (.cons (.ba (.and (.cons (.not (.aC 23 (.cons (.aa 5) .nil))) (.cons (.cmp .ne (.cmp .eq (.bin .shr (.aq (.aa 5) (.k (.int 3))) (.k (.int 2))) (.k (.int 0))) (.cmp .eq (.aa 4) (.aa 3))) .nil)))
 (.cons (.expr (.aU (.aa 2) 2 (.cons (.ah (.cons (.gl 8) (.cons (.aa 4) (.cons (.k (.str [98,97,115,101])) .nil)))) .nil)))
 .nil)
 .nil)
 .nil)))
 .nil))⟩
noncomputable def wb:bo:=⟨4,6,
 (.cons (.bt (.many [4,5]) (.enum (.aC 5 (.cons (.aa 0) (.cons (.gl 20) .nil))))
 (.cons (.ba (.cmp .eq (.aC 6 (.cons (.aa 1) (.cons (.aq (.aa 5) (.k (.int 3))) .nil))) (.k (.str [46,99,99,116,111,114])))
 (.cons (.ba (.or (.cons (.not (.bin .band (.aq (.aa 5) (.k (.int 2))) (.gl 29))) (.cons (.cmp .ne (.aC 7 (.cons (.aa 2) (.cons (.aq (.aa 5) (.k (.int 4))) .nil))) (.gl 28)) .nil)))
 (.cons (.expr (.aU (.aa 3) 2 (.cons (.ah (.cons (.gl 20) (.cons (.bin .add (.aa 4) (.k (.int 1))) (.cons (.k (.str [99,99,116,111,114])) .nil)))) .nil)))
 .nil)
 .nil)
 .nil)
 .nil)
 .nil))
 .nil)⟩
noncomputable def uX:bo:=⟨2,5,
 (.cons (.bt (.many [2,3]) (.enum (.aC 5 (.cons (.aa 0) (.cons (.gl 20) .nil))))
 (.cons (.aK 4 (.or (.cons (.cmp .ne (.bin .band (.aq (.aa 3) (.k (.int 2))) (.gl 31)) (.k (.int 0))) (.cons (.cmp .gt (.aq (.aa 3) (.k (.int 1))) (.gl 30)) .nil))))
 (.cons (.ba (.cmp .ne (.cmp .eq (.aq (.aa 3) (.k (.int 0))) (.k (.int 0))) (.aa 4))
 (.cons (.expr (.aU (.aa 1) 2 (.cons (.ah (.cons (.gl 20) (.cons (.bin .add (.aa 2) (.k (.int 1))) (.cons (.k (.str [98,111,100,121])) .nil)))) .nil)))
 .nil)
 .nil)
 .nil)))
 .nil)⟩
noncomputable def qu:bo:=⟨2,9,
 (.cons (.aK 2 (.dQ (.ah [.i,.i])))
 (.cons (.bt (.many [3,4]) (.enum (.aC 5 (.cons (.aa 0) (.cons (.gl 34) .nil))))
 (.cons (.dR [5,6] (.aC 2 (.cons (.gl 35) (.cons (.aq (.aa 4) (.k (.int 1))) .nil))))
 (.cons (.ba (.or (.cons (.cmp .isin (.ah (.cons (.aa 5) (.cons (.aa 6) .nil))) (.aa 2)) (.cons (.cmp .ne (.aa 5) (.gl 21)) (.cons (.not (.bin .band (.aq (.aU (.aa 0) 3 (.cons (.gl 21) (.cons (.aa 6) .nil))) (.k (.int 0))) (.gl 33))) .nil))))
 (.cons (.expr (.aU (.aa 1) 2 (.cons (.ah (.cons (.gl 34) (.cons (.bin .add (.aa 3) (.k (.int 1))) (.cons (.k (.str [99,111,110,115,116,97,110,116])) .nil)))) .nil)))
 .nil)
 .nil)
 (.cons (.b4 (.aa 2) (.ah (.cons (.aa 5) (.cons (.aa 6) .nil))) (.k (.int 1)))
 .nil))))
 (.cons (.bt (.many [3,4]) (.enum (.aC 5 (.cons (.aa 0) (.cons (.gl 21) .nil))))
 (.cons (.aK 7 (.cmp .isin (.ah (.cons (.gl 21) (.cons (.bin .add (.aa 3) (.k (.int 1))) .nil))) (.aa 2)))
 (.cons (.aK 8 (.and (.cons (.bin .band (.aq (.aa 4) (.k (.int 0))) (.gl 33)) (.cons (.not (.and (.cons (.aa 7) (.cons (.bin .band (.aq (.aa 4) (.k (.int 0))) (.gl 25)) .nil)))) .nil))))
 (.cons (.ba (.or (.cons (.cmp .ne (.cmp .ne (.bin .band (.aq (.aa 4) (.k (.int 0))) (.gl 32)) (.k (.int 0))) (.aa 7)) (.cons (.aa 8) .nil)))
 (.cons (.expr (.aU (.aa 1) 2 (.cons (.ah (.cons (.gl 21) (.cons (.bin .add (.aa 3) (.k (.int 1))) (.cons (.k (.str [99,111,110,115,116,97,110,116])) .nil)))) .nil)))
 .nil)
 .nil)
 .nil))))
 .nil)))⟩
noncomputable def uY:bo:=⟨2,8,
 (.cons (.bt (.one 2) (.dA (.k (.int 1)) (.bin .add (.aU (.aa 0) 4 (.cons (.gl 20) .nil)) (.k (.int 1))))
 (.cons (.dR [3,4] (.aC 18 (.cons (.aa 0) (.cons (.gl 20) (.cons (.k (.int 5)) (.cons (.gl 36) (.cons (.aa 2) .nil)))))))
 (.cons (.aK 5 (.neg (.k (.int 1))))
 (.cons (.bt (.one 6) (.dA (.aa 3) (.aa 4))
 (.cons (.aK 7 (.aq (.aU (.aa 0) 3 (.cons (.gl 36) (.cons (.aa 6) .nil))) (.k (.int 1))))
 (.cons (.ba (.cmp .le (.aa 7) (.aa 5))
 (.cons (.expr (.aU (.aa 1) 2 (.cons (.ah (.cons (.gl 36) (.cons (.aa 6) (.cons (.k (.str [112,97,114,97,109])) .nil)))) .nil)))
 .nil)
 .nil)
 (.cons (.aK 5 (.aa 7))
 .nil))))
 .nil))))
 .nil)⟩
noncomputable def rK:bo:=⟨3,9,
 (.cons (.aK 3 (.dQ .int))
 (.cons (.aK 4 (.dQ (.ah [.i,.s])))
 (.cons (.bt (.many [5,6]) (.enum (.aC 5 (.cons (.aa 0) (.cons (.gl 37) .nil))))
 (.cons (.aK 7 (.aU (.aa 3) 0 (.cons (.aq (.aa 6) (.k (.int 2))) (.cons (.k (.int 0)) .nil))))
 (.cons (.ba (.cmp .ne (.aq (.aa 6) (.k (.int 0))) (.aa 7))
 (.cons (.expr (.aU (.aa 2) 2 (.cons (.ah (.cons (.gl 37) (.cons (.bin .add (.aa 5) (.k (.int 1))) (.cons (.k (.str [110,117,109,98,101,114])) .nil)))) .nil)))
 .nil)
 .nil)
 (.cons (.b4 (.aa 3) (.aq (.aa 6) (.k (.int 2))) (.bin .add (.aq (.aa 6) (.k (.int 0))) (.k (.int 1))))
 (.cons (.aK 8 (.ah (.cons (.aq (.aa 6) (.k (.int 2))) (.cons (.aC 6 (.cons (.aa 1) (.cons (.aq (.aa 6) (.k (.int 3))) .nil))) .nil))))
 (.cons (.ba (.cmp .isin (.aa 8) (.aa 4))
 (.cons (.expr (.aU (.aa 2) 2 (.cons (.ah (.cons (.gl 37) (.cons (.bin .add (.aa 5) (.k (.int 1))) (.cons (.k (.str [116,119,105,99,101])) .nil)))) .nil)))
 .nil)
 .nil)
 (.cons (.b4 (.aa 4) (.aa 8) (.k (.int 1)))
 .nil)))))))
 .nil)))⟩
noncomputable def qv:bo:=⟨2,8,
 (.cons (.aK 2 (.dQ (.ah [.i,.i])))
 (.cons (.bt (.many [3,4]) (.enum (.aC 5 (.cons (.aa 0) (.cons (.gl 41) .nil))))
 (.cons (.dR [5,6] (.aC 2 (.cons (.gl 40) (.cons (.aq (.aa 4) (.k (.int 2))) .nil))))
 (.cons (.ba (.or (.cons (.not (.aC 33 (.cons (.aq (.aa 4) (.k (.int 0))) (.cons (.aa 5) .nil)))) (.cons (.cmp .isin (.ah (.cons (.aq (.aa 4) (.k (.int 0))) (.cons (.aq (.aa 4) (.k (.int 2))) .nil))) (.aa 2)) .nil)))
 (.cons (.expr (.aU (.aa 1) 2 (.cons (.ah (.cons (.gl 41) (.cons (.bin .add (.aa 3) (.k (.int 1))) (.cons (.k (.str [115,101,109,97,110,116,105,99,115])) .nil)))) .nil)))
 .nil)
 (.cons (.ba (.cmp .ne (.aC 19 (.cons (.aa 0) (.cons (.gl 8) (.cons (.k (.int 5)) (.cons (.gl 20) (.cons (.aq (.aa 4) (.k (.int 1))) .nil)))))) (.aC 34 (.cons (.aa 0) (.cons (.aa 5) (.cons (.aa 6) .nil)))))
 (.cons (.expr (.aU (.aa 1) 2 (.cons (.ah (.cons (.gl 41) (.cons (.bin .add (.aa 3) (.k (.int 1))) (.cons (.k (.str [115,101,109,97,110,116,105,99,115])) .nil)))) .nil)))
 .nil)
 .nil)
 .nil))
 (.cons (.b4 (.aa 2) (.ah (.cons (.aq (.aa 4) (.k (.int 0))) (.cons (.aq (.aa 4) (.k (.int 2))) .nil))) (.k (.int 1)))
 .nil))))
 (.cons (.bt (.one 6) (.dA (.k (.int 1)) (.bin .add (.aU (.aa 0) 4 (.cons (.gl 18) .nil)) (.k (.int 1))))
 (.cons (.aK 7 (.aC 1 (.cons (.gl 40) (.cons (.gl 18) (.cons (.aa 6) .nil)))))
 (.cons (.ba (.or (.cons (.cmp .fK (.ah (.cons (.gl 39) (.cons (.aa 7) .nil))) (.aa 2)) (.cons (.cmp .fK (.ah (.cons (.gl 38) (.cons (.aa 7) .nil))) (.aa 2)) .nil)))
 (.cons (.expr (.aU (.aa 1) 2 (.cons (.ah (.cons (.gl 18) (.cons (.aa 6) (.cons (.k (.str [115,101,109,97,110,116,105,99,115])) .nil)))) .nil)))
 .nil)
 .nil)
 .nil)))
 .nil)))⟩
noncomputable def rL:bo:=⟨2,2,
 (.cons (.ba (.cmp .eq (.aa 1) (.gl 18))
 (.cons (.ret (.or (.cons (.cmp .eq (.aa 0) (.gl 39)) (.cons (.cmp .eq (.aa 0) (.gl 38)) .nil))))
 .nil)
 .nil)
 (.cons (.ret (.or (.cons (.cmp .eq (.aa 0) (.gl 43)) (.cons (.cmp .eq (.aa 0) (.gl 42)) .nil))))
 .nil))⟩
noncomputable def nQ:bo:=⟨3,5,
 (.cons (.aK 3 (.ite (.cmp .eq (.aa 1) (.gl 18)) (.gl 12) (.gl 11)))
 (.cons (.aK 4 (.aC 19 (.cons (.aa 0) (.cons (.aa 3) (.cons (.k (.int 1)) (.cons (.aa 1) (.cons (.aa 2) .nil)))))))
 (.cons (.ba (.cmp .eq (.aa 4) (.k (.int 0)))
 (.cons (.ret (.neg (.k (.int 1))))
 .nil)
 .nil)
 (.cons (.ret (.aq (.aU (.aa 0) 3 (.cons (.aa 3) (.cons (.aa 4) .nil))) (.k (.int 0))))
 .nil))))⟩
noncomputable def wc:bo:=⟨2,7,
 (.cons (.aK 2 (.dQ (.ah [.i,.i])))
 (.cons (.bt (.many [3,4]) (.enum (.aC 5 (.cons (.aa 0) (.cons (.gl 44) .nil))))
 (.cons (.dR [5,6] (.aC 2 (.cons (.gl 45) (.cons (.aq (.aa 4) (.k (.int 1))) .nil))))
 (.cons (.ba (.or (.cons (.cmp .ne (.aa 5) (.gl 20)) (.cons (.cmp .ne (.aC 19 (.cons (.aa 0) (.cons (.gl 8) (.cons (.k (.int 5)) (.cons (.gl 20) (.cons (.aa 6) .nil)))))) (.aq (.aa 4) (.k (.int 0)))) .nil)))
 (.cons (.expr (.aU (.aa 1) 2 (.cons (.ah (.cons (.gl 44) (.cons (.bin .add (.aa 3) (.k (.int 1))) (.cons (.k (.str [105,109,112,108])) .nil)))) .nil)))
 .nil)
 (.cons (.ba (.cmp .isin (.ah (.cons (.aq (.aa 4) (.k (.int 0))) (.cons (.aq (.aa 4) (.k (.int 2))) .nil))) (.aa 2))
 (.cons (.expr (.aU (.aa 1) 2 (.cons (.ah (.cons (.gl 44) (.cons (.bin .add (.aa 3) (.k (.int 1))) (.cons (.k (.str [105,109,112,108])) .nil)))) .nil)))
 .nil)
 .nil)
 .nil))
 (.cons (.b4 (.aa 2) (.ah (.cons (.aq (.aa 4) (.k (.int 0))) (.cons (.aq (.aa 4) (.k (.int 2))) .nil))) (.k (.int 1)))
 .nil))))
 .nil))⟩
noncomputable def uZ:bo:=⟨2,7,
 (.cons (.aK 2 (.dQ .int))
 (.cons (.bt (.many [3,4]) (.enum (.aC 5 (.cons (.aa 0) (.cons (.gl 23) .nil))))
 (.cons (.ba (.cmp .isin (.aq (.aa 4) (.k (.int 0))) (.aa 2))
 (.cons (.expr (.aU (.aa 1) 2 (.cons (.ah (.cons (.gl 23) (.cons (.bin .add (.aa 3) (.k (.int 1))) (.cons (.k (.str [110,101,115,116,101,100])) .nil)))) .nil)))
 .nil)
 (.cons (.b4 (.aa 2) (.aq (.aa 4) (.k (.int 0))) (.aq (.aa 4) (.k (.int 1))))
 .nil))
 .nil))
 (.cons (.bt (.many [3,4]) (.enum (.aC 5 (.cons (.aa 0) (.cons (.gl 23) .nil))))
 (.cons (.aK 5 (.aq (.aa 4) (.k (.int 1))))
 (.cons (.aK 6 (.k (.int 0)))
 (.cons (.lG (.and (.cons (.cmp .isin (.aa 5) (.aa 2)) (.cons (.cmp .ne (.aa 5) (.aq (.aa 4) (.k (.int 0)))) (.cons (.cmp .le (.aa 6) (.aO .len (.aa 2))) .nil))))
 (.cons (.aK 5 (.aq (.aa 2) (.aa 5)))
 (.cons (.aug 6 .add (.k (.int 1)))
 .nil)))
 (.cons (.ba (.cmp .eq (.aa 5) (.aq (.aa 4) (.k (.int 0))))
 (.cons (.expr (.aU (.aa 1) 2 (.cons (.ah (.cons (.gl 23) (.cons (.bin .add (.aa 3) (.k (.int 1))) (.cons (.k (.str [110,101,115,116,101,100])) .nil)))) .nil)))
 .nil)
 .nil)
 .nil)))))
 .nil)))⟩
noncomputable def pX:bo:=⟨2,10,
 (.cons (.aK 2 (.kN [0,1,2,4,6,8,9,10,11,17,18,20,21,23,24,25,27,32,35,41,42,43,44] lN))
 (.cons (.bt (.many [3,4]) (.enum (.aa 1))
 rH)
 (.cons (.ba (.aa 1)
 (.cons (.expr (.aU (.aq (.aa 2) (.k (.int 9))) 2 (.cons (.ah (.cons (.aO .len (.aq (.aa 2) (.k (.int 2)))) (.cons (.bin .mul (.aO .len (.aq (.aa 2) (.k (.int 2)))) (.k (.int 4))) .nil))) .nil)))
 (.cons (.expr (.aU (.aq (.aa 2) (.k (.int 43))) 2 (.cons (.ah (.cons (.bin .mul (.aO .len (.aq (.aa 2) (.k (.int 6)))) (.k (.int 2))) (.cons (.k (.int 8)) .nil))) .nil)))
 (.cons (.expr (.aU (.aq (.aa 2) (.k (.int 44))) 2 (.cons (.ah (.cons (.k (.int 3)) (.cons (.bin .mul (.aO .len (.aq (.aa 2) (.k (.int 2)))) (.k (.int 4))) .nil))) .nil)))
 .nil)))
 .nil)
 (.cons (.ret (.aa 2))
 .nil))))⟩
noncomputable def nR:bo:=⟨4,8,
 (.cons (.ba (.cmp .eq (.aa 0) (.k (.int 0)))
 (.cons (.aK 4 (.aq (.gl 54) (.bin .mod (.aa 1) (.aO .len (.gl 54)))))
 (.cons (.ret (.ah (.cons (.ah (.cons (.aa 4) .nil)) (.cons (.ah (.cons (.ah (.cons (.aq (.aa 4) (.k (.int 0))) (.cons (.aq (.aa 4) (.k (.int 1))) (.cons (.k (.str [116,97,103])) .nil)))) .nil)) .nil))))
 .nil))
 .nil)
 (.cons (.ba (.cmp .eq (.aa 0) (.k (.int 1)))
 (.cons (.aK 4 (.aq (.gl 53) (.bin .mod (.aa 1) (.aO .len (.gl 53)))))
 (.cons (.ret (.ah (.cons (.ah (.cons (.aa 4) .nil)) (.cons (.ah (.cons (.ah (.cons (.aq (.aa 4) (.k (.int 0))) (.cons (.aq (.aa 4) (.k (.int 1))) (.cons (.k (.str [112,97,114,101,110,116])) .nil)))) .nil)) .nil))))
 .nil))
 .nil)
 (.cons (.ba (.cmp .eq (.aa 0) (.k (.int 2)))
 (.cons (.aK 4 (.aq (.gl 52) (.bin .mod (.aa 1) (.aO .len (.gl 52)))))
 (.cons (.aK 5 (.aq (.aa 4) (.k (.int 1))))
 (.cons (.ba (.cmp .eq (.aa 5) (.k (.str [84])))
 (.cons (.aK 5 (.aO .len (.aq (.aa 3) (.k (.int 2)))))
 .nil)
 .nil)
 (.cons (.ba (.cmp .eq (.aa 5) (.k (.str [77])))
 (.cons (.aK 5 (.aO .len (.aq (.aa 3) (.k (.int 6)))))
 .nil)
 .nil)
 (.cons (.aK 6 (.aq (.aa 4) (.k (.int 3))))
 (.cons (.ba (.cmp .eq (.aa 6) (.k (.str [70])))
 (.cons (.aK 6 (.bin .add (.aO .len (.aq (.aa 3) (.k (.int 4)))) (.k (.int 2))))
 .nil)
 .nil)
 (.cons (.ba (.cmp .eq (.aa 6) (.k (.str [77])))
 (.cons (.aK 6 (.bin .add (.aO .len (.aq (.aa 3) (.k (.int 6)))) (.k (.int 2))))
 .nil)
 .nil)
 (.cons (.ret (.ah (.cons (.ah (.cons (.ah (.cons (.aq (.aa 4) (.k (.int 0))) (.cons (.aa 5) (.cons (.aq (.aa 4) (.k (.int 2))) (.cons (.aa 6) .nil))))) .nil)) (.cons (.ah (.cons (.ah (.cons (.aq (.aa 4) (.k (.int 0))) (.cons (.aa 5) (.cons (.k (.str [108,105,115,116])) .nil)))) .nil)) .nil))))
 .nil))))))))
 .nil)
 (.cons (.ba (.cmp .eq (.aa 0) (.k (.int 3)))
 (.cons (.aK 7 (.aq (.bin .add (.bin .add (.gl 50) (.gl 47)) (.gl 51)) (.bin .mod (.aa 1) (.k (.int 27)))))
 (.cons (.aK 6 (.bin .add (.aO .len (.gl 49)) (.bin .mod (.aa 2) (.k (.int 5)))))
 (.cons (.ba (.cmp .gt (.bin .mod (.aa 1) (.k (.int 27))) (.k (.int 15)))
 (.cons (.aK 6 (.bin .add (.aO .len (.gl 48)) (.bin .mod (.aa 2) (.k (.int 5)))))
 .nil)
 .nil)
 (.cons (.ret (.ah (.cons (.ah (.cons (.ah (.cons (.aq (.aa 7) (.k (.int 0))) (.cons (.aq (.aa 7) (.k (.int 1))) (.cons (.aq (.aa 7) (.k (.int 2))) (.cons (.aa 6) .nil))))) .nil)) (.cons (.ah (.cons (.ah (.cons (.aq (.aa 7) (.k (.int 0))) (.cons (.aq (.aa 7) (.k (.int 1))) (.cons (.k (.str [104,101,97,112])) .nil)))) .nil)) .nil))))
 .nil))))
 .nil)
 (.cons (.ba (.and (.cons (.cmp .eq (.aa 0) (.k (.int 4))) (.cons (.cmp .lt (.bin .mod (.aa 1) (.k (.int 19))) (.k (.int 7))) .nil)))
 (.cons (.aK 7 (.aq (.gl 47) (.bin .mod (.aa 1) (.k (.int 19)))))
 (.cons (.ret (.ah (.cons (.ah (.cons (.ah (.cons (.aq (.aa 7) (.k (.int 0))) (.cons (.aq (.aa 7) (.k (.int 1))) (.cons (.aq (.aa 7) (.k (.int 2))) (.cons (.k (.int 0)) .nil))))) .nil)) (.cons (.ah (.cons (.ah (.cons (.aq (.aa 7) (.k (.int 0))) (.cons (.aq (.aa 7) (.k (.int 1))) (.cons (.k (.str [104,101,97,112])) .nil)))) .nil)) .nil))))
 .nil))
 .nil)
 (.cons (.ba (.cmp .eq (.aa 0) (.k (.int 4)))
 (.cons (.ret (.aC 39 (.cons (.bin .sub (.bin .mod (.aa 1) (.k (.int 19))) (.k (.int 7))) (.cons (.aa 3) .nil))))
 .nil)
 .nil)
 (.cons (.ret (.aq (.gl 46) (.bin .mod (.aa 1) (.aO .len (.gl 46)))))
 .nil)))))))⟩
noncomputable def lP:bo:=⟨2,5,
 (.cons (.aK 2 (.comp (.aa 0) (.plain (.slice (.aq (.aa 1) (.k (.int 2))) (.yes (.k (.int 4))) (.yes (.k (.int 5))))) (.yes (.cmp .eq (.aq (.aa 0) (.k (.int 1))) (.k (.int 17))))))
 (.cons (.aK 3 (.ah .nil))
 (.cons (.ba (.cmp .lt (.aa 0) (.k (.int 11)))
 (.cons (.aK 4 (.aq (.gl 55) (.aa 0)))
 (.cons (.ba (.and (.cons (.cmp .eq (.aq (.aa 4) (.k (.int 0))) (.k (.int 32))) (.cons (.cmp .gt (.aO .len (.aa 2)) (.k (.int 0))) (.cons (.cmp .eq (.aq (.aq (.aa 2) (.k (.int 0))) (.k (.int 3))) (.k (.int 0))) .nil))))
 (.cons (.aK 3 (.ah (.cons (.ah (.cons (.k (.int 2)) (.cons (.k (.int 5)) (.cons (.k (.str [98,97,115,101])) .nil)))) .nil)))
 .nil)
 .nil)
 (.cons (.ret (.ah (.cons (.ah (.cons (.ah (.cons (.aq (.aa 4) (.k (.int 0))) (.cons (.aq (.aa 4) (.k (.int 1))) (.cons (.aq (.aa 4) (.k (.int 2))) (.cons (.k (.int 0)) .nil))))) .nil)) (.cons (.bin .add (.ah (.cons (.ah (.cons (.aq (.aa 4) (.k (.int 0))) (.cons (.aq (.aa 4) (.k (.int 1))) (.cons (.k (.str [110,97,109,101])) .nil)))) .nil)) (.aa 3)) .nil))))
 .nil)))
 .nil)
 (.cons (.ba (.and (.cons (.cmp .gt (.aO .len (.aa 2)) (.k (.int 0))) (.cons (.cmp .eq (.aq (.aq (.aa 2) (.k (.int 0))) (.k (.int 2))) (.k (.int 0))) .nil)))
 (.cons (.aK 3 (.ah (.cons (.ah (.cons (.k (.int 2)) (.cons (.k (.int 5)) (.cons (.k (.str [116,119,105,99,101])) .nil)))) .nil)))
 .nil)
 .nil)
 (.cons (.ba (.cmp .eq (.aq (.aq (.aq (.aa 1) (.k (.int 32))) (.k (.int 0))) (.k (.int 7))) (.k (.int 23)))
 (.cons (.aK 3 (.bin .add (.aa 3) (.ah (.cons (.ah (.cons (.k (.int 2)) (.cons (.k (.int 2)) (.cons (.k (.str [98,97,115,101])) .nil)))) .nil))))
 (.cons (.ba (.and (.cons (.cmp .gt (.aO .len (.aa 2)) (.k (.int 0))) (.cons (.cmp .eq (.aq (.aq (.aa 2) (.k (.int 0))) (.k (.int 3))) (.k (.int 0))) .nil)))
 (.cons (.aK 3 (.bin .add (.aa 3) (.ah (.cons (.ah (.cons (.k (.int 2)) (.cons (.k (.int 5)) (.cons (.k (.str [98,97,115,101])) .nil)))) .nil))))
 .nil)
 .nil)
 .nil))
 .nil)
 (.cons (.ret (.ah (.cons (.ah (.cons (.ah (.cons (.k (.int 2)) (.cons (.k (.int 2)) (.cons (.k (.int 1)) (.cons (.k (.int 17)) .nil))))) .nil)) (.cons (.aa 3) .nil))))
 .nil))))))⟩
noncomputable def rM:bo:=⟨5,6,
 (.cons (.ba (.cmp .eq (.aa 3) (.neg (.k (.int 1))))
 (.cons (.b4 (.aa 0) (.aa 1) (.bin .add (.aq (.aa 0) (.aa 1)) (.list (.cons (.aa 4) .nil))))
 .nil)
 (.cons (.ba (.cmp .eq (.aa 3) (.neg (.k (.int 2))))
 (.cons (.b4 (.aa 0) (.aa 1) (.slice (.aq (.aa 0) (.aa 1)) .no (.yes (.neg (.k (.int 1))))))
 .nil)
 (.cons (.ba (.cmp .eq (.aa 4) (.k (.str [84])))
 (.cons (.aK 4 (.bin .add (.aO .len (.aq (.aa 0) (.k (.int 2)))) (.k (.int 1))))
 .nil)
 .nil)
 (.cons (.ba (.cmp .eq (.aa 4) (.k (.str [77])))
 (.cons (.aK 4 (.bin .add (.aO .len (.aq (.aa 0) (.k (.int 6)))) (.k (.int 1))))
 .nil)
 .nil)
 (.cons (.aK 5 (.aq (.aq (.aa 0) (.aa 1)) (.bin .sub (.aa 2) (.k (.int 1)))))
 (.cons (.b4 (.aa 0) (.aa 1) (.bin .add (.bin .add (.slice (.aq (.aa 0) (.aa 1)) .no (.yes (.bin .sub (.aa 2) (.k (.int 1))))) (.list (.cons (.bin .add (.bin .add (.slice (.aa 5) .no (.yes (.aa 3))) (.ah (.cons (.aa 4) .nil))) (.slice (.aa 5) (.yes (.bin .add (.aa 3) (.k (.int 1)))) .no)) .nil))) (.slice (.aq (.aa 0) (.aa 1)) (.yes (.aa 2)) .no)))
 .nil)))))
 .nil))
 .nil)⟩
noncomputable def He:bo:=⟨1,12,
 (.cons (.aK 1 (.comp (.bin .mod (.aa 0) (.k (.int 1000003))) (.plain (.slice (.aa 0) .no (.yes (.k (.int 6))))) .no))
 (.cons (.aK 2 (.slice (.bin .add (.aa 1) (.list (.cons (.k (.int 0)) (.cons (.k (.int 0)) (.cons (.k (.int 0)) .nil))))) .no (.yes (.k (.int 3)))))
 (.cons (.aK 3 (.new 0 (.cons (.k (.str [])) .nil)))
 (.cons (.aK 4 (.new 0 (.cons (.k (.bytes [])) .nil)))
 (.cons (.setAttr (.aa 3) (.aO .list (.gl 49)))
 (.cons (.setAttr (.aa 4) (.aO .list (.gl 48)))
 (.cons (.aK 5 (.aC 37 (.cons (.bin .mod (.aq (.aa 2) (.k (.int 0))) (.k (.int 2))) (.cons (.slice (.aa 1) (.yes (.k (.int 3))) (.yes (.k (.int 6)))) .nil))))
 (.cons (.aK 6 (.ah .nil))
 (.cons (.ba (.cmp .gt (.bin .mod (.aq (.aa 2) (.k (.int 1))) (.k (.int 8))) (.k (.int 0)))
 (.cons (.dR [7,6] (.aC 38 (.cons (.bin .sub (.bin .mod (.aq (.aa 2) (.k (.int 1))) (.k (.int 8))) (.k (.int 1))) (.cons (.aq (.aa 2) (.k (.int 2))) (.cons (.bin .fdiv (.aq (.aa 2) (.k (.int 1))) (.k (.int 8))) (.cons (.aa 5) .nil))))))
 (.cons (.bt (.one 8) (.plain (.aa 7))
 (.cons (.expr (.aC 40 (.cons (.aa 5) (.cons (.aq (.aa 8) (.k (.int 0))) (.cons (.aq (.aa 8) (.k (.int 1))) (.cons (.aq (.aa 8) (.k (.int 2))) (.cons (.aq (.aa 8) (.k (.int 3))) .nil)))))))
 .nil))
 .nil))
 .nil)
 (.cons (.aK 9 (.new 1 .nil))
 (.cons (.bt (.one 10) (.plain (.aO .sorted (.aa 5)))
 (.cons (.bt (.one 11) (.plain (.aq (.aa 5) (.aa 10)))
 (.cons (.expr (.aU (.aa 9) 5 (.cons (.aa 10) (.cons (.aa 11) .nil))))
 .nil))
 .nil))
 (.cons (.ret (.cmp .eq (.aO .sorted (.aC 4 (.cons (.aa 9) (.cons (.aa 3) (.cons (.aa 4) .nil))))) (.aO .sorted (.aa 6))))
 .nil))))))))))))⟩
noncomputable def qx:bo:=⟨2,2,
 (.cons (.setAttr (.aa 0) (.list (.cons (.aa 1) .nil)))
 .nil)⟩
noncomputable def kS:bo:=⟨2,2,
 (.cons (.ba (.or (.cons (.cmp .lt (.aa 1) (.k (.int 0))) (.cons (.cmp .ge (.aa 1) (.aO .len (.attr (.aa 0)))) .nil)))
 (.cons (.fq (.cons (.k (.str [111,102,102,115,101,116])) (.cons (.aa 1) .nil)))
 .nil)
 .nil)
 (.cons (.ret (.aq (.attr (.aa 0)) (.aa 1)))
 .nil))⟩
noncomputable def nS:bo:=⟨1,1,
 (.cons (.setAttr (.aa 0) (.dQ .int))
 .nil)⟩
noncomputable def jL:bo:=⟨3,3,
 (.cons (.expr (.aU (.aU (.attr (.aa 0)) 1 (.cons (.aa 1) (.cons (.list .nil) .nil))) 2 (.cons (.aa 2) .nil)))
 (.cons (.ret (.aO .len (.aq (.attr (.aa 0)) (.aa 1))))
 .nil))⟩
noncomputable def jM:bo:=⟨3,3,
 (.cons (.ba (.or (.cons (.cmp .lt (.aa 2) (.k (.int 1))) (.cons (.cmp .gt (.aa 2) (.aU (.aa 0) 4 (.cons (.aa 1) .nil))) .nil)))
 (.cons (.fq (.cons (.k (.str [114,111,119])) (.cons (.aa 2) .nil)))
 .nil)
 .nil)
 (.cons (.ret (.aq (.aq (.attr (.aa 0)) (.aa 1)) (.bin .sub (.aa 2) (.k (.int 1)))))
 .nil))⟩
noncomputable def iR:bo:=⟨2,2,
 (.cons (.ret (.aO .len (.aU (.attr (.aa 0)) 0 (.cons (.aa 1) (.cons (.list .nil) .nil)))))
 .nil)⟩
noncomputable def AS:List (Nat×bo):=[(0,rI),(1,vU),(2,nD),(3,tj),(4,lO),(5,ug),(6,vV),(7,vW),(8,vX),(9,uV),(10,uW),(11,yM),(12,yN),(13,vY),(14,qt),(15,tm),(16,yO),(17,vZ),(18,v3),(19,yP),(20,v5),(21,v9),(22,rJ),(23,tn),(24,wa),(25,AR),(26,yQ),(27,wb),(28,uX),(29,qu),(30,uY),(31,rK),(32,qv),(33,rL),(34,nQ),(35,wc),(36,uZ),(37,pX),(38,nR),(39,lP),(40,rM),(41,He),(101,qx),(102,kS),(103,nS),(104,jL),(105,jM),(106,iR)]
noncomputable def vB:List (Nat×bo)->Nat->Option bo
 |[],_=>none
 |p::r,i=>bif Nat.beq p.1 i then some p.2 else vB r i
noncomputable def aj(i:Nat):Option bo:=vB AS i
noncomputable def wd:PV:=(.int 16777216)
noncomputable def zJ:PV:=(.fc [0,1,2,3,4,5,6] [(.ah [(.int 2),(.ah [(.int 2),(.int 1),(.int 27)])]),(.ah [(.int 2),(.ah [(.int 4),(.int 8),(.int 23)])]),(.ah [(.int 3),(.ah [(.int 2),(.int 1),(.int (-1)),(.int 6),(.int 27)])]),(.ah [(.int 1),(.ah [(.int 20),(.int 23)])]),(.ah [(.int 1),(.ah [(.int 6),(.int 10)])]),(.ah [(.int 2),(.ah [(.int 0),(.int (-1)),(.int 35),(.int 1)])]),(.ah [(.int 1),(.ah [(.int 2),(.int 6)])])])
noncomputable def uh:PV:=.fc (rF.map (·.1)) (rF.map λp=>.ah (p.2.map ec))
noncomputable def CF:PV:=(.int 4)
noncomputable def CG:PV:=(.int 5)
noncomputable def u0:PV:=(.ah [(.str [83,105,103,110,97,116,117,114,101]),(.str [84,121,112,101]),(.str [73,110,115,116,97,110,116,105,97,116,105,111,110])])
noncomputable def we:PV:=(.ah [(.int 4),(.int 6),(.int 10),(.int 17),(.int 23),(.int 27),(.int 43)])
noncomputable def u1:PV:=(.str [60,77,111,100,117,108,101,62])
noncomputable def wg:PV:=(.int 2)
noncomputable def u2:PV:=(.int 32)
noncomputable def yR:PV:=(.int 0)
noncomputable def qy:PV:=(.int 21)
noncomputable def u3:PV:=(.int 18)
noncomputable def AU:PV:=(.int 512)
noncomputable def IJ:PV:=(.ah [(.ah [(.int 2),(.int 4),(.int 4)]),(.ah [(.int 2),(.int 5),(.int 6)]),(.ah [(.int 6),(.int 5),(.int 8)]),(.ah [(.int 18),(.int 1),(.int 20)]),(.ah [(.int 21),(.int 1),(.int 23)])])
noncomputable def u5:PV:=(.ah [(.ah [(.int 2),(.str [69,120,116,101,110,100,115])]),(.ah [(.int 20),(.str [69,118,101,110,116,84,121,112,101])])])
noncomputable def Fc:PV:=(.int 256)
noncomputable def IK:PV:=(.ah [(.ah [(.int 0),(.str [78,97,109,101])]),(.ah [(.int 1),(.str [84,121,112,101,78,97,109,101])]),(.ah [(.int 2),(.str [84,121,112,101,78,97,109,101])]),(.ah [(.int 4),(.str [78,97,109,101])]),(.ah [(.int 6),(.str [78,97,109,101])]),(.ah [(.int 10),(.str [78,97,109,101])]),(.ah [(.int 20),(.str [78,97,109,101])]),(.ah [(.int 23),(.str [78,97,109,101])]),(.ah [(.int 32),(.str [78,97,109,101])]),(.ah [(.int 35),(.str [78,97,109,101])]),(.ah [(.int 42),(.str [78,97,109,101])])])
noncomputable def AV:PV:=(.int 20)
noncomputable def u7:PV:=(.int 23)
noncomputable def tq:PV:=(.int 6)
noncomputable def AW:PV:=(.int 4)
noncomputable def wi:PV:=(.int 1)
noncomputable def qz:PV:=(.int 41)
noncomputable def tu:PV:=(.int 32)
noncomputable def yS:PV:=(.int 16)
noncomputable def yT:PV:=(.str [79,98,106,101,99,116])
noncomputable def yU:PV:=(.str [99,111,114,101])
noncomputable def yV:PV:=(.ah [(.int 0),(.int 0),(.int 1)])
noncomputable def yW:PV:=(.int 16)
noncomputable def pR:PV:=(.int 4096)
noncomputable def u9:PV:=(.int 1024)
noncomputable def rN:PV:=(.int 32768)
noncomputable def wj:PV:=(.int 64)
noncomputable def ve:PV:=(.int 11)
noncomputable def qA:PV:=(.int 1)
noncomputable def AX:PV:=(.int 8)
noncomputable def pS:PV:=(.int 42)
noncomputable def vf:PV:=(.int 16)
noncomputable def AY:PV:=(.int 8)
noncomputable def pT:PV:=(.int 3)
noncomputable def mF:PV:=(.int 24)
noncomputable def yX:PV:=(.int 2)
noncomputable def yY:PV:=(.int 1)
noncomputable def rO:PV:=(.int 25)
noncomputable def nJ:PV:=(.int 4)
noncomputable def j7:PV:=.ah (jW.map j6)
noncomputable def mG:PV:=.ah (gy.map jm)
noncomputable def yZ:PV:=.ah (kR.map .bytes)
noncomputable def y0:PV:=.ah (texts.map .str)
noncomputable def pY:PV:=.ah (jo.map jm)
noncomputable def nT:PV:=.ah (ir.map jm)
noncomputable def lu:PV:=.ah (fu.map uf)
noncomputable def jG:PV:=.ah (hN.map jk)
noncomputable def mH:PV:=.ah (mE.map jk)
noncomputable def iW:PV:=.ah (dB.map jm)
noncomputable def Sn:List PV:=[wd,zJ,uh,CF,CG,u0,we,u1,wg,u2,yR,qy,u3,AU,IJ,u5,Fc,IK,AV,u7,tq,AW,wi,qz,tu,yS,yT,yU,yV,yW,pR,u9,rN,wj,ve,qA,AX,pS,vf,AY,pT,mF,yX,yY,rO,nJ,j7,mG,yZ,y0,pY,nT,lu,jG,mH,iW]
noncomputable def Kw:List PV->Nat->PV
 |[],_=>.none
 |x::_,0=>x
 |_::r,i+1=>Kw r i
noncomputable def ae(i:Nat):PV:=Kw Sn i
noncomputable def Sh(n:Nat):=ax aj ae n
end FR
namespace FR
section
variable{cf:Nat->List PV->af->aF PV}{gl:Nat->PV}{J du:aD}{Z ak:af}
theorem eX{s:MS}{r:bG}(e:br cf gl s J Z=some (.ok (.next,du),ak)):au cf gl (.cons s r) J Z=au cf gl r du ak:=by
 show ay (br cf gl s J Z) (λf Z=>match f.1 with | .next=>au cf gl r f.2 Z | _=>av f Z)=_
 rw[e];rfl
theorem eY{s:MS}{r:bG}{f:Fl}(h:f≠ .next)(e:br cf gl s J Z=some (.ok (f,du),ak)):au cf gl (.cons s r) J Z=some (.ok (f,du),ak):=by
 show ay (br cf gl s J Z) (λf Z=>match f.1 with | .next=>au cf gl r f.2 Z | _=>av f Z)=_
 rw[e]
 cases f with
 |next=>exact absurd rfl h
 |_=>rfl
theorem iX{s:MS}{f:Fl}(e:br cf gl s J Z=some (.ok (f,du),ak)):au cf gl (.cons s .nil) J Z=some (.ok (f,du),ak):=by
 cases f with
 |next=>exact eX e
 |_=>exact eY nofun e
theorem tv{a:ME}{u:PV}(e:ai cf gl a J Z=some (.ok u,ak)):br cf gl (.ret a) J Z=some (.ok (.ret u,J),ak):=by
 show ay (ai cf gl a J Z) (λv Z=>av (Fl.ret v,J) Z)=_
 rw[e];rfl
theorem dX{i:Nat}{a:ME}{u:PV}(e:ai cf gl a J Z=some (.ok u,ak)):br cf gl (.aK i a) J Z=some (.ok (.next,cU J i u),ak):=by
 show ay (ai cf gl a J Z) (λv Z=>av (Fl.next,cU J i v) Z)=_
 rw[e];rfl
theorem fU{c:ME}{a b:bG}{u:PV}(e:ai cf gl c J Z=some (.ok u,ak)):br cf gl (.ba c a b) J Z=pick (truth ak u) (au cf gl a J ak) (au cf gl b J ak):=by
 show ay (ai cf gl c J Z) (λv Z=>pick (truth Z v) (au cf gl a J Z) (au cf gl b J Z))=_
 rw[e];rfl
theorem Fd{c:ME}{a b r:bG}{v:PV}{bk:af}{dP:aD}(e:ai cf gl c J Z=some (.ok (.bool true),ak))(k:au cf gl a J ak=some (.ok (.ret v,dP),bk)):au cf gl (.cons (.ba c a b) r) J Z=some (.ok (.ret v,dP),bk):=eY nofun ((fU e).trans k)
theorem j8{a:ME}{u:PV}(e:ai cf gl a J Z=some (.ok u,ak)):br cf gl (.expr a) J Z=some (.ok (.next,J),ak):=by
 show ay (ai cf gl a J Z) (λO Z=>av (Fl.next,J) Z)=_
 rw[e];rfl
theorem wk{s:MS}{r:bG}{x:Ex}(e:br cf gl s J Z=some (.error x,ak)):au cf gl (.cons s r) J Z=some (.error x,ak):=by
 show ay (br cf gl s J Z) (λf Z=>match f.1 with | .next=>au cf gl r f.2 Z | _=>av f Z)=_
 rw[e];rfl
theorem tw{α β:Type}{m:aF α}{k:α->af->aF β}{x:Ex}(e:m=some (.error x,ak)):ay m k=some (.error x,ak):=by rw[e];rfl
theorem lQ{a:ME}{it:MI}{c:fM}{s:Src}{en:Bool}{bk:af}{vs:List PV}(e:fO cf gl it J Z=some (.ok (s,en),ak))
  (h:cu (λx Z=>bp (dk cf gl c [some x] Z) λc Z=>pick (iz Z c) (bp (ai cf gl a [some x] Z) λy Z=>av (some y) Z) (av .none Z)) s en (ew ak s+1) 0 ak=some (.ok vs,bk)):ai cf gl (.comp a it c) J Z=some (.ok (.ref bk.length),bk++[.list vs]):=by
 show ay (fO cf gl it J Z) (λsrc Z=>bp (cu (λx Z=>bp (dk cf gl c [some x] Z) λc Z=>pick (iz Z c) (bp (ai cf gl a [some x] Z) λy Z=>av (some y) Z) (av .none Z)) src.1 src.2 (ew Z src.1+1) 0 Z) λvs Z=>some (.ok (PV.ref Z.length),Z++[.list vs]))=_
 rw[e]
 show bp (cu (λx Z=>bp (dk cf gl c [some x] Z) λc Z=>pick (iz Z c) (bp (ai cf gl a [some x] Z) λy Z=>av (some y) Z) (av .none Z)) s en (ew ak s+1) 0 ak) (λvs Z=>some (.ok (PV.ref Z.length),Z++[.list vs]))=_
 rw[h];rfl
theorem jq{a:ME}{v:PV}{s:Src}(e:ai cf gl a J Z=some (.ok v,ak))(h:srcOf ak v=some s):fO cf gl (.plain a) J Z=some (.ok (s,false),ak):=by
 show ay (ai cf gl a J Z) (λv Z=>read Z ((srcOf Z v).bind λs=>some (s,false)))=_
 rw[e]
 show read ak ((srcOf ak v).bind λs=>some (s,false))=_
 rw[h];rfl
theorem rP{a:ME}{n:Int}(e:ai cf gl a J Z=some (.ok (.int n),ak))(h:small n=true):fO cf gl (.gP a) J Z=some (.ok (.range 0 n.toNat,false),ak):=by
 show ay (ai cf gl a J Z) (λv Z=>read Z ((bL v).bind λn=>aJ (small n) (some (Src.range 0 n.toNat,false))))=_
 rw[e]
 show read ak (aJ (small n) (some (Src.range 0 n.toNat,false)))=_
 rw[h];rfl
theorem Oj{a b:ME}{m n:Int}(e:ai cf gl a J Z=some (.ok (.int m),Z))(e2:ai cf gl b J Z=some (.ok (.int n),ak))(h:small m=true)(h2:small n=true):fO cf gl (.dA a b) J Z=some (.ok (.range m (n-m).toNat,false),ak):=by
 show ay (ai cf gl a J Z) (λu Z=>ay (ai cf gl b J Z) λv Z=>read Z ((bL u).bind λm=>(bL v).bind λn=>aJ (small m) (aJ (small n) (some (Src.range m (n-m).toNat,false)))))=_
 rw[e]
 show ay (ai cf gl b J Z) (λv Z=>read Z ((bL v).bind λn=>aJ (small m) (aJ (small n) (some (Src.range m (n-m).toNat,false)))))=_
 rw[e2]
 show read ak (aJ (small m) (aJ (small n) (some (Src.range m (n-m).toNat,false))))=_
 rw[h,h2];rfl
theorem Fe{ks:List Int}{es:bZ}{vs:List PV}(h:bw cf gl es J Z=some (.ok vs,ak))(h1:iV ks=true)(h2:decide (vs.length=ks.length)=true):ai cf gl (.kN ks es) J Z=some (.ok (.ref ak.length),ak++[.dict .int ((ks.map Key.int).zip vs)]):=by
 show bp (bw cf gl es J Z) (λvs Z=>aJ (iV ks) (aJ (decide (vs.length=ks.length)) (some (.ok (PV.ref Z.length),Z++[.dict .int ((ks.map Key.int).zip vs)]))))=_
 rw[h]
 show aJ (iV ks) (aJ (decide (vs.length=ks.length)) _)=_
 rw[h1,h2];rfl
theorem o9{a:ME}{r:aF PV}(h:ai cf gl a J Z=r):ai cf gl (.and (.cons a .nil)) J Z=r:=h
theorem zK{a b:ME}{r:bZ}(ha:ai cf gl a J Z=some (.ok (.bool false),Z)):ai cf gl (.and (.cons a (.cons b r))) J Z=some (.ok (.bool false),Z):=by
 show ay (ai cf gl a J Z) (λv Z=>pick (truth Z v) (ai cf gl (.and (.cons b r)) J Z) (av v Z))=_
 rw[ha];rfl
theorem lR{a b:ME}{r:bZ}{x y:Bool}(ha:ai cf gl a J Z=some (.ok (.bool x),Z))(hb:ai cf gl (.and (.cons b r)) J Z=some (.ok (.bool y),Z)):ai cf gl (.and (.cons a (.cons b r))) J Z=some (.ok (.bool (x&&y)),Z):=by
 show ay (ai cf gl a J Z) (λv Z=>pick (truth Z v) (ai cf gl (.and (.cons b r)) J Z) (av v Z))=_
 rw[ha]
 show pick (some x) _ _=_
 cases x with
 |true=>exact hb
 |false=>rfl
theorem Ff{a:ME}{v:PV}{s:Src}(e:ai cf gl a J Z=some (.ok v,ak))(h:srcOf ak v=some s):fO cf gl (.enum a) J Z=some (.ok (s,true),ak):=by
 show ay (ai cf gl a J Z) (λv Z=>read Z ((srcOf Z v).bind λs=>some (s,true)))=_
 rw[e]
 show read ak ((srcOf ak v).bind λs=>some (s,true))=_
 rw[h];rfl
theorem jX{t:jh}{it:MI}{body:bG}{s:Src}{en:Bool}(e:fO cf gl it J Z=some (.ok (s,en),ak)):br cf gl (.bt t it body) J Z=forL (au cf gl body) t s en (ew ak s+1) 0 J ak:=by
 show ay (fO cf gl it J Z) (λsrc Z=>forL (au cf gl body) t src.1 src.2 (ew Z src.1+1) 0 J Z)=_
 rw[e];rfl
end
section
variable{f:aD->af->aF (Fl×aD)}{t:jh}{s:Src}{en:Bool}{n k:Nat}{J du dP:aD}{Z bk:af}{x:PV}{fl:Fl}
noncomputable def Pk(f:Fl)(J:aD)(Z:af)(o:aF (Fl×aD)):aF (Fl×aD):=match f with
 |.ret v=>some (.ok (.ret v,J),Z)
 |_=>o
theorem qB(h:cC Z k s=some none):forL f t s en (n+1) k J Z=some (.ok (.next,J),Z):=by
 show (match cC Z k s with | some x=>(match x with | some x=>(fe t (wrap en k x) J).bind λJ=>bp (f J Z) λr Z=>(match r.1 with | .ret v=>av (Fl.ret v,r.2) Z | _=>forL f t s en n (k+1) r.2 Z) | none=>av (Fl.next,J) Z) | none=>none)=_
 rw[h];rfl
theorem mI(h:cC Z k s=some (some x))(hb:fe t (wrap en k x) J=some du)(e:f du Z=some (.ok (fl,dP),bk)):forL f t s en (n+1) k J Z=Pk fl dP bk (forL f t s en n (k+1) dP bk):=by
 show (match cC Z k s with | some x=>(match x with | some x=>(fe t (wrap en k x) J).bind λJ=>bp (f J Z) λr Z=>(match r.1 with | .ret v=>av (Fl.ret v,r.2) Z | _=>forL f t s en n (k+1) r.2 Z) | none=>av (Fl.next,J) Z) | none=>none)=_
 rw[h]
 show ((fe t (wrap en k x) J).bind λJ=>bp (f J Z) λr Z=>match r.1 with | .ret v=>av (Fl.ret v,r.2) Z | _=>forL f t s en n (k+1) r.2 Z)=_
 rw[hb]
 show bp (f du Z) (λr Z=>match r.1 with | .ret v=>av (Fl.ret v,r.2) Z | _=>forL f t s en n (k+1) r.2 Z)=_
 rw[e]
 cases fl<;>rfl
end
theorem jr{f:PV->af->aF (Option PV)}{s:Src}{en:Bool}{n k:Nat}{Z:af}(h:cC Z k s=some none):cu f s en (n+1) k Z=some (.ok [],Z):=by
 show (match cC Z k s with | some x=>(match x with | some x=>aJ (decide (k<=65536)) (bp (f (wrap en k x) Z) λy Z=>(match y with | some y=>bp (cu f s en n (k+1) Z) λys Z=>av (y::ys) Z | none=>cu f s en n (k+1) Z)) | none=>av [] Z) | none=>none)=_
 rw[h];rfl
theorem nU{f:PV->af->aF (Option PV)}{s:Src}{en:Bool}{n k:Nat}{Z ak bk:af}{x y:PV}{ys:List PV}(h:cC Z k s=some (some x))(hk:k<=65536)(e:f (wrap en k x) Z=some (.ok (some y),ak))(e2:cu f s en n (k+1) ak=some (.ok ys,bk)):cu f s en (n+1) k Z=some (.ok (y::ys),bk):=by
 show (match cC Z k s with | some x=>(match x with | some x=>aJ (decide (k<=65536)) (bp (f (wrap en k x) Z) λy Z=>(match y with | some y=>bp (cu f s en n (k+1) Z) λys Z=>av (y::ys) Z | none=>cu f s en n (k+1) Z)) | none=>av [] Z) | none=>none)=_
 rw[h]
 show aJ (decide (k<=65536)) (bp (f (wrap en k x) Z) λy Z=>(match y with | some y=>bp (cu f s en n (k+1) Z) λys Z=>av (y::ys) Z | none=>cu f s en n (k+1) Z))=_
 rw[decide_eq_true hk,e]
 show bp (cu f s en n (k+1) ak) (λys Z=>av (y::ys) Z)=_
 rw[e2];rfl
theorem gz{Z:af}{i k:Nat}{l:List PV}(g:ar Z i=some (.list l)):cC Z k (.live i)=some (fN l k):=by
 show ((ar Z i).bind λo=>(c9 o).bind λl=>some (fN l k))=_
 rw[g];rfl
theorem fD{Z:af}{i:Nat}{l:List PV}(g:ar Z i=some (.list l)):ew Z (.live i)=l.length:=by
 show (match (ar Z i).bind c9 with | some l=>l.length | none=>0)=_
 rw[g];rfl
theorem y3{test:aD->af->aF PV}{body:aD->af->aF (Fl×aD)}{n:Nat}{J:aD}{Z ak:af}(e:test J Z=some (.ok (.bool false),ak)):ft test body (n+1) J Z=some (.ok (.next,J),ak):=by
 show bp (test J Z) (λv Z=>pick (truth Z v) (bp (body J Z) λr Z=>match r.1 with | .ret v=>av (Fl.ret v,r.2) Z | _=>ft test body n r.2 Z) (av (Fl.next,J) Z))=_
 rw[e];rfl
theorem CH{test:aD->af->aF PV}{body:aD->af->aF (Fl×aD)}{n:Nat}{J dP:aD}{Z ak bk:af}{f:Fl}(e:test J Z=some (.ok (.bool true),ak))(e2:body J ak=some (.ok (f,dP),bk)):ft test body (n+1) J Z=Pk f dP bk (ft test body n dP bk):=by
 show bp (test J Z) (λv Z=>pick (truth Z v) (bp (body J Z) λr Z=>match r.1 with | .ret v=>av (Fl.ret v,r.2) Z | _=>ft test body n r.2 Z) (av (Fl.next,J) Z))=_
 rw[e]
 show bp (body J ak) (λr Z=>match r.1 with | .ret v=>av (Fl.ret v,r.2) Z | _=>ft test body n r.2 Z)=_
 rw[e2]
 cases f<;>rfl
theorem AZ{f:PV->af->aF (Option PV)}{s:Src}{en:Bool}{n k:Nat}{Z ak:af}{x:PV}(h:cC Z k s=some (some x))(hk:k<=65536)(e:f (wrap en k x) Z=some (.ok none,ak)):cu f s en (n+1) k Z=cu f s en n (k+1) ak:=by
 show (match cC Z k s with | some x=>(match x with | some x=>aJ (decide (k<=65536)) (bp (f (wrap en k x) Z) λy Z=>(match y with | some y=>bp (cu f s en n (k+1) Z) λys Z=>av (y::ys) Z | none=>cu f s en n (k+1) Z)) | none=>av [] Z) | none=>none)=_
 rw[h]
 show aJ (decide (k<=65536)) (bp (f (wrap en k x) Z) λy Z=>(match y with | some y=>bp (cu f s en n (k+1) Z) λys Z=>av (y::ys) Z | none=>cu f s en n (k+1) Z))=_
 rw[decide_eq_true hk,e];rfl
noncomputable def outF(f:Fl)(Z:af):aF PV:=match f with
 |.ret v=>some (.ok v,Z)
 |.next=>some (.ok .none,Z)
 |.cont=>none
theorem nV{defs:Nat->Option bo}{gl:Nat->PV}{n i:Nat}{d:bo}{vs:List PV}{Z ag:af}{f:Fl}{aY:aD}(hd:defs i=some d)(hp:vs.length=d.params)
  (e:au (ax defs gl n) gl d.body (vs.map some++List.replicate (d.locals-d.params) none) Z=some (.ok (f,aY),ag)):ax defs gl (n+1) i vs Z=outF f ag:=by
 show ((defs i).bind λd=>vx (ax defs gl n) gl d vs Z)=_
 rw[hd]
 show aJ (decide (vs.length=d.params)) (back (au (ax defs gl n) gl d.body (vs.map some++List.replicate (d.locals-d.params) none) Z))=_
 rw[decide_eq_true hp,e]
 cases f<;>rfl
theorem y4{defs:Nat->Option bo}{gl:Nat->PV}{n i:Nat}{d:bo}{vs:List PV}{Z ag:af}(hd:defs i=some d)(hp:vs.length=d.params)
  (e:au (ax defs gl n) gl d.body (vs.map some++List.replicate (d.locals-d.params) none) Z=some (.error .fresh,ag)):ax defs gl (n+1) i vs Z=some (.error .iy,ag):=by
 show ((defs i).bind λd=>vx (ax defs gl n) gl d vs Z)=_
 rw[hd]
 show aJ (decide (vs.length=d.params)) (back (au (ax defs gl n) gl d.body (vs.map some++List.replicate (d.locals-d.params) none) Z))=_
 rw[decide_eq_true hp,e]
 rfl
section
variable{Z:af}{i m:Nat}
theorem zL{kk:KK}{es:List (Key×PV)}(g:ar Z i=some (.dict kk es)):dj m (.ref i) Z=Nat.ble m 1:=by
 show (match ar Z i with | some o=>(match o with | .dict _ _=>Nat.ble m 1 | .list _=>Nat.beq m 2 | .attrs _=>false) | .none=>false)=_
 rw[g]
theorem tA{l:List PV}(g:ar Z i=some (.list l)):dj m (.ref i) Z=Nat.beq m 2:=by
 show (match ar Z i with | some o=>(match o with | .dict _ _=>Nat.ble m 1 | .list _=>Nat.beq m 2 | .attrs _=>false) | .none=>false)=_
 rw[g]
theorem tB{c:Nat}{r:Option PV}(g:ar Z i=some (.attrs r)):dj m (.inst c i) Z=bif Nat.beq c 0 then Nat.beq m 3 else (Nat.beq c 1&&(Nat.beq m 3||(Nat.beq m 4||Nat.beq m 5))):=by
 show (match ar Z i with | some o=>(match o with | .attrs _=>bif Nat.beq c 0 then Nat.beq m 3 else (Nat.beq c 1&&(Nat.beq m 3||(Nat.beq m 4||Nat.beq m 5))) | _=>false) | .none=>false)=_
 rw[g]
theorem Kx{kk:KK}{es:List (Key×PV)}{k d:PV}{y:Key}(g:ar Z i=some (.dict kk es))(e:toKey kk k=some y):getM (.ref i) k d Z=some ((bj es y).getD d,Z):=by
 show ((ar Z i).bind λo=>(ji o).bind λq=>(toKey q.1 k).bind λk=>some ((bj q.2 k).getD d,Z))=_
 rw[g]
 show ((toKey kk k).bind λk=>some ((bj es k).getD d,Z))=_
 rw[e];rfl
theorem wm{l:List PV}{v:PV}(g:ar Z i=some (.list l))(hf:aS l=true):te (.ref i) v Z=some (.none,sset Z i (.list (l++[v]))):=by
 show ((ar Z i).bind λo=>(c9 o).bind λl=>aJ (aS l) (some (PV.none,sset Z i (.list (l++[v])))))=_
 rw[g]
 show aJ (aS l) _=_
 rw[hf];rfl
theorem zM{l:List PV}(g:ar Z i=some (.list l))(hf:aS l=true):truth Z (.ref i)=some (!l.isEmpty):=by
 show ((ar Z i).bind λo=>(c9 o).bind λl=>aJ (aS l) (some (!l.isEmpty)))=_
 rw[g]
 show aJ (aS l) _=_
 rw[hf];rfl
theorem nW{kk:KK}{es:List (Key×PV)}{k v:PV}{y:Key}(g:ar Z i=some (.dict kk es))(e:toKey kk k=some y)(hf:aS es=true):setItem (.ref i) k v Z=some (sset Z i (.dict kk (cn es y v))):=by
 show ((ar Z i).bind λo=>(ji o).bind λq=>(toKey q.1 k).bind λk=>aJ (aS q.2) (some (sset Z i (.dict q.1 (cn q.2 k v)))))=_
 rw[g]
 show ((toKey kk k).bind λk=>aJ (aS es) (some (sset Z i (.dict kk (cn es k v)))))=_
 rw[e]
 show aJ (aS es) _=_
 rw[hf];rfl
end
end FR
namespace FR
open PySem PySem.W PySem.Calls PyProof.Rows
section
variable{c:Cx}{J aY:aD}{Z ag:af}{P P' az:Pt}{F X W:List Addr}{a:Addr}{o:Obj}{h':Heap}{t i:Nat}{m m₀:MO}
theorem iQ.sub(k:Sub P.s.heap h'):iQ F X P (P.at P.Y h' t):=⟨⟨[],(List.append_nil _).symm⟩,λO O e n O O=>⟨n,k _ _ e⟩,λO O O O n=>n.keeps k,λO O n=>n,rfl⟩
theorem Inv.sub(I:Inv c J Z P)(k:Sub P.s.heap h'):Inv c J Z (P.at P.Y h' t)/\To c P (P.at P.Y h' t):=I.under (.sub k) (I.so.keeps k)
theorem Inv.push(I:Inv c J Z P)(k:Sub P.s.heap h')(hn:P.s.heap.get? a=none)(M:MR c.toBs h' (P.Y++[a]) a m):Inv c J (Z++[m]) (P.at (P.Y++[a]) h' t)/\To c P (P.at (P.Y++[a]) h' t):=
 let n:=I.new hn
 have ne:∀b,b∉P.Y->b≠a->b∉P.Y++[a]:=λb x y z=>(List.mem_append.mp z).elim x λz=>y (c_ z)
 I.under ⟨⟨[a],rfl⟩,λb o e x O O=>⟨ne b x λq=>aQ hn (q▸e),k _ _ e⟩,λO O O O n=>n.keeps k,λb x y=>ne b y λq=>x.elim (λx=>n.2.2.1 (q▸x)) nofun,rfl⟩ ((I.so.keeps k).add n.2.1 n.1 M)
theorem Inv.set(I:Inv c J Z P)(q:ar Z i=some m₀)(e:P.Y[i]? =some a)(hs:Heap.SameBut a P.s.heap h')(M:MR c.toBs h' P.Y a m):Inv c J (sset Z i m) (P.at P.Y h' t)/\To c P (P.at P.Y h' t):=
 have ha:=List.mem_of_getElem? e
 I.under ⟨⟨[],(List.append_nil _).symm⟩,λb o e x O O=>⟨x,(hs.2 b λq=>x (q▸ha)).trans e⟩,λb x O O n=>Ns.at n λo e=>(hs.2 b λq=>(I.sep _ ha).1 (q▸x)).trans e,λO O n=>n,rfl⟩ (I.so.set q e hs M)
theorem Inv.write(I:Inv c J Z P)(S:cM c.toBs ag P.Y h')(kp:∀a o,P.s.heap.get? a=some o->a∉P.Y->a≠c.L->h'.get? a=some o)
  (N:∃m,h'.Ns c.L m/\∀(i:Nat) x p,c.locs[i]? =some x->bD aY i=some p->∃v,m x=some v/\VR c.toBs h' P.Y p v):Inv c aY ag (P.at P.Y h' t)/\To c P (P.at P.Y h' t):=by
 have kn:∀a∈c.F,a≠c.L->∀m,P.s.heap.Ns a m->h'.Ns a m:=λa x y m n=>Ns.at n λo e=>kp a o e (λz=>(I.sep a z).1 x) y
 refine⟨⟨S,λa o e=>kp a o (I.kc a o e) (λm=>aQ (I.so.fresh a m) e) λq=>aQ c.lf (q▸e),I.sep,λa x=> ?_,N⟩,⟨[],(List.append_nil _).symm⟩,λa o e x O z=>⟨x,kp a o e x λq=>z (List.mem_singleton.mpr q)⟩,λa x y=>kn a x λq=>y (List.mem_singleton.mpr q),λO O n=>n,rfl⟩
 by_cases q:a=c.L
 ·exact q▸N.imp λO=>And.left
 ·exact(I.ns a x).imp (kn a x q)
structure iY(c:Cx)(az:Pt)(a:Addr):Prop where
 n:az.s.heap.get? a=none
 h:c.hc.get? a=none
 f:a∉c.F
 l:a≠c.L
theorem Inv.free(I:Inv c J Z P)(e:P.s.heap.get? a=none):iY c P a:=let n:=I.new e;⟨e,n.1,n.2.2.1,n.2.2.2⟩
theorem Inv.foreign(I:Inv c J Z P)(A:To c az P)(hn:∀a∈W,iY c az a)(hm:∀a∈W,a∉P.Y)(hs:∀a∈W,∀o,P.s.heap.get? a=some o->¬ez o)
  (kp:∀a o,a∉W->P.s.heap.get? a=some o->h'.get? a=some o):Inv c J Z (P.at P.Y h' t)/\To c az (P.at P.Y h' t)/\Later P.s.heap P.Y h' P.Y:=by
 have la:∀a o,P.s.heap.get? a=some o->ez o->h'.get? a=some o:=λa o e s=>kp a o (λw=>hs a w o e s) e
 have nw:∀a o,az.s.heap.get? a=some o->a∉W:=λa o e w=>aQ (hn a w).n e
 have kn:∀a,a∉W->∀m,P.s.heap.Ns a m->h'.Ns a m:=λa w m n=>Ns.at n λo e=>kp a o w e
 have Pm:Later P.s.heap P.Y h' P.Y:=⟨la,[],(List.append_nil _).symm⟩
 refine⟨⟨I.so.move la λa m o e=>kp a o (λw=>hm a w m) e,λa o e=>kp a o (λw=>aQ (hn a w).h e) (I.kc a o e),I.sep,λa x=>(I.ns a x).imp (kn a λw=>(hn a w).f x),I.aa.imp λm=>And.imp (kn _ (λw=>(hn _ w).l rfl) m) λhl i x p hx hp=>(hl i x p hx hp).imp λv=>And.imp_right (VR.bc Pm)⟩,
  ⟨A.pre,λa o e x y z=>let q:=A.keep a o e x y z;⟨q.1,kp a o (nw a o e) q.2⟩,λa x y m n=>kn a (λw=>(hn a w).f x) m (A.ns a x y m n),A.off,congrArg (λs:Shared=>{s with heap:=h',toks:=t}) A.same⟩,Pm⟩
end
inductive pa(c:Cx)(X:List Addr)(ag:af)(P:Pt):Value->Shared->Prop
 |mk (e:Addr) (gF:List Addr) (hb h':Heap) (t':Nat) (a0:Value) (fl:Heap.FlyingW hb c.fr e (.ref (b9 2)) a0 h') (so:cM c.toBs ag gF hb) (pre:∃ν,gF=P.Y++ν)
  (keep:∀a o,P.s.heap.get? a=some o->a∉P.Y->a∉c.F->a∉X->a∉gF/\hb.get? a=some o) (ns:∀a∈c.F,a∉X->∀m,P.s.heap.Ns a m->h'.Ns a m) (off:∀a,a∈c.F\/a∈X->a∉P.Y->a∉gF):
  pa c X ag P (.ref e) {P.s with heap:=h',toks:=t'}
inductive pb(c:Cx)(ag:af)(P:Pt):Value->Shared->Prop
 |mk (e:Addr) (oe:Obj) (vs:Array Value) (a0:Value) (P':Pt) (g1:P'.s.heap.get? e=some oe) (g2:oe.cls=.ref (b9 2)) (g3:oe.data=.fields vs) (g4:vs[1]? =some .none) (g5:vs[0]? =some a0)
  (A:To c P P') (I:Inv c [] ag P') (g6:∀o,P.s.heap.get? e=some o->e∈P.Y\/e∈c.F\/e∈[c.L]):pb c ag P (.ref e) P'.s
noncomputable def zN(c:Cx)(E:Value->Shared->Prop)(P:Pt)(ag:af):Ex->Prop
 |.iy=>∀x s',pa c [c.L] ag P x s'->E x s'
 |.fresh=>∀x s',pb c ag P x s'->E x s'
structure fv(c:Cx)(β:Type) where
 k:β->af->Pt->Prop
 up:∀b Z P P',To c P P'->k b Z P->k b Z P'
noncomputable def Fo{c:Cx}{β:Type}(E:Value->Shared->Prop)(K:fv c β)(P:Pt):aF β->Prop
 |none=>False
 |some r=>match r.1 with
  |.ok b=>K.k b r.2 P
  |.error e=>zN c E P r.2 e
noncomputable def bT(c:Cx)(J:aD){α β:Type}(R:Pt->β->α->Prop)(Q:α->Shared->Prop):fv c β where
 k b Z P:=∀P' a,To c P P'->Inv c J Z P'->R P' b a->Q a P'.s
 up _ _ _ _ A h P' a B:=h P' a (A.trans B)
section
variable{c:Cx}{α β γ:Type}{E:Value->Shared->Prop}{J:aD}{Z ag:af}{P P':Pt}{K:fv c β}{G:fv c γ}{m:aF α}{R:Pt->α->γ->Prop}{t:Nat}
theorem pa.trans{x:Value}{s':Shared}(A:To c P P')(y:pa c [c.L] ag P' x s'):pa c [c.L] ag P x s':=by
 obtain ⟨e,gF,hb,h',t',a0,fl,so,pre,keep,ns,off⟩:=y
 rw[A.same]
 exact⟨e,gF,hb,h',t',a0,fl,so,A.pre.elim λν e=>pre.elim λCE e'=>⟨ν++CE,by rw[e',e,List.append_assoc]⟩,λa o e x y z=>let q:=A.keep a o e x y z;keep a o q.2 q.1 y z,λa x y m n=>ns a x y m (A.ns a x y m n),λa x n=>off a x (A.off a x n)⟩
theorem pb.trans{x:Value}{s':Shared}(A:To c P P')(y:pb c ag P' x s'):pb c ag P x s':=by
 obtain ⟨e,oe,vs,a0,ud,g1,g2,g3,g4,g5,B,I,g6⟩:=y
 refine⟨e,oe,vs,a0,ud,g1,g2,g3,g4,g5,A.trans B,I,λo q=> ?_⟩
 by_cases h:e∈P.Y\/e∈c.F\/e∈[c.L]
 ·exact h
 ·have h:=not_or.mp h
  have k:=A.keep e o q h.1 (λz=>h.2 (.inl z)) λz=>h.2 (.inr z)
  exact .inr ((g6 o k.2).resolve_left k.1)
theorem zN.up{e:Ex}(A:To c P P')(h:zN c E P ag e):zN c E P' ag e:=by
 cases e with
 |iy=>exact λx s' y=>h x s' (y.trans A)
 |fresh=>exact λx s' y=>h x s' (y.trans A)
theorem Fo.up{o:aF β}(A:To c P P')(F:Fo E K P o):Fo E K P' o:=by
 cases o with
 |none=>exact F
 |some r=>
  obtain ⟨r,ag⟩:=r
  cases r with
  |ok b=>exact K.up b ag P P' A F
  |error e=>exact zN.up A F
theorem Fo.bind{m:aF γ}{k:γ->af->aF β}(F:Fo E K P (ay m k))(h:∀b ag,Fo E K P (k b ag)->G.k b ag P):Fo E G P m:=by
 cases m with
 |none=>exact F
 |some r=>
  obtain ⟨r,ag⟩:=r
  cases r with
  |ok b=>exact h b ag F
  |error e=>exact F
theorem Fo.bp{c':Cx}{G:fv c' γ}{m:aF γ}{k:γ->af->aF β}(F:Fo E K P (bp m k))(h:∀b ag,Fo E K P (k b ag)->G.k b ag P'){E':Value->Shared->Prop}:Fo E' G P' m:=by
 cases m with
 |none=>exact F
 |some r=>
  obtain ⟨r,ag⟩:=r
  cases r with
  |ok b=>exact h b ag F
  |error e=>exact F.elim
theorem Fo.ay{R:Pt->γ->α->Prop}{Q:α->Shared->Prop}{m:aF γ}{k:γ->af->aF β}(F:Fo E K P (ay m k))(h:∀b ag P' a,To c P P'->Inv c J ag P'->R P' b a->Fo E K P' (k b ag)->Q a P'.s):Fo E (bT c J R Q) P m:=
 F.bind λb ag F P' a A I r=>h b ag P' a A I r (F.up A)
variable{Q:α->Shared->Prop}{R:Pt->β->α->Prop}{b:β}{a:α}{o:Option β}{h':Heap}{d:MO}{ad:Addr}
theorem Fo.ok(F:Fo E (bT c J R Q) P (some (.ok b,ag)))(x:Inv c J ag P'/\To c P P')(r:R P' b a):Q a P'.s:=F P' a x.2 x.1 r
theorem Fo.here(F:Fo E (bT c J R Q) P (some (.ok b,Z)))(I:Inv c J Z P)(r:R (P.tok t) b a):Q a {P.s with toks:=t}:=F.ok (P':=P.tok t) (I.sub λO O e=>e) r
theorem Fo.same(F:Fo E (bT c J R Q) P (some (.ok b,Z)))(I:Inv c J Z P)(r:R P b a):Q a P.s:=F P a .refl I r
variable{η:Type}{M:Prop}{q:Bool}
theorem Fo.om{o:aF β}(F:Fo E K P (aJ q o)):q=true/\Fo E K P o:=by
 cases q with
 |true=>exact⟨rfl,F⟩
 |false=>exact F.elim
theorem Fo.lm{o:Option (β×af)}(F:Fo E K P (lift (aJ q o))):q=true/\Fo E K P (lift o):=by
 cases q with
 |true=>exact⟨rfl,F⟩
 |false=>exact F.elim
theorem Fo.rm{o:Option β}(F:Fo E K P (read Z (aJ q o))):q=true/\Fo E K P (read Z o):=by
 cases q with
 |true=>exact⟨rfl,F⟩
 |false=>exact F.elim
theorem Fo.ob{o:Option η}{f:η->aF β}(F:Fo E K P (o.bind f))(h:∀a,o=some a->Fo E K P (f a)->M):M:=by
 cases o with
 |none=>exact F.elim
 |some a=>exact h a rfl F
theorem Fo.lb{o:Option η}{f:η->Option (β×af)}(F:Fo E K P (lift (o.bind f)))(h:∀a,o=some a->Fo E K P (lift (f a))->M):M:=by
 cases o with
 |none=>exact F.elim
 |some a=>exact h a rfl F
theorem Fo.rb{o:Option η}{f:η->Option β}(F:Fo E K P (read Z (o.bind f)))(h:∀a,o=some a->Fo E K P (read Z (f a))->M):M:=by
 cases o with
 |none=>exact F.elim
 |some a=>exact h a rfl F
theorem Fo.rd{o:Option β}(F:Fo E K P (read Z o))(h:∀a,o=some a->Fo E K P (some (.ok a,Z))->M):M:=by
 cases o with
 |none=>exact F.elim
 |some a=>exact h a rfl F
theorem bm{o:Option η}{f:η->Option β}{b:β}(e:o.bind f=some b)(h:∀a,o=some a->f a=some b->M):M:=by
 cases o with
 |none=>exact nomatch e
 |some a=>exact h a rfl e
theorem mm{o:Option β}{b:β}(e:aJ q o=some b):q=true/\o=some b:=by
 cases q with
 |true=>exact⟨rfl,e⟩
 |false=>exact nomatch e
end
noncomputable abbrev Cx.W(c:Cx)(A:Around){α:Type}(m:Sem α)(Q:α->Shared->Prop)(E:Value->Shared->Prop)(s:Shared):Prop:=wpAny (model c.prog c.w) A m Q E s
structure rQ(c:Cx)(A:Around)(env:Env)(n k:Nat):Prop where
 kf:env.scope.kind=.function
 gl:env.globals=3
 bi:env.builtins=0
 lo:env.locals=c.L
 kl:∀(i:Nat)(x:Str),c.locs[i]? =some x->env.kindOf x=some .local
 nd:c.locs.Nodup
 fr:A.frames=some c.fr
 hn:A.handled=none
 dp:A.depth+8*n+k<=704
 hu:A.units+16*n+k<=3008
structure Tops(b:Bs) where
 mg:Str->Option Value
 mb:Str->Option Value
 ng:b.hc.Ns 3 mg
 nb:b.hc.Ns 0 mb
structure Gx where
 c:Cx
 A:Around
 env:Env
 cf:Nat->List PV->af->aF PV
 gl:Nat->PV
 n:Nat
 k:Nat
 T:Tops c.toBs
 iw:rQ c A env n k
theorem Gx.hu(G:Gx):G.A.units<=3900:=bJ (bJ (Nat.le_add_right _ _) (bJ (Nat.le_add_right _ _) G.iw.hu)) (by decide)
noncomputable def aT(G:Gx)(e:PySem.Expr)(m:ME):Prop:=∀(J:aD)(Z:af)(P:Pt)(Q:Value->Shared->Prop)(E:Value->Shared->Prop),
 Inv G.c J Z P->Fo E (bT G.c J (Vl G.c) Q) P (ai G.cf G.gl m J Z)->G.c.W G.A (eval e G.env) Q E P.s
noncomputable def jN(m:aF PV):aF Bool:=ay m λv Z=>read Z (truth Z v)
noncomputable def dK(G:Gx)(e:PySem.Expr)(m:ME):Prop:=∀(J:aD)(Z:af)(P:Pt)(Q:Bool->Shared->Prop)(E:Value->Shared->Prop),
 Inv G.c J Z P->Fo E (bT G.c J (λO=>Eq) Q) P (jN (ai G.cf G.gl m J Z))->G.c.W G.A (isTrue e G.env (eval e G.env)) Q E P.s
noncomputable def pd(G:Gx)(es:List (Bool×Sem Value))(ms:bZ):Prop:=∀(J:aD)(Z:af)(P:Pt)(Q:List Value->Shared->Prop)(E:Value->Shared->Prop),
 Inv G.c J Z P->Fo E (bT G.c J (cy G.c) Q) P (bw G.cf G.gl ms J Z)->G.c.W G.A (spliced es) Q E P.s
section
variable{G:Gx}{J:aD}{Z:af}{P:Pt}{E:Value->Shared->Prop}{β:Type}{K:fv G.c β}
theorem aT.go{e:PySem.Expr}{m:ME}(S:aT G e m){Q:Value->Shared->Prop}{k:PV->af->aF β}(I:Inv G.c J Z P)(F:Fo E K P (ay (ai G.cf G.gl m J Z) k))
  (h:∀p ag P' v,To G.c P P'->Inv G.c J ag P'->Vl G.c P' p v->Fo E K P' (k p ag)->Q v P'.s):G.c.W G.A (eval e G.env) Q E P.s:=S J Z P Q E I (F.ay h)
theorem pd.go{es:List (Bool×Sem Value)}{ms:bZ}(S:pd G es ms){Q:List Value->Shared->Prop}{k:List PV->af->aF β}(I:Inv G.c J Z P)(F:Fo E K P (ay (bw G.cf G.gl ms J Z) k))
  (h:∀p ag P' v,To G.c P P'->Inv G.c J ag P'->cy G.c P' p v->Fo E K P' (k p ag)->Q v P'.s):G.c.W G.A (spliced es) Q E P.s:=S J Z P Q E I (F.ay h)
theorem CI:pd G [] .nil:=λO O O O O I F=>spliced_nil (F.same I aH.nil)
theorem A0{e:PySem.Expr}{m:ME}{es:List (Bool×Sem Value)}{ms:bZ}(a:aT G e m)(b:pd G es ms):pd G ((false,eval e G.env)::es) (.cons m ms):=
 λO O O O O I F=>spliced_cons (a.go I F λO O O O O aN Fg aW=>b.go aN aW λO O O O cY bU Fh bY=>bY.same bU (aH.cons (Fg.to aN cY) Fh))
end
end FR
namespace FR
open PySem PySem.W PySem.Calls PyProof.Rows PySem.SeqAt
noncomputable def zO:pV->Operator
 |.add=>.Add | .sub=>.Sub | .mul=>.Mult | .mod=>.Mod | .fdiv=>.FloorDiv | .band=>.BitAnd | .bor=>.BitOr | .shl=>.LShift | .shr=>.RShift
noncomputable def wo:Cm->CmpOp
 |.eq=>.Eq | .ne=>.NotEq | .lt=>.Lt | .le=>.LtE | .gt=>.Gt | .ge=>.GtE | .isin=>.In | .fK=>.NotIn | .is=>.Is
theorem dT{n:Nat}(h:n<=65537):n<=sizeLine:=bJ h (by decide)
theorem eO{α:Type}{l:List α}(h:aS l=true):l.length<=65536:=bV h
theorem aB{a b:Bool}(h:(a&&b)=true):a=true/\b=true:=⟨(b_ h).1,(b_ h).2⟩
structure Small(i:Int):Prop where
 lo: -(2 ^ 63)<=i
 hi:i<2 ^ 63
 bits:Builtin.Int.intBits i<=64
 abs:i.natAbs<2 ^ 64
 Ky: -(2 ^ 62)<i
 Kz:i<2 ^ 62
theorem dM{i:Int}(h:small i=true):Small i:=by
 have h:=aB h
 have a:=bV h.1
 have b:=bV h.2
 exact⟨by omega,by omega,intBits_le_64 (by omega) (by omega),by omega,by omega,by omega⟩
theorem fV{y:PV}{j:Int}(e:bL y=some j):y=.int j:=by
 cases y with
 |int _=>exact congrArg _ (Option.some.inj e)
 |_=>exact(aQ rfl e).elim
theorem eA{y:PV}{l:List PV}(e:dD y=some l):y=.ah l:=by
 cases y with
 |ah _=>exact congrArg _ (Option.some.inj e)
 |_=>exact(aQ rfl e).elim
theorem nX{y:PV}{l:List Nat}(e:vp y=some l):y=.str l:=by
 cases y with
 |str _=>exact congrArg _ (Option.some.inj e)
 |_=>exact(aQ rfl e).elim
theorem kT{y:PV}{l:Nat}(e:o8 y=some l):y=.ref l:=by
 cases y with
 |ref _=>exact congrArg _ (Option.some.inj e)
 |_=>exact(aQ rfl e).elim
theorem rR{y:PV}{u:Unit}(e:lH y=some u):y=.none:=by
 cases y with
 |none=>rfl
 |_=>exact(aQ rfl e).elim
theorem rS{y:PV}{q:Nat×Nat}(e:vQ y=some q):y=.inst q.1 q.2:=by
 cases y with
 |inst _ _=>exact congrArg (λq:Nat×Nat=>PV.inst q.1 q.2) (Option.some.inj e)
 |_=>exact(aQ rfl e).elim
theorem gA{o:MO}{l:List PV}(e:c9 o=some l):o=.list l:=by
 cases o with
 |list _=>exact congrArg _ (Option.some.inj e)
 |_=>exact(aQ rfl e).elim
theorem mJ{o:MO}{q:KK×List (Key×PV)}(e:ji o=some q):o=.dict q.1 q.2:=by
 cases o with
 |dict _ _=>exact congrArg (λq:KK×List (Key×PV)=>MO.dict q.1 q.2) (Option.some.inj e)
 |_=>exact(aQ rfl e).elim
theorem pZ{o:MO}{r:Option PV}(e:lI o=some r):o=.attrs r:=by
 cases o with
 |attrs _=>exact congrArg _ (Option.some.inj e)
 |_=>exact(aQ rfl e).elim
theorem wq{k:KK}{u:Unit}(e:intD k=some u):k=.int:=by
 cases k<;>first | rfl | cases e
section
variable{c:Cx}{A:Around}{E:Value->Shared->Prop}{J:aD}{Z ag:af}{P:Pt}{va vb v:Value}{x y p:PV}{Q:Value->Shared->Prop}{M:Value->Prop}{l:List PV}{i:Nat}{o:MO}
@[elab_as_elim] theorem Vl.int{j:Int}(e:bL y=some j)(W:Vl c P y v)(k:∀t,M (.int j t)):M v:=by cases fV e;exact VR.jF W k
@[elab_as_elim] theorem Vl.str{j:List Nat}(e:vp y=some j)(W:Vl c P y v)(k:∀t,M (.str ⟨j.toArray⟩ t)):M v:=by cases nX e;exact VR.th W k
@[elab_as_elim] theorem Vl.ah(e:dD y=some l)(W:Vl c P y v)(k:∀a xs n,P.s.heap.get? a=some (mB xs n)->cy c P l xs.toList->M (.ref a)):M v:=by cases eA e;exact VR.eF W k
@[elab_as_elim] theorem Vl.ref(I:Inv c J Z P)(W:Vl c P (.ref i) v)(e:ar Z i=some o)(k:∀a,P.Y[i]? =some a->MR c.toBs P.s.heap P.Y a o->M (.ref a)):M v:=VR.E9 W λa ea=>k a ea (I.so.at e ea)
theorem A1(e:listOf Z y=some l):∃i,y=.ref i/\ar Z i=some (.list l):=by
 cases y with
 |ref i=>exact bm e λo q e=>⟨i,rfl,q.trans (congrArg _ (gA e))⟩
 |_=>cases e
@[elab_as_elim] theorem Vl.list(e:listOf Z y=some l)(I:Inv c J Z P)(W:Vl c P y v)(k:∀a xs n,P.s.heap.get? a=some (gW xs n)->cy c P l xs.toList->M (.ref a)):M v:=
by
 obtain ⟨i,rfl,q⟩:=A1 e
 exact Vl.ref I W q λa O m=>m.elim λxs m=>m.elim λn m=>k a xs n m.1 m.2
theorem cy.size{xs:Array Value}(V:cy c P l xs.toList):xs.size=l.length:=V.length
theorem tC(I:Inv c J Z P){vs:List Value}(V:cy c P l vs)(F:Fo E (bT c J (Vl c) Q) P (some (.ok (.ah l),Z))){t:Tok}:
  Q (.ref P.s.heap.objs.size) {P.s with heap:=P.s.heap.push {cls:=.type "tuple",data:=.seq vs.toArray},toks:=t}:=
 have k:Sub P.s.heap (P.s.heap.push {cls:=.type "tuple",data:=.seq vs.toArray}):=λO O e=>Heap.get?_push_of_some _ e
 F.ok (I.sub k (t:=t)) (VR.qq (xs:=vs.toArray) (n:=0) (Heap.get?_push_size _ rfl) (aH.bc (.sub k) V))
theorem cz(h:Heap):h.get? h.objs.size=none:=Heap.get?_none_of_le (Nat.le_refl _)
theorem nY(I:Inv c J Z P){a:Addr}:(P.Y++[a])[Z.length]? =some a:=by rw[<-I.so.ml];exact List.getElem?_concat_length
theorem qC(I:Inv c J Z P){vs:List Value}(V:cy c P l vs)(F:Fo E (bT c J (Vl c) Q) P (some (.ok (.ref Z.length),Z++[.list l]))){t:Tok}:
  Q (.ref P.s.heap.objs.size) {P.s with heap:=P.s.heap.push {cls:=.type "list",data:=.seq vs.toArray},toks:=t}:=
 have k:Sub P.s.heap (P.s.heap.push {cls:=.type "list",data:=.seq vs.toArray}):=λO O e=>Heap.get?_push_of_some _ e
 F.ok (I.push k (cz _) ⟨vs.toArray,0,Heap.get?_push_size _ rfl,aH.bc (.lM k _) V⟩ (t:=t)) (VR.mD (nY I))
theorem Fo.gR{β η:Type}{K:fv c β}{q:Bool}{o:Option η}{f:η->Option (β×af)}(F:Fo E K P (lift ((aJ q o).bind f))):q=true/\Fo E K P (lift (o.bind f)):=by
 cases q with
 |true=>exact⟨rfl,F⟩
 |false=>exact F.elim
theorem IL{o:pV}{i j:Int}{t u:Tok}(I:Inv c J Z P)(F:Fo E (bT c J (Vl c) Q) P (lift ((gQ o i j).bind λz=>some (.int z,Z)))):c.W A (binaryOp (zO o) (.int i t) (.int j u)) Q E P.s:=by
 have ok:∀{z:Int}{t t':Tok},Fo E (bT c J (Vl c) Q) P (some (.ok (.int z),Z))->Q (.int z t) {P.s with toks:=t'}:=λF=>F.here I (VR.mC _ _)
 cases o with
 |add=>exact add_int (ok F)
 |sub=>exact sub_int (ok F)
 |mul=>exact mul_int (ok (Fo.gR F).2) (.of_left (dM (Fo.gR F).1).bits)
 |mod=>exact mod_int' (bV (Fo.gR F).1) (ok (Fo.gR F).2)
 |fdiv=>exact floordiv_int (bV (Fo.gR F).1) (ok (Fo.gR (Fo.gR F).2).2) (.inl (PyProof.noPylong_small (bV (Fo.gR (Fo.gR F).2).1)))
 |band=>exact and_int (ok F)
 |bor=>exact or_int (ok F)
 |shl=>exact lshift_int_small (bV (Fo.gR (Fo.gR F).2).1) (Int.le_trans (bV (Fo.gR (Fo.gR (Fo.gR F).2).2).1) (by decide)) (dM (Fo.gR F).1).abs (ok (Fo.gR (Fo.gR (Fo.gR F).2).2).2)
 |shr=>exact rshift_int (bV (Fo.gR F).1) (ok (Fo.gR (Fo.gR F).2).2)
theorem IP{l k:List PV}(I:Inv c J Z P)(V:Vl c P (.ah l) va)(W:Vl c P (.ah k) vb)(hf:aS (l++k)=true)(F:Fo E (bT c J (Vl c) Q) P (some (.ok (.ah (l++k)),Z))):
  c.W A (binaryOp .Add va vb) Q E P.s:=by
 revert V W
 refine λV=>VR.eF (M:=λva=>Vl c P (.ah k) vb->c.W A (binaryOp .Add va vb) Q E P.s) V λt xs n ho V0=>λW=>VR.eF (M:=λvb=>c.W A (binaryOp .Add (.ref t) vb) Q E P.s) W λb ys n2 ui W0=> ?_
 have eZ:xs.size+ys.size<=sizeLine:=dT (by rw[cy.size V0,cy.size W0,<-List.length_append];exact Nat.le_succ_of_le (eO hf))
 have go:=λ{S} g h=>concat_meets (prog:=c.prog) (w:=c.w) (A:=A) (s:=P.s) (a:=.ref t) (b:=.ref b) (T:="tuple") (Q:=Q) (E:=E) (S:=S) ⟨_,ho,rfl⟩ ⟨_,ui,rfl⟩ noFill_tuple_add seq_tuple_add PySem.F.slot_tuple_add PySem.F.entry_tuple_add (PySem.F.args_tuple_add_2 _ _) g h
 have uj:∀{zs:Array Value},zs.toList=[]->zs.isEmpty=true:=λe=>Array.isEmpty_iff.mpr (Array.toList_eq_nil_iff.mp e)
 have nE:∀{zs:Array Value},zs.toList≠[]->¬zs.isEmpty=true:=λe h=>e (Array.toList_eq_nil_iff.mpr (Array.isEmpty_iff.mp h))
 by_cases hv:xs.toList=[]
 ·refine go (tuple_addW0 t b xs ys n n2 none none #[] #[] (uj hv)) ⟨ho,ui,F.same I ?_⟩
  rw[List.eq_nil_of_length_eq_zero ((aH.length V0).symm.trans (congrArg List.length hv))]
  exact VR.qq ui W0
 ·by_cases hw:ys.toList=[]
  ·refine go (tuple_addW1 t b xs ys n n2 none none #[] #[] (nE hv) (uj hw)) ⟨ho,ui,F.same I ?_⟩
   rw[List.eq_nil_of_length_eq_zero ((aH.length W0).symm.trans (congrArg List.length hw)),List.append_nil]
   exact VR.qq ho V0
  ·refine go (tuple_addW2 t b xs ys n n2 none none #[] #[] (nE hv) (nE hw) eZ) ⟨ho,ui,?_⟩
   rw[<-Array.toArray_toList (xs:=xs++ys),Array.toList_append]
   exact tC I (aH.append V0 W0) F (t:=P.s.toks)
theorem Fi{l k:List PV}(I:Inv c J Z P)(V:Vl c P x va)(W:Vl c P y vb)(hi:listOf Z x=some l)(hj:listOf Z y=some k)(hf:aS (l++k)=true)(F:Fo E (bT c J (Vl c) Q) P (some (.ok (.ref Z.length),Z++[.list (l++k)]))):
  c.W A (binaryOp .Add va vb) Q E P.s:=by
 refine Vl.list (M:=λva=>c.W A (binaryOp .Add va vb) Q E P.s) hi I V λt xs n ho V=>Vl.list (M:=λvb=>c.W A (binaryOp .Add (.ref t) vb) Q E P.s) hj I W λb ys n2 ui W=> ?_
 have eZ:xs.size+ys.size<=sizeLine:=dT (by rw[V.size,W.size,<-List.length_append];exact Nat.le_succ_of_le (eO hf))
 refine concat_meets ⟨_,ho,rfl⟩ ⟨_,ui,rfl⟩ noFill_list_add seq_list_add PySem.F.slot_list_add PySem.F.entry_list_add (PySem.F.args_list_add_2 _ _) (list_addW t b xs ys n n2 none none #[] #[] eZ) ⟨ho,ui,?_⟩
 rw[<-Array.toArray_toList (xs:=xs++ys),Array.toList_append]
 exact qC I (aH.append V W) F (t:=P.s.toks)
theorem CJ{o:pV}(I:Inv c J Z P)(V:Vl c P x va)(W:Vl c P y vb)(F:Fo E (bT c J (Vl c) Q) P (lift (binop o x y Z))):c.W A (binaryOp (zO o) va vb) Q E P.s:=by
 cases x with
 |int i=>exact F.lb λj e F=>Vl.int (M:=λvb=>c.W A (binaryOp (zO o) va vb) Q E P.s) e W λu=>VR.jF (M:=λva=>c.W A (binaryOp (zO o) va (.int j u)) Q E P.s) V λt=>IL I F
 |ah l=>
  have F:=F.lm
  cases bV F.1
  exact F.2.lb λk e F=>IP I V (eA e▸W) F.lm.1 F.lm.2
 |ref i=>
  have F:=F.lm
  cases bV F.1
  exact F.2.lb λl e1 F=>F.lb λk e2 F=>Fi I V W e1 e2 F.lm.1 F.lm.2
 |_=>exact F.elim
end
noncomputable def Lk(b:Bs)(h:Heap)(Y:List Addr)(o:Option PV)(q:Option Value):Prop:=match o with
 |some p=>∃v,q=some v/\VR b h Y p v
 |none=>q=none
section
variable{b:Bs}{h:Heap}{Y:List Addr}{p:PV}{v:Value}{k:Int}{es:List (Key×PV)}{aX:List (Int×Value)}{xs:List (List K1×Addr×Value)}{l:List K1}{vs:List PV}{ws:List Value}{o:Option PV}{q:Option Value}
theorem Lk.getD{d:PV}{u:Value}(x:Lk b h Y o q)(V:VR b h Y d u):VR b h Y (o.getD d) (q.getD u):=by
 cases o with
 |none=>rw[show q=none from x];exact V
 |some p=>exact x.elim λv x=>x.1▸x.2
theorem Lk.isSome(x:Lk b h Y o q):q.isSome=o.isSome:=by
 cases o with
 |none=>rw[show q=none from x];rfl
 |some p=>exact x.elim λv x=>x.1▸rfl
theorem Lk.some{p:PV}(x:Lk b h Y o q)(e:o=some p):∃v,q=some v/\VR b h Y p v:=by cases e;exact x
theorem wu(V:aH b h Y vs (aX.map (·.2))):Lk b h Y (my (aX.map (·.1)) vs k) (valueAt aX k):=by
 induction aX generalizing vs with
 |nil=>exact rfl
 |cons kv aX ih=>cases vs with
  |nil=>exact V.elim
  |cons q vs=>
   show Lk b h Y (if kv.1=k then Option.some q else my (aX.map (·.1)) vs k) (((kv::aX).find? λx=>decide (x.1=k)).map (·.2))
   rw[List.find?_cons]
   by_cases hk:kv.1=k
   ·rw[if_pos hk,decide_eq_true hk];exact⟨kv.2,rfl,V.1⟩
   ·rw[if_neg hk,decide_eq_false hk];exact ih V.2
theorem kU(e:es.map (·.1)=aX.map (λx=>Key.int x.1))(V:aH b h Y (es.map (·.2)) (aX.map (·.2))):Lk b h Y (bj es (.int k)) (valueAt aX k):=by
 induction aX generalizing es with
 |nil=>cases List.map_eq_nil_iff.mp e;exact rfl
 |cons kv aX ih=>cases es with
  |nil=>exact nomatch e
  |cons q es=>
   have e:=List.cons.inj e
   show Lk b h Y (if q.1=.int k then Option.some q.2 else bj es (.int k)) (((kv::aX).find? λx=>decide (x.1=k)).map (·.2))
   rw[List.find?_cons,show q.1=Key.int kv.1 from e.1]
   by_cases hk:kv.1=k
   ·rw[if_pos (congrArg _ hk),decide_eq_true hk];exact⟨kv.2,rfl,V.1⟩
   ·rw[if_neg λz=>hk (Key.int.noConfusion z id),decide_eq_false hk];exact ih e.2 V.2
theorem nZ(e:es.map (·.1)=xs.map (λx=>Key.ah x.1))(V:aH b h Y (es.map (·.2)) (xs.map (·.2.2))):Lk b h Y (bj es (.ah l)) ((atKey xs l).map (·.2)):=by
 induction xs generalizing es with
 |nil=>cases List.map_eq_nil_iff.mp e;exact rfl
 |cons kv aX ih=>cases es with
  |nil=>exact nomatch e
  |cons q es=>
   have e:=List.cons.inj e
   show Lk b h Y (if q.1=.ah l then Option.some q.2 else bj es (.ah l)) ((((kv::aX).find? λx=>decide (x.1=l)).map (·.2)).map (·.2))
   rw[List.find?_cons,show q.1=Key.ah kv.1 from e.1]
   by_cases hk:kv.1=l
   ·rw[if_pos (congrArg _ hk),decide_eq_true hk];exact⟨kv.2.2,rfl,V.1⟩
   ·rw[if_neg λz=>hk (Key.ah.noConfusion z id),decide_eq_false hk];exact ih e.2 V.2
theorem A2{l:List PV}{is:List Int}(V:aH b h Y l ws)(e:ints? l=some is):ItemsAre (intKind b.prog b.w) is ws:=by
 induction l generalizing is ws with
 |nil=>cases e;exact V.elim0 .nil
 |cons p l ih=>
  refine bm e λi e1 e'=>bm e' λjs e2 e3=> ?_
  cases fV e1;cases e3
  exact V.cZ λv vs a c=>VR.jF (M:=λv=>ItemsAre _ (i::js) (v::vs)) a λt=>.cons (by simp [intKind,Value.isInt]) (ih c e2)
theorem IQ{t:KT}{k:K1}(V:VR b h Y p v)(e:Km t p=some k):kd k=t/\iA b.prog b.w h k v:=by
 cases t with
 |i=>exact bm e λx e1 e2=>by cases fV e1;cases e2;exact⟨rfl,V⟩
 |s=>exact bm e λx e1 e2=>by cases nX e1;cases e2;exact⟨rfl,V⟩
 |n=>
  refine bm e λx e1 e'=>bm e' λis e2 e3=> ?_
  cases eA e1;cases e3
  exact⟨rfl,VR.eF V λa xs n g V=>⟨a,rfl,_,xs,n,g,rfl,rfl,A2 V e2⟩⟩
theorem Fj{ts:List KT}{l:List PV}{ks:List K1}(V:aH b h Y l ws)(e:AI ts l=some ks):ks.map kd=ts/\fg b.prog b.w h ks ws:=by
 induction ts generalizing l ks ws with
 |nil=>cases l with
  |nil=>cases e;exact⟨rfl,aH.elim0 (M:=λvs=>vs=[]) V rfl⟩
  |cons _ _=>exact nomatch e
 |cons t ts ih=>cases l with
  |nil=>exact nomatch e
  |cons p l=>
   refine bm e λk e1 e'=>bm e' λks e2 e3=> ?_
   cases e3
   exact V.cZ λv vs a c=>let q:=IQ a e1;let r:=ih c e2;⟨by rw[List.map_cons,q.1,r.1],v,vs,rfl,q.2,r.2⟩
theorem isInt_self(i:Int)(t:Tok){prog:Program}{w:World}:(intKind prog w).is i (.int i t)=true:=by simp [intKind,Value.isInt]
end
section
variable{c:Cx}{A:Around}{E:Value->Shared->Prop}{J:aD}{Z ag:af}{P:Pt}{va vb v:Value}{x y p:PV}{Q:Value->Shared->Prop}{M:Value->Prop}{l:List PV}{k:Key}
@[elab_as_elim] theorem Vl.A3{M:Key->Value->Prop}(e:toKey .int y=some k)(W:Vl c P y v)(m:∀i t,M (.int i) (.int i t)):M k v:=
by
 refine bm e λi e1 e2=> ?_
 cases fV e1;cases e2;exact VR.jF (M:=λv=>M (.int i) v) W λt=>m i t
@[elab_as_elim] theorem Vl.A4{M:Key->Value->Prop}{ts:List KT}(e:toKey (.ah ts) y=some k)(W:Vl c P y v)(m:∀ks a,ip c.prog c.w ts P.s.heap ks a->M (.ah ks) (.ref a)):M k v:=
by
 refine bm e λl e1 e'=>bm e' λks e2 e3=> ?_
 cases eA e1;cases e3
 exact VR.eF (M:=λv=>M (.ah ks) v) W λa xs n g V=>let q:=Fj V e2;m ks a ⟨q.1,_,xs,n,g,rfl,rfl,q.2⟩
theorem Vq(hu:A.units<=3900)(ts:List KT):(mz c.prog c.w ts).room A:=Nat.lt_of_le_of_lt (Nat.succ_le_succ hu) (by decide)
theorem rT(hu:A.units<=3900)(ts:List KT):(mz c.prog c.w ts).room A.in1:=Nat.lt_of_le_of_lt (Nat.succ_le_succ (Nat.succ_le_succ hu)) (by decide)
theorem IS{k:Int}{n j:Nat}(h:seqIndex? k n=some j)(h0:0<=k):j=k.toNat:=by
 unfold seqIndex? at h
 rw[if_neg (Int.not_lt.mpr h0)] at h
 dsimp only at h
 split at h
 ·exact(Option.some.inj h).symm
 ·cases h
theorem IT{k:Int}{n j:Nat}(h:seqIndex? k n=some j)(h0:k<0):j=(k+n).toNat/\ -(n:Int)<=k:=by
 unfold seqIndex? at h
 rw[if_pos h0] at h
 dsimp only at h
 split at h
 ·rename_i q
  have q:=bV (aB q).1
  exact⟨(Option.some.inj h).symm,by omega⟩
 ·cases h
theorem y5{t:Addr}{xs:Array Value}(I:Inv c J Z P)(g:P.s.heap.IsList t xs)(V:cy c P l xs.toList)(W:Vl c P y vb)(F:Fo E (bT c J (Vl c) Q) P (read Z (listAt l y))):c.W A (getItem (.ref t) vb) Q E P.s:=
by
 refine F.rb λk e F=>Vl.int (M:=λvb=>c.W A (getItem (.ref t) vb) Q E P.s) e W λu=>F.rm.2.rb λj q F'=>F'.rd λp e F'=> ?_
 obtain ⟨v,ev,V'⟩:=aH.get V e
 rw[Array.getElem?_toList] at ev
 have hs:=dM F.rm.1
 cases Int.lt_or_le k 0 with
 |inl h0=>
  have q':=IT q h0
  rw[<-V.size] at q'
  exact wpAny_getItem_list_neg g h0 q'.2 hs.lo (q'.1▸ev) (F'.same I V')
 |inr h0=>exact wpAny_getItem_list g h0 hs.hi (IS q h0▸ev) (F'.same I V')
theorem A5{t:Addr}{xs:Array Value}(I:Inv c J Z P)(g:IsTup P.s.heap t xs)(V:cy c P l xs.toList)(W:Vl c P y vb)(F:Fo E (bT c J (Vl c) Q) P (read Z (listAt l y))):c.W A (getItem (.ref t) vb) Q E P.s:=
by
 refine F.rb λk e F=>Vl.int (M:=λvb=>c.W A (getItem (.ref t) vb) Q E P.s) e W λu=>F.rm.2.rb λj q F'=>F'.rd λp e F'=> ?_
 obtain ⟨v,ev,V'⟩:=aH.get V e
 rw[Array.getElem?_toList] at ev
 rw[<-V.size] at q
 exact PyProof.Rows.getItem_tuple g (dM F.rm.1).lo (dM F.rm.1).hi q ev (F'.same I V')
theorem CK(hu:A.units<=3900)(I:Inv c J Z P)(a:Addr){o:MO}(M:MR c.toBs P.s.heap P.Y a o)(W:Vl c P y vb)(F:Fo E (bT c J (Vl c) Q) P (read Z (AJ y o))):c.W A (getItem (.ref a) vb) Q E P.s:=by
 cases o with
 |list l=>exact M.elim λxs M=>M.elim λn M=>y5 I ⟨_,M.1,rfl,n,rfl⟩ M.2 W F
 |dict kk es=>
  refine F.rb λk qk F'=>F'.rd λp e F2=> ?_
  revert e
  cases kk with
  |int=>exact M.elim λaX M=>Vl.A3 (M:=λk vb=>bj es k=some p->c.W A (getItem (.ref a) vb) Q E P.s) qk W λi t e=>((kU M.2.1 M.2.2).some e).elim λv e=>wpAny_getItem_of (isInt_self i t) M.1.mapOf e.1 (F2.here I e.2)
  |ah ts=>exact M.elim λxs M=>Vl.A4 (M:=λk vb=>bj es k=some p->c.W A (getItem (.ref a) vb) Q E P.s) qk W λks b K e=>((nZ M.2.1 M.2.2).some e).elim λv e=>(Option.map_eq_some_iff.mp e.1).elim λq e'=>wpAny_getItem_heap (rT hu ts) K M.1 e'.1 (F2.here I (e'.2.symm▸e.2))
 |attrs r=>exact F.elim
theorem y6(hu:A.units<=3900)(I:Inv c J Z P)(V:Vl c P x va)(W:Vl c P y vb)(F:Fo E (bT c J (Vl c) Q) P (read Z (index x y Z))):c.W A (getItem va vb) Q E P.s:=by
 cases x with
 |ah l=>exact VR.eF (M:=λva=>c.W A (getItem va vb) Q E P.s) V λa xs n g V=>A5 I ⟨_,g,rfl,n,rfl⟩ V W F
 |fc ks vs=>
  obtain ⟨a,aX,rfl,D,_,rfl,V⟩:=V
  exact F.rb λk e F=>Vl.int (M:=λvb=>c.W A (getItem (.ref a) vb) Q E P.s) e W λt=>F.rd λp e F=>((wu V).some e).elim λv e=>wpAny_getItem_of (isInt_self k t) (D.at (I.kc _)).mapOf e.1 (F.here I e.2)
 |ref r=>exact F.rb λo e F=>Vl.ref (M:=λva=>c.W A (getItem va vb) Q E P.s) I V e λa ea M=>CK hu I a M W F
 |_=>exact F.elim
end
noncomputable def b0(v u:Value):Option Bool:=match v with
 |.int i _=>match u with
  |.int j _=>some (i == j)
  |.str _ _=>some false
  |_=>none
 |.str i _=>match u with
  |.str j _=>some (i == j)
  |.int _ _=>some false
  |_=>none
 |.bool i=>match u with
  |.bool j=>some (i == j)
  |_=>none
 |_=>none
noncomputable def Ds(f:Value->Value->Bool->Prop)(vs us:List Value)(r:Bool):Prop:=
 ∃e:Nat->Bool,(∀j v u,vs[j]? =some v->us[j]? =some u->f v u (e j))/\((List.range (min vs.length us.length)).all e&&vs.length == us.length)=r
noncomputable def D(h:Heap):Nat->Value->Value->Bool->Prop
 |0,v,u,r=>b0 v u=some r
 |n+1,v,u,r=>b0 v u=some r\/∃a b xs ys,v=.ref a/\u=.ref b/\h.IsTuple a xs/\h.IsTuple b ys/\Ds (D h n) xs.toList ys.toList r
theorem wx{e f:Nat->Bool}:∀(l:List Nat),(∀j∈l,e j=f j)->l.all e=l.all f
 |[],_=>rfl
 |j::l,h=>by rw[List.all_cons,List.all_cons,h j cR,wx l λi hi=>h i (List.mem_cons_of_mem _ hi)]
theorem CL{vs us:List Value}{j:Nat}(h:j∈List.range (min vs.length us.length)):∃v u,vs[j]? =some v/\us[j]? =some u:=
 have h:=List.mem_range.mp h
 ⟨_,_,List.getElem?_eq_getElem (Nat.lt_of_lt_of_le h (Nat.min_le_left _ _)),List.getElem?_eq_getElem (Nat.lt_of_lt_of_le h (Nat.min_le_right _ _))⟩
theorem ly{h:Heap}{a:Addr}{xs ys:Array Value}(x:h.IsTuple a xs)(y:h.IsTuple a ys):xs=ys:=
 x.elim λo x=>y.elim λo' y=>x.2.2.elim λn e=>y.2.2.elim λm f=>by
  have q:=e.symm.trans ((congrArg Obj.data (bF x.1 y.1)).trans f)
  cases q;rfl
section
variable{f:Value->Value->Bool->Prop}{vs us:List Value}{r r':Bool}{h:Heap}
theorem Ds.fn(hf:∀v u r r',f v u r->f v u r'->r=r')(x:Ds f vs us r)(y:Ds f vs us r'):r=r':=
 x.elim λe x=>y.elim λe' y=>by
  rw[<-x.2,<-y.2,wx _ λj hj=>(CL hj).elim λv q=>q.elim λu q=>hf v u _ _ (x.1 j v u q.1 q.2) (y.1 j v u q.1 q.2)]
theorem Ds.refl(hf:∀v r,f v v r->r=true)(x:Ds f vs vs r):r=true:=
 x.elim λe x=>by
  rw[<-x.2,beq_self_eq_true,Bool.and_true,List.all_eq_true]
  exact λj hj=>(CL hj).elim λv q=>q.elim λu q=>hf v _ (x.1 j v v q.1 q.1)
theorem D.fn:∀(n:Nat)(v u:Value)(r r':Bool),D h n v u r->D h n v u r'->r=r'
 |0,_,_,_,_,x,y=>bF x y
 |n+1,v,u,r,r',x,y=>by
  have no:∀{a:Addr}{z:Bool},v=.ref a->b0 v u=some z->False:=λe x=>aQ rfl ((congrArg (b0 · u) e).symm.trans x)
  refine x.elim (λx=>y.elim (bF x) λy=>y.elim λa y=>y.elim λO y=>y.elim λO y=>y.elim λO y=>(no y.1 x).elim) λx=>x.elim λa x=>x.elim λb x=>x.elim λxs x=>x.elim λys x=>y.elim (λy=>(no x.1 y).elim) λy=>y.elim λa' y=>y.elim λb' y=>y.elim λzF y=>y.elim λVD y=> ?_
  have e:=Value.ref.inj (x.1.symm.trans y.1)
  have f:=Value.ref.inj (x.2.1.symm.trans y.2.1)
  have X:=ly (e▸x.2.2.1) y.2.2.1
  have iP:=ly (f▸x.2.2.2.1) y.2.2.2.1
  exact Ds.fn (D.fn n) (X▸iP▸x.2.2.2.2) y.2.2.2.2
theorem zP{v:Value}(e:b0 v v=some r):r=true:=by
 cases v with
 |int i t=>exact(Option.some.inj e).symm.trans (beq_self_eq_true i)
 |str i t=>exact(Option.some.inj e).symm.trans (beq_self_eq_true i)
 |bool i=>exact(Option.some.inj e).symm.trans (beq_self_eq_true i)
 |_=>exact(aQ rfl e).elim
theorem D.refl:∀(n:Nat)(v:Value)(r:Bool),D h n v v r->r=true
 |0,_,_,x=>zP x
 |n+1,v,r,x=>x.elim zP λx=>x.elim λa x=>x.elim λb x=>x.elim λxs x=>x.elim λys x=>
  Ds.refl (D.refl n) (ly (Value.ref.inj (x.1.symm.trans x.2.1)▸x.2.2.1) x.2.2.2.1▸x.2.2.2.2)
end
section
variable{b:Bs}{h:Heap}{Y:List Addr}{p q:PV}{v u:Value}{l k:List PV}{vs us:List Value}{r:Bool}
theorem IU(i j:List Nat):((⟨i.toArray⟩:Str) == ⟨j.toArray⟩)=decide (i=j):=by rw[<-str_beq,Bool.eq_iff_iff,beq_iff_eq,decide_eq_true_eq]
theorem Hf(V:VR b h Y p v)(W:VR b h Y q u)(e:G8 p q=some r):b0 v u=some r:=by
 cases p with
 |int i=>refine VR.jF (M:=λv=>b0 v u=_) V λt=> ?_;cases q with
  |int j=>exact VR.jF (M:=λu=>b0 (.int i t) u=_) W λt'=>e
  |str j=>exact VR.th (M:=λu=>b0 (.int i t) u=_) W λt'=>e
  |_=>exact(aQ rfl e).elim
 |str i=>refine VR.th (M:=λv=>b0 v u=_) V λt=> ?_;cases q with
  |str j=>exact VR.th (M:=λu=>b0 (.str ⟨i.toArray⟩ t) u=_) W λt'=>(congrArg some (IU i j)).trans e
  |int j=>exact VR.jF (M:=λu=>b0 (.str ⟨i.toArray⟩ t) u=_) W λt'=>e
  |_=>exact(aQ rfl e).elim
 |bool i=>refine VR.AP (M:=λv=>b0 v u=_) V ?_;cases q with
  |bool j=>exact VR.AP (M:=λu=>b0 (.bool i) u=_) W e
  |_=>exact(aQ rfl e).elim
 |_=>exact(aQ rfl e).elim
theorem CM{f:PV->PV->Option Bool}{g:Value->Value->Bool->Prop}(hf:∀p q v u r,VR b h Y p v->VR b h Y q u->f p q=some r->g v u r)(V:aH b h Y l vs)(W:aH b h Y k us)(e:hM f l k=some r):Ds g vs us r:=by
 induction l generalizing k vs us r with
 |nil=>
  refine aH.elim0 (M:=λvs=>Ds g vs us r) V ?_
  cases k with
  |nil=>cases e;exact aH.elim0 (M:=λus=>Ds g [] us true) W ⟨λO=>true,λO O O a O=>(aQ List.getElem?_nil a).elim,rfl⟩
  |cons q k=>cases e;exact aH.cZ (M:=λus=>Ds g [] us false) W λO us O O=>⟨λO=>true,λO O O a O=>(aQ List.getElem?_nil a).elim,by rw[List.length_nil,Nat.zero_min];rfl⟩
 |cons p l ih=>
  refine aH.cZ (M:=λvs=>Ds g vs us r) V λv vs V1 V2=> ?_
  cases k with
  |nil=>cases e;exact aH.elim0 (M:=λus=>Ds g (v::vs) us false) W ⟨λO=>true,λO O O O a=>(aQ List.getElem?_nil a).elim,by rw[List.length_nil,Nat.min_zero];rfl⟩
  |cons q k=>
   refine aH.cZ (M:=λus=>Ds g (v::vs) us r) W λu us W1 W2=>bm e λx e1 e'=>bm e' λy e2 e3=> ?_
   cases e3
   obtain ⟨ee,h1,rfl⟩:=ih V2 W2 e2
   refine⟨λj=>Nat.casesOn j x ee,λj=> ?_,?_⟩
   ·cases j with
    |zero=>exact λv u a c=>Option.some.inj a▸Option.some.inj c▸hf _ _ _ _ _ V1 W1 e1
    |succ j=>exact h1 j
   ·rw[List.length_cons,List.length_cons,Nat.succ_min_succ,List.range_succ_eq_map,List.all_cons,List.all_map,Bool.and_assoc,show (vs.length+1 == us.length+1)=(vs.length == us.length) from by rw[Bool.eq_iff_iff,beq_iff_eq,beq_iff_eq,Nat.succ_inj]]
    rfl
theorem pe:∀(n:Nat)(p q:PV)(v u:Value)(r:Bool),VR b h Y p v->VR b h Y q u->eqv n p q=some r->D h n v u r
 |0,p,q,v,u,r,V,W,e=>Hf V W e
 |n+1,p,q,v,u,r,V,W,e=>by
  have e:(match dD p with | some x=>(dD q).bind λy=>hM (eqv n) x y | none=>G8 p q)=some r:=e
  cases ep:dD p with
  |none=>rw[ep] at e;exact .inl (Hf V W e)
  |some x=>
   rw[ep] at e
   refine bm e λy eq e=> ?_
   cases eA ep;cases eA eq
   exact VR.eF (M:=λv=>D h (n+1) v u r) V λa xs m g V=>VR.eF (M:=λu=>D h (n+1) (.ref a) u r) W λa' ys m' g' W=>.inr ⟨a,a',xs,ys,rfl,rfl,⟨_,g,rfl,m,rfl⟩,⟨_,g',rfl,m',rfl⟩,CM (pe n) V W e⟩
end
section
variable{s:Shared}
theorem Ds.each{f:Value->Value->Bool->Prop}{A:Around}{xs ys:Array Value}{e:Nat->Bool}(hf:∀v u r,f v u r->EqAt A s v u r)(x:∀j v u,xs.toList[j]? =some v->ys.toList[j]? =some u->f v u (e j)):
  ∀j(h1:j<xs.size)(h2:j<ys.size),EqAt A s xs[j] ys[j] (e j):=λj h1 h2=>
 hf _ _ _ (x j _ _ (by rw[Array.getElem?_toList,Array.getElem?_eq_getElem h1]) (by rw[Array.getElem?_toList,Array.getElem?_eq_getElem h2]))
theorem Hg{A:Around}{v u:Value}{r:Bool}(e:b0 v u=some r):EqAt A s v u r/\RcAt A s v u r/\RcNeAt A s v u (!r):=by
 cases v with
 |int i t=>cases u with
  |int j t'=>exact Option.some.inj e▸⟨EqAt.int_int _ _ _ _,RcAt.int_int _ _ _ _,RcNeAt.int_int _ _ _ _⟩
  |str j t'=>exact Option.some.inj e▸⟨EqAt.int_str _ _ _ _,RcAt.int_str _ _ _ _,RcNeAt.int_str _ _ _ _⟩
  |_=>exact(aQ rfl e).elim
 |str i t=>cases u with
  |str j t'=>exact Option.some.inj e▸⟨EqAt.str_str _ _ _ _,RcAt.str_str _ _ _ _,RcNeAt.str_str _ _ _ _⟩
  |int j t'=>exact Option.some.inj e▸⟨EqAt.str_int _ _ _ _,RcAt.str_int _ _ _ _,RcNeAt.str_int _ _ _ _⟩
  |_=>exact(aQ rfl e).elim
 |bool i=>cases u with
  |bool j=>exact Option.some.inj e▸⟨EqAt.bool_bool _ _,RcAt.bool_bool _ _,RcNeAt.bool_bool _ _⟩
  |_=>exact(aQ rfl e).elim
 |_=>exact(aQ rfl e).elim
theorem D.at:∀(n:Nat)(A:Around)(v u:Value)(r:Bool),A.units+n<=5000->D s.heap n v u r->EqAt A s v u r/\RcAt A s v u r/\RcNeAt A s v u (!r)
 |0,_,_,_,_,_,x=>Hg x
 |n+1,A,v,u,r,hu,x=>x.elim Hg λx=>by
  refine x.elim λa z=>z.elim λb z=>z.elim λxs z=>z.elim λys z=>z.2.2.2.2.elim λe y=> ?_
  have X:=z.2.2.1
  have iP:=z.2.2.2.1
  rw[<-y.2] at x⊢
  rw[z.1,z.2.1] at x⊢
  have y:=y.1
  clear z
  have hc:A.units<cLine:=Nat.lt_of_le_of_lt (bJ (Nat.le_add_right _ _) hu) (by decide)
  have he:=Ds.each (A:=A.in1) (λv u r x=>(D.at n A.in1 v u r (by rw[show A.in1.units=A.units+1 from rfl,Nat.add_right_comm];exact hu) x).1) y
  rw[Array.length_toList,Array.length_toList] at x⊢
  have rc:=RcAt.tuples X iP hc he
  refine⟨?_,rc,RcNeAt.tuples X iP hc he⟩
  by_cases q:a=b
  ·subst q
   rw[D.refl (h:=s.heap) (n+1) (.ref a) _ (.inr x)]
   exact EqAt.same _
  ·exact EqAt.of_refs q rc
end
section
variable{c:Cx}{A:Around}{E:Value->Shared->Prop}{J:aD}{Z ag:af}{P:Pt}{va vb v:Value}{x y p:PV}{Q:Value->Shared->Prop}{l k:List PV}{r:Bool}
theorem Sp(F:Fo E (bT c J (Vl c) Q) P (some (.ok (.bool r),Z)))(I:Inv c J Z P)(t:Tok):Q (.bool r) {P.s with toks:=t}:=F.here I (VR.vz r)
theorem u6(hu:A.units<=3900):A.in1.units+6<=5000:=bJ (Nat.add_le_add_right (Nat.succ_le_succ hu) 6) (by decide)
theorem Pn(hu:A.units<=3900):A.units+6<=5000:=bJ (Nat.add_le_add_right hu 6) (by decide)
theorem Po(hu:A.units<=3900):A.units<cLine:=Nat.lt_of_le_of_lt hu (by decide)
open Classical in
theorem zQ(hu:A.units<=3900){xs:List Value}(V:cy c P l xs)(W:Vl c P x va)(h:isIn x l=some r):
  (∀y∈xs,EqAt A.in1 P.s y va (decide (D P.s.heap 6 y va true)))/\(xs.any λy=>decide (D P.s.heap 6 y va true))=r:=by
 induction l generalizing xs r with
 |nil=>cases h;exact aH.elim0 (M:=λxs=>(∀y∈xs,EqAt A.in1 P.s y va (decide (D P.s.heap 6 y va true)))/\(xs.any λy=>decide (D P.s.heap 6 y va true))=false) V ⟨λO hy=>absurd hy List.not_mem_nil,rfl⟩
 |cons q l ih=>
  refine bm h λb e1 h=>bm h λr' e2 h=> ?_
  cases h
  refine aH.cZ (M:=λxs=>(∀y∈xs,EqAt A.in1 P.s y va (decide (D P.s.heap 6 y va true)))/\(xs.any λy=>decide (D P.s.heap 6 y va true))=(b||r')) V λv xs V1 V2=> ?_
  have d:=pe 6 q x v va b V1 W e1
  have i:=ih V2 e2
  have hb:decide (D P.s.heap 6 v va true)=b:=by
   cases b with
   |true=>exact decide_eq_true d
   |false=>exact decide_eq_false λd'=>nomatch D.fn 6 _ _ _ _ d d'
  exact⟨λy hy=>(List.mem_cons.mp hy).elim (λe=>by rw[e,hb];exact(D.at 6 A.in1 _ _ _ (u6 hu) d).1) (i.1 y),by rw[List.any_cons,hb,i.2]⟩
noncomputable def CN(c:Cx)(A:Around)(E:Value->Shared->Prop)(P:Pt)(va vb:Value)(r:Bool):Prop:=
 (∀{Q:Value->Shared->Prop},(∀t,Q (.bool r) {P.s with toks:=t})->c.W A (compareOp .In va vb) Q E P.s)/\∀{Q:Value->Shared->Prop},(∀t,Q (.bool !r) {P.s with toks:=t})->c.W A (compareOp .NotIn va vb) Q E P.s
theorem p5(hu:A.units<=3900)(I:Inv c J Z P)(V:Vl c P x va)(W:Vl c P y vb)(h:among x y Z=some r):CN c A E P va vb r:=by
 cases y with
 |ah l=>
  refine VR.eF (M:=λvb=>CN c A E P va vb r) W λa xs m g W=>(zQ hu W V h).elim λe1 e2=> ?_
  rw[Array.any_toList] at e2
  have hl:P.s.heap.IsTuple a xs:=⟨_,g,rfl,m,rfl⟩
  have e1:=λy hy=>e1 y (Array.mem_toList_iff.mpr hy)
  exact⟨λq=>in_tupleAt _ hl e1 (e2▸q P.s.toks),λq=>notIn_tupleAt _ hl e1 (e2▸q P.s.toks)⟩
 |ref i=>
  refine bm h λo e h'=>Vl.ref (M:=λvb=>CN c A E P va vb r) I W e λa ea M=> ?_
  cases o with
  |list l=>
   refine M.elim λxs M=>M.elim λm M=>(zQ hu M.2 V h').elim λe1 e2=> ?_
   rw[Array.any_toList] at e2
   have hl:P.s.heap.IsList a xs:=⟨_,M.1,rfl,m,rfl⟩
   have e1:=λy hy=>e1 y (Array.mem_toList_iff.mpr hy)
   exact⟨λq=>in_listAt _ hl e1 (e2▸q P.s.toks),λq=>notIn_listAt _ hl e1 (e2▸q P.s.toks)⟩
  |dict kk es=>
   have hs:=I.so.noSys (List.mem_of_getElem? ea)
   refine bm h' λk qk h2=> ?_
   cases h2
   cases kk with
   |int=>
    refine M.elim λaX M=>Vl.A3 (M:=λk va=>CN c A E P va (.ref a) (bj es k).isSome) qk V λi t=> ?_
    rw[<-(kU M.2.1 M.2.2).isSome]
    exact⟨λq=>wpAny_in_of (isInt_self i t) hs M.1.mapOf (q _),λq=>wpAny_notIn_of (isInt_self i t) hs M.1.mapOf (q _)⟩
   |ah ts=>
    refine M.elim λxs M=>Vl.A4 (M:=λk va=>CN c A E P va (.ref a) (bj es k).isSome) qk V λks b K=> ?_
    rw[<-(nZ M.2.1 M.2.2).isSome,Option.isSome_map]
    exact⟨λq=>wpAny_in_heap (rT hu ts) K hs M.1 (q _),λq=>wpAny_notIn_heap (rT hu ts) K hs M.1 (q _)⟩
  |attrs r=>exact(aQ rfl h').elim
 |_=>exact(aQ rfl h).elim
theorem Fm{a b:Addr}{xs ys:Array Value}(hu:A.units<=3900)(x:Ds (D P.s.heap 6) xs.toList ys.toList r)(hl:P.s.heap.IsList a xs)(hb:P.s.heap.IsList b ys)(F:Q (.bool r) P.s):c.W A (compareOp .Eq (.ref a) (.ref b)) Q E P.s:=by
 obtain ⟨e,x,rfl⟩:=x
 have he:=Ds.each (A:=A.in1) (λv u r x=>(D.at 6 A.in1 v u r (u6 hu) x).1) x
 rw[Array.length_toList,Array.length_toList] at F
 by_cases q:xs.size=ys.size
 ·rw[<-q,Nat.min_self,beq_self_eq_true,Bool.and_true] at F
  exact eq_listAt hl hb q (Po hu) he F
 ·rw[beq_eq_false_iff_ne.mpr q,Bool.and_false] at F
  exact eq_list_lengthsAt hl hb (bne_iff_ne.mpr q) (Po hu) F
theorem y7(hu:A.units<=3900)(I:Inv c J Z P)(V:Vl c P x va)(W:Vl c P y vb)(h:equal x y Z=some r)(F:Q (.bool r) P.s):c.W A (compareOp .Eq va vb) Q E P.s:=by
 cases x with
 |ref i=>exact bm h λl e1 h=>bm h λk e2 h=>Vl.list (M:=λva=>c.W A (compareOp .Eq va vb) Q E P.s) e1 I V λa xs n g V=>Vl.list (M:=λvb=>c.W A (compareOp .Eq (.ref a) vb) Q E P.s) e2 I W λb ys m g' W=>Fm hu (CM (pe (b:=c.toBs) (Y:=P.Y) 6) V W h) ⟨_,g,rfl,n,rfl⟩ ⟨_,g',rfl,m,rfl⟩ F
 |_=>exact(D.at 6 A va vb r (Pn hu) (pe 6 _ _ _ _ _ V W h)).2.1 _ _ _ _ F
theorem mK{f:Int->Int->Bool}{M:Value->Value->Bool->Prop}(V:Vl c P x va)(W:Vl c P y vb)(h:cmpInt f x y=some r)(k:∀i t j u,M (.int i t) (.int j u) (f i j)):M va vb r:=by
 refine bm h λi e1 h=>bm h λj e2 h=> ?_
 cases h
 exact Vl.int (M:=λva=>M va vb (f i j)) e1 V λt=>Vl.int (M:=λvb=>M (.int i t) vb (f i j)) e2 W λu=>k i t j u
theorem uk{o:Cm}(hu:A.units<=3900)(I:Inv c J Z P)(V:Vl c P x va)(W:Vl c P y vb)(h:kO o x y Z=some r)(F:∀t,Q (.bool r) {P.s with toks:=t}):c.W A (compareOp (wo o) va vb) Q E P.s:=by
 cases o with
 |eq=>exact y7 hu I V W h (F P.s.toks)
 |ne=>exact bm h λq e h=>by cases h;exact(D.at 6 A va vb q (Pn hu) (pe 6 _ _ _ _ _ V W e)).2.2 _ _ _ _ (F P.s.toks)
 |lt=>exact mK (M:=λva vb r=>(∀t,Q (.bool r) {P.s with toks:=t})->c.W A (compareOp .Lt va vb) Q E P.s) V W h (λi t j u F=>lt_int (F P.s.toks)) F
 |le=>exact mK (M:=λva vb r=>(∀t,Q (.bool r) {P.s with toks:=t})->c.W A (compareOp .LtE va vb) Q E P.s) V W h (λi t j u F=>le_int (F P.s.toks)) F
 |gt=>exact mK (M:=λva vb r=>(∀t,Q (.bool r) {P.s with toks:=t})->c.W A (compareOp .Gt va vb) Q E P.s) V W h (λi t j u F=>gt_int (F P.s.toks)) F
 |ge=>exact mK (M:=λva vb r=>(∀t,Q (.bool r) {P.s with toks:=t})->c.W A (compareOp .GtE va vb) Q E P.s) V W h (λi t j u F=>ge_int (F P.s.toks)) F
 |isin=>exact(p5 hu I V W h).1 F
 |fK=>exact bm h λq e h=>by cases h;exact(p5 hu I V W e).2 F
 |is=>
  refine bm h λO e h=> ?_
  cases rR e
  refine VR.AO (M:=λvb=>c.W A (compareOp .Is va vb) Q E P.s) W ?_
  cases x with
  |none=>cases h;exact VR.AO (M:=λva=>c.W A (compareOp .Is va .none) Q E P.s) V (wpAny_is_self rfl (F P.s.toks))
  |ah l=>cases h;exact VR.eF (M:=λva=>c.W A (compareOp .Is va .none) Q E P.s) V λa xs m g V=>wpAny_is_other rfl (λe=>nomatch e) (F P.s.toks)
  |_=>exact(aQ rfl h).elim
end
section
variable{K:Type}[DecidableEq K]{kv:K×Value}{aX:List (K×Value)}{k:K}{v:Value}
theorem qD{α:Type}{f:α->α}:∀{l:List α},(∀x∈l,f x=x)->l.map f=l
 |[],_=>rfl
 |x::l,h=>by rw[List.map_cons,h x cR,qD λy hy=>h y (List.mem_cons_of_mem _ hy)]
theorem CO(h:kv.1≠k):stored (kv::aX) k v=kv::stored aX k v:=by
 unfold stored
 rw[List.any_cons,decide_eq_false h,Bool.false_or,List.map_cons,if_neg h]
 cases aX.any λkv=>decide (kv.1=k)<;>rfl
theorem CP(h:kv.1=k)(n:∀x∈aX,x.1≠k):stored (kv::aX) k v=(kv.1,v)::aX:=by
 unfold stored
 rw[List.any_cons,decide_eq_true h,Bool.true_or,if_pos rfl,List.map_cons,if_pos h,qD λx hx=>if_neg (n x hx)]
variable{xv:K×Addr×Value}{xs:List (K×Addr×Value)}{a:Addr}
theorem A6(h:xv.1≠k):storedH (xv::xs) k a v=xv::storedH xs k a v:=by
 have e:atKey (xv::xs) k=atKey xs k:=by unfold atKey;rw[List.find?_cons,decide_eq_false h]
 unfold storedH
 rw[e,List.map_cons,show putAt k v xv=xv from if_neg h]
 cases (atKey xs k).isSome<;>rfl
theorem A7(h:xv.1=k)(n:∀x∈xs,x.1≠k):storedH (xv::xs) k a v=(xv.1,xv.2.1,v)::xs:=by
 have e:(atKey (xv::xs) k).isSome=true:=by unfold atKey;rw[List.find?_cons,decide_eq_true h];rfl
 unfold storedH
 rw[e,if_pos rfl,List.map_cons,show putAt k v xv=_ from if_pos h,qD (f:=putAt k v) λx hx=>if_neg (n x hx)]
end
section
variable{b:Bs}{h:Heap}{Y:List Addr}{p:PV}{v:Value}{es:List (Key×PV)}{aX:List (Int×Value)}{xs:List (List K1×Addr×Value)}{k:Int}{l:List K1}{a:Addr}
theorem wy{K V:Type}{kv:K×V}{aX:List (K×V)}{k:K}(nd:((kv::aX).map (·.1)).Nodup)(hk:kv.1=k):∀x∈aX,x.1≠k:=λO hx e=>
 (List.nodup_cons.mp nd).1 (List.mem_map.mpr ⟨_,hx,e.trans hk.symm⟩)
theorem wz(W:VR b h Y p v)(e:es.map (·.1)=aX.map (λx=>Key.int x.1))(V:aH b h Y (es.map (·.2)) (aX.map (·.2)))(nd:(aX.map (·.1)).Nodup):
  (cn es (.int k) p).map (·.1)=(stored aX k v).map (λx=>Key.int x.1)/\aH b h Y ((cn es (.int k) p).map (·.2)) ((stored aX k v).map (·.2)):=by
 induction aX generalizing es with
 |nil=>cases List.map_eq_nil_iff.mp e;exact⟨rfl,W,a_⟩
 |cons kv aX ih=>cases es with
  |nil=>exact nomatch e
  |cons q es=>
   have e:=List.cons.inj e
   show (if q.1=.int k then (q.1,p)::es else q::cn es (.int k) p).map (·.1)=_/\aH b h Y ((if q.1=.int k then (q.1,p)::es else q::cn es (.int k) p).map (·.2)) _
   by_cases hk:kv.1=k
   ·rw[if_pos (e.1.trans (congrArg _ hk)),CP hk (wy nd hk)]
    exact⟨by rw[List.map_cons,List.map_cons,e.2];exact congrArg (· ::_) e.1,W,V.2⟩
   ·rw[if_neg λz=>hk (Key.int.noConfusion (e.1.symm.trans z) id),CO hk]
    have i:=ih e.2 V.2 (List.nodup_cons.mp nd).2
    exact⟨by rw[List.map_cons,List.map_cons,i.1];exact congrArg (· ::_) e.1,V.1,i.2⟩
theorem Fn(W:VR b h Y p v)(e:es.map (·.1)=xs.map (λx=>Key.ah x.1))(V:aH b h Y (es.map (·.2)) (xs.map (·.2.2)))(nd:(xs.map (·.1)).Nodup):
  (cn es (.ah l) p).map (·.1)=(storedH xs l a v).map (λx=>Key.ah x.1)/\aH b h Y ((cn es (.ah l) p).map (·.2)) ((storedH xs l a v).map (·.2.2)):=by
 induction xs generalizing es with
 |nil=>cases List.map_eq_nil_iff.mp e;exact⟨rfl,W,a_⟩
 |cons kv aX ih=>cases es with
  |nil=>exact nomatch e
  |cons q es=>
   have e:=List.cons.inj e
   show (if q.1=.ah l then (q.1,p)::es else q::cn es (.ah l) p).map (·.1)=_/\aH b h Y ((if q.1=.ah l then (q.1,p)::es else q::cn es (.ah l) p).map (·.2)) _
   by_cases hk:kv.1=l
   ·rw[if_pos (e.1.trans (congrArg _ hk)),A7 hk (wy nd hk)]
    exact⟨by rw[List.map_cons,List.map_cons,e.2];exact congrArg (· ::_) e.1,W,V.2⟩
   ·rw[if_neg λz=>hk (Key.ah.noConfusion (e.1.symm.trans z) id),A6 hk]
    have i:=ih e.2 V.2 (List.nodup_cons.mp nd).2
    exact⟨by rw[List.map_cons,List.map_cons,i.1];exact congrArg (· ::_) e.1,V.1,i.2⟩
theorem DictOf.nodup{prog:Program}{w:World}(D:h.DictOf (intKind prog w) a aX):(aX.map (·.1)).Nodup:=D.elim λO D=>D.elim λO D=>D.elim λO D=>D.2.2.2.2.2
theorem DictOfH.nodup{prog:Program}{w:World}{ts:List KT}(D:h.DictOfH (mz prog w ts) a xs):(xs.map (·.1)).Nodup:=D.elim λO D=>D.elim λO D=>D.elim λO D=>D.2.2.2.2.2
theorem kW{h':Heap}{d:Addr}(hs:Heap.SameBut d h h'){o:Obj}(ho:h.get? d=some o)(hc:j5 o):Later h Y h' Y:=
 ⟨λx o' e s=>(hs.2 x λq=>s.no (bF ho (q▸e)▸hc)).trans e,[],(List.append_nil _).symm⟩
end
section
variable{c:Cx}{A:Around}{E:Value->Shared->Prop}{J:aD}{Z ag:af}{P:Pt}{va vb vc vd v:Value}{x y z d p:PV}{Q:Value->Shared->Prop}{l:List PV}{r:Bool}{a:Addr}{i:Nat}
theorem n3{xs:Array Value}{n:Nat}(g:P.s.heap.get? a=some (gW xs n))(V:cy c P l xs.toList)(W:Vl c P y vb)(hf:xs.size<=65537)
  (F:∀h',Heap.SameBut a P.s.heap h'->(∃zF n',h'.get? a=some (gW zF n')/\aH c.toBs h' P.Y (l++[y]) zF.toList)->Later P.s.heap P.Y h' P.Y->Q .none {P.s with heap:=h'}):c.W A (call (.builtin "list.append") [.ref a,vb]) Q E P.s:=by
 refine call_meets PySem.F.slot_list_append ⟨_,g,rfl⟩ PySem.F.entry_list_append (PySem.F.args_list_append_2 _ _) (AutoListH.list_append_list_val_0 a xs n vb (dT hf)) ⟨g,?_⟩
 have hs:=Heap.SameBut.update P.s.heap a (Obj.mapSeq λxs=>xs.push vb)
 have la:=kW (Y:=P.Y) hs g ⟨.inl rfl,nofun⟩
 exact F _ hs ⟨_,_,get?_update_seq g λxs=>xs.push vb,by rw[Array.toList_push];exact aH.append (aH.bc la V) (aH.cons (VR.bc la W) aH.nil)⟩ la
theorem CR(I:Inv c J Z P)(V:Vl c P x va)(W:Vl c P y vb)(F:Fo E (bT c J (Vl c) Q) P (lift (te x y Z))):c.W A (call (.builtin "list.append") [va,vb]) Q E P.s:=by
 refine F.lb λi e F1=>F1.lb λo q F2=>F2.lb λl ql F3=> ?_
 clear F F1 F2
 cases kT e;cases gA ql
 exact Vl.ref (M:=λva=>c.W A (call (.builtin "list.append") [va,vb]) Q E P.s) I V q λa ea M=>M.elim λxs M=>M.elim λn M=>
  n3 M.1 M.2 W (Nat.le_succ_of_le (cy.size (c:=c) (P:=P) M.2▸eO F3.lm.1)) λh' hs m la=>F3.lm.2.ok (I.set q ea hs m (t:=P.s.toks)) VR.vA
theorem Hh{n:Nat}(h:n<=65536):(n:Int)<2 ^ 63:=by omega
theorem ja{Q:Bool->Shared->Prop}(I:Inv c J Z P)(V:Vl c P x va)(F:Fo E (bT c J (λO=>Eq) Q) P (read Z (truth Z x))):c.W A (truthy va) Q E P.s:=by
 cases x with
 |none=>exact VR.AO (M:=λva=>c.W A (truthy va) Q E P.s) V (truthy_none (F.same I rfl))
 |bool b=>exact VR.AP (M:=λva=>c.W A (truthy va) Q E P.s) V (wpAny_truthy_bool (F.same I rfl))
 |int i=>exact VR.jF (M:=λva=>c.W A (truthy va) Q E P.s) V λt=>truthy_int (F.same I rfl)
 |ref i=>
  refine F.rb λo q F1=>F1.rb λl ql F2=> ?_
  clear F F1
  cases gA ql
  refine Vl.ref (M:=λva=>c.W A (truthy va) Q E P.s) I V q λa ea M=>M.elim λxs M=>M.elim λn M=> ?_
  have n1:=cy.size (c:=c) (P:=P) M.2
  refine wpAny_truthy_list ⟨_,M.1,rfl,n,rfl⟩ (Hh (n1▸eO F2.rm.1)) ?_
  rw[show xs.isEmpty=l.isEmpty from ?_]
  ·exact F2.rm.2.here I rfl
  ·rw[Bool.eq_iff_iff,Array.isEmpty_iff_size_eq_zero,List.isEmpty_iff_length_eq_zero,n1]
 |_=>exact F.elim
theorem vg{Q:Unit->Shared->Prop}(hu:A.units<=3900)(I:Inv c J Z P)(V:Vl c P x va)(W:Vl c P y vb)(U:Vl c P z vc)(h:FR.setItem x y z Z=some ag)(F:∀P',Inv c J ag P'/\To c P P'->Q () P'.s):
  c.W A (PySem.setItem va vb vc) Q E P.s:=by
 refine bm h λi e h1=>bm h1 λo q h2=>bm h2 λCS qd h3=>bm h3 λk qk h4=> ?_
 obtain ⟨kk,es⟩:=CS
 clear h h1 h2 h3
 cases kT e;cases mJ qd
 have hf:es.length<=65537:=Nat.le_succ_of_le (eO (mm h4).1)
 cases (mm h4).2
 refine Vl.ref (M:=λva=>c.W A (PySem.setItem va vb vc) Q E P.s) I V q λa ea M=> ?_
 clear h4
 revert F
 cases kk with
 |int=>
  refine M.elim λaX M=>Vl.A3 (M:=λk vb=>(∀P',Inv c J (sset Z i (.dict .int (cn es k z))) P'/\To c P P'->Q () P'.s)->c.W A (PySem.setItem (.ref a) vb vc) Q E P.s) qk W λk t F=> ?_
  refine wpAny_setItem_pairs (isInt_self k t) M.1 (λh' D' hs=> ?_) (dT ?_)
  ·have la:=(DictOf.obj M.1).elim λo x=>kW (Y:=P.Y) hs x.1 x.2.2
   have kp:=wz (k:=k) (VR.bc la U) M.2.1 (aH.bc la M.2.2) (DictOf.nodup M.1)
   exact F _ (I.set q ea hs ⟨_,D',kp.1,kp.2⟩)
  ·rw[<-List.length_map (f:=λx=>Key.int x.1),<-M.2.1,List.length_map];exact hf
 |ah ts=>
  refine M.elim λxs M=>Vl.A4 (M:=λk vb=>(∀P',Inv c J (sset Z i (.dict (.ah ts) (cn es k z))) P'/\To c P P'->Q () P'.s)->c.W A (PySem.setItem (.ref a) vb vc) Q E P.s) qk W λks b K F=> ?_
  refine wpAny_setItem_heap (rT hu ts) K M.1 (λh' D' hs=> ?_) (dT ?_)
  ·have la:=(DictOfH.obj M.1).elim λo x=>kW (Y:=P.Y) hs x.1 x.2.2
   have kp:=Fn (l:=ks) (a:=b) (VR.bc la U) M.2.1 (aH.bc la M.2.2) (DictOfH.nodup M.1)
   exact F _ (I.set q ea hs ⟨_,D',kp.1,kp.2⟩)
  ·rw[<-List.length_map (f:=λx=>Key.ah x.1),<-M.2.1,List.length_map];exact hf
theorem CT(hu:A.units<=3900)(I:Inv c J Z P)(V:Vl c P x va)(W:Vl c P y vb)(U:Vl c P d vd)(F:Fo E (bT c J (Vl c) Q) P (lift (getM x y d Z))):c.W A (call (.builtin "dict.get") [va,vb,vd]) Q E P.s:=by
 cases x with
 |fc ks ws=>
  obtain ⟨a,aX,rfl,D,hs,rfl,V⟩:=V
  refine F.lb λk e F=>Vl.int (M:=λvb=>c.W A (call (.builtin "dict.get") [.ref a,vb,vd]) Q E P.s) e W λt=> ?_
  have D:=D.at (I.kc _)
  exact call_meetsIn PySem.F.slot_dict_get D.typeIs PySem.F.entry_dict_get (PySem.F.args_dict_get_3 _ _ _) (meets_dict_get_default _ a (isInt_self k t) hs vd) ⟨_,D.mapOf,F.here I ((wu V).getD U)⟩
 |ref i=>
  refine F.lb λo q F1=>F1.lb λCS qd F2=>F2.lb λk qk F3=> ?_
  clear F F1 F2
  obtain ⟨kk,es⟩:=CS
  cases mJ qd
  refine Vl.ref (M:=λva=>c.W A (call (.builtin "dict.get") [va,vb,vd]) Q E P.s) I V q λa ea M=> ?_
  have hs:=I.so.noSys (List.mem_of_getElem? ea)
  revert F3
  cases kk with
  |int=>exact M.elim λaX M=>Vl.A3 (M:=λk vb=>Fo E (bT c J (Vl c) Q) P (lift (some ((bj es k).getD d,Z)))->c.W A (call (.builtin "dict.get") [.ref a,vb,vd]) Q E P.s) qk W λk t F=>
    call_meetsIn PySem.F.slot_dict_get M.1.typeIs PySem.F.entry_dict_get (PySem.F.args_dict_get_3 _ _ _) (meets_dict_get_default _ a (isInt_self k t) hs vd) ⟨_,M.1.mapOf,F.here I ((kU M.2.1 M.2.2).getD U)⟩
  |ah ts=>exact M.elim λxs M=>Vl.A4 (M:=λk vb=>Fo E (bT c J (Vl c) Q) P (lift (some ((bj es k).getD d,Z)))->c.W A (call (.builtin "dict.get") [.ref a,vb,vd]) Q E P.s) qk W λks b K F=>
    call_meetsIn PySem.F.slot_dict_get M.1.typeIs PySem.F.entry_dict_get (PySem.F.args_dict_get_3 _ _ _) (meetsH_dict_get_default _ a b hs vd) ⟨rT hu ts,_,_,K,M.1,F.here I ((nZ M.2.1 M.2.2).getD U)⟩
 |_=>exact F.elim
theorem qE(I:Inv c J Z P)(V:Vl c P x va)(W:Vl c P y vb)(U:Vl c P d vd)(F:Fo E (bT c J (Vl c) Q) P (lift (vP x y d Z))):c.W A (call (.builtin "dict.setdefault") [va,vb,vd]) Q E P.s:=by
 refine F.lb λi e F1=>F1.lb λk ek F2=>F2.lb λo q F3=>F3.lb λCS qd F4=>F4.lb λO qi F5=> ?_
 clear F F1 F2 F3 F4
 obtain ⟨kk,es⟩:=CS
 cases kT e;cases mJ qd;cases wq qi
 refine Vl.ref (M:=λva=>c.W A (call (.builtin "dict.setdefault") [va,vb,vd]) Q E P.s) I V q λa ea M=>M.elim λaX M=>Vl.int (M:=λvb=>c.W A (call (.builtin "dict.setdefault") [.ref a,vb,vd]) Q E P.s) ek W λt=> ?_
 have f:=kU (k:=k) M.2.1 M.2.2
 refine call_meetsIn PySem.F.slot_dict_setdefault M.1.typeIs PySem.F.entry_dict_setdefault (PySem.F.args_dict_setdefault_3 _ _ _) (kt_meets_setdefault _ a (isInt_self k t) (I.so.noSys (List.mem_of_getElem? ea)) vd) ⟨aX,M.1,dT ?_,?_⟩
 ·rw[<-List.length_map (f:=λx=>Key.int x.1),<-M.2.1,List.length_map];exact Nat.le_succ_of_le (eO F5.lm.1)
 have F:=F5.lm.2
 clear F5
 revert F
 dsimp only
 generalize bj es (.int k)=o at f
 cases o with
 |some w=>exact λF=>f.elim λv f=>⟨λv' hv=>F.here I (bF f.1 hv▸f.2),λhn=>(aQ hn f.1).elim⟩
 |none=>
  refine λF=>⟨λv hv=>(aQ f hv).elim,λO h' D' hs=> ?_⟩
  have la:=(DictOf.obj M.1).elim λo x=>kW (Y:=P.Y) hs x.1 x.2.2
  have kp:=wz (k:=k) (VR.bc la U) M.2.1 (aH.bc la M.2.2) (DictOf.nodup M.1)
  exact F.ok (I.set q ea hs ⟨_,D',kp.1,kp.2⟩ (t:=P.s.toks+1)) (VR.bc la U)
theorem mL{n m:Nat}{t t':Tok}(I:Inv c J Z P)(e:m=n)(F:Fo E (bT c J (Vl c) Q) P (lift (lenOf n Z))):Q (.int m t) {P.s with toks:=t'}:=by
 subst e
 exact F.lm.2.here I (VR.mC _ _)
theorem mM{n:Nat}(F:Fo E (bT c J (Vl c) Q) P (lift (lenOf n Z))):n<=65536:=bV F.lm.1
theorem CU(I:Inv c J Z P)(V:Vl c P x va)(F:Fo E (bT c J (Vl c) Q) P (lift (builtin .len x Z))):c.W A (call (.builtin "len") [va]) Q E P.s:=by
 cases x with
 |bytes l=>
  obtain ⟨y,t,rfl,e⟩:=V
  have e:y.size=l.length:=by rw[<-e,List.length_map,Array.length_toList]
  exact len_bytes (e▸bJ (mM F) (by decide)) (mL I e F)
 |ah l=>exact VR.eF (M:=λva=>c.W A (call (.builtin "len") [va]) Q E P.s) V λa xs n g V=>
   call_len_meets (n:=xs.size) ⟨_,g,rfl⟩ PySem.F.slot_tuple_len PySem.F.entry_tuple_len (PySem.F.args_tuple_len_1 _) (AutoSeq1.tuple___len___tuple_0 a xs n) (Int.not_lt.mpr (Int.natCast_nonneg _)) (Int.not_le.mpr (Hh (cy.size (c:=c) (P:=P) V▸mM F))) (λQ' hq=>⟨g,hq⟩) (mL I (cy.size (c:=c) (P:=P) V) F)
 |ref i=>
  refine F.lb λo q F=>Vl.ref (M:=λva=>c.W A (call (.builtin "len") [va]) Q E P.s) I V q λa ea M=> ?_
  cases o with
  |list l=>exact M.elim λxs M=>M.elim λn M=>call_len_list ⟨_,M.1,rfl,n,rfl⟩ (Hh (cy.size (c:=c) (P:=P) M.2▸mM F)) (mL I (cy.size (c:=c) (P:=P) M.2) F)
  |dict kk es=>
   refine F.lb λO qi F2=> ?_
   clear F
   cases wq qi
   refine M.elim λaX M=> ?_
   have n1:aX.length=es.length:=by rw[<-List.length_map (f:=λx=>Key.int x.1),<-M.2.1,List.length_map]
   exact call_len_dict (I.so.noSys (List.mem_of_getElem? ea)) M.1 (Hh (n1▸mM F2)) (mL I n1 F2)
  |attrs r=>exact F.elim
 |_=>exact F.elim
theorem wA(I:Inv c J Z P)(V:Vl c P x va)(F:Fo E (bT c J (Vl c) Q) P (lift (builtin .list x Z))):c.W A (call (.type "list") [va]) Q E P.s:=
 F.lb λl e F=>Vl.ah (M:=λva=>c.W A (call (.type "list") [va]) Q E P.s) e V λa xs n g V=>
  call_list_seq a (.inr rfl) g rfl rfl (λh' c' k hn=>F.lm.2.ok (I.push k (cz _) ⟨xs,c',hn,aH.bc (.lM k _) V⟩ (t:=P.s.toks)) (VR.mD (nY I))) (dT (V.size▸Nat.le_succ_of_le (eO F.lm.1)))
end
noncomputable def pf:Option PV->Option Int
 |some p=>bL p
 |none=>none
noncomputable def n4(c:Cx)(P:Pt)(o:Option PV)(v:Value):Prop:=match o with
 |none=>v=.none
 |some p=>Vl c P p v
theorem um{n d k:Nat}{o:Option PV}(e:clamp n d o=some k){c:Cx}{P:Pt}{v:Value}(V:n4 c P o v):IsPart v (pf o)/\(pf o).elim d (clipAt n)=k:=by
 cases o with
 |none=>exact⟨(show v=.none from V)▸.none,Option.some.inj e⟩
 |some p=>
  refine bm e λi e1 e2=> ?_
  cases fV e1
  exact⟨VR.jF (M:=λv=>IsPart v (some i)) (show Vl c P (.int i) v from V) λt=>.int i t,Option.some.inj e2⟩
section
variable{lo hi:Option Int}{n:Nat}
theorem p6(d:Nat):(match lo with | none=>(d:Int) | some v=>if v<0 then max (v+n) 0 else min v n)=((lo.elim d (clipAt n):Nat):Int):=by
 cases lo with
 |none=>rfl
 |some v=>
  show _=((clipAt n v:Nat):Int)
  rw[clipAt_cast]
  dsimp only
  split
  ·rename_i hv
   rw[Int.min_eq_left (Int.le_trans (Int.add_le_add_right (Int.le_of_lt hv) n) (Int.le_of_eq (Int.zero_add _))),Int.max_comm]
  ·rename_i hv
   exact(Int.max_eq_right (Int.le_min.mpr ⟨Int.not_lt.mp hv,Int.natCast_nonneg n⟩)).symm
theorem wB:Builtin.Slice.sliceAdjust lo hi 1 (n:Int)=(((lo.elim 0 (clipAt n):Nat):Int),((hi.elim n (clipAt n):Nat):Int)):=by
 show ((match lo with | none=>_ | some v=>if v<0 then _ else min v _),(match hi with | none=>_ | some v=>if v<0 then _ else min v _))=_
 exact Prod.ext (p6 0) (p6 n)
theorem A8(i j:Nat):Builtin.Slice.slicePlaces (i:Int) (j:Int) 1=j-i:=by
 unfold Builtin.Slice.slicePlaces
 rw[if_pos (by decide),Int.ediv_one]
 split
 ·rw[Int.sub_add_cancel,Int.toNat_sub]
 ·rename_i h
  exact(Nat.sub_eq_zero_of_le (Int.ofNat_le.mp (Int.not_lt.mp h))).symm
variable{prog:Program}{w:World}{A:Around}{E:Value->Shared->Prop}{s:Shared}
theorem rU{v:Value}{Q:Option Int->Shared->Prop}(h:IsPart v lo)(hq:Q lo s):wpAny (model prog w) A (Builtin.Slice.slicePartIndex v) Q E s:=by
 cases h with
 |none=>exact slicePart_none hq
 |int i t=>exact slicePart_int hq
theorem y8{sl:Addr}{vl vu:Value}{Q:Int×Int×Nat->Shared->Prop}(hs:s.heap.IsSliceOf sl vl vu .none)(pl:IsPart vl lo)(pu:IsPart vu hi)
  (h:Q (((lo.elim 0 (clipAt n):Nat):Int),1,hi.elim n (clipAt n)-lo.elim 0 (clipAt n)) s):
  wpAny (model prog w) A (Builtin.Slice.sliceApplied (.ref sl) (pure (n:Int))) Q E s:=by
 obtain ⟨os,wC,VE,KA⟩:=id hs
 unfold Builtin.Slice.sliceApplied Builtin.Slice.sliceFields
 refine wpAny_bind (wpAny_bind (wpAny_field wC KA (x:=vl) rfl (wpAny_bind (wpAny_field wC KA (x:=vu) rfl (wpAny_bind (wpAny_field wC KA (x:=.none) rfl (wpAny_pure ?_)))))))
 refine wpAny_bind (slicePart_none ?_)
 show wpAny _ _ (if ((1:Int) == 0)=true then _ else _) _ _ s
 rw[if_neg (by decide)]
 refine wpAny_bind (rU pl (wpAny_bind (rU pu (wpAny_bind (wpAny_pure ?_)))))
 show wpAny _ _ (match Builtin.Slice.sliceAdjust lo hi 1 (n:Int) with | (lo,hi)=>pure (lo,(1:Int),Builtin.Slice.slicePlaces lo hi 1)) _ _ s
 rw[wB]
 show wpAny _ _ (pure (_,(1:Int),Builtin.Slice.slicePlaces _ _ 1)) _ _ s
 rw[A8]
 exact wpAny_pure h
theorem pg(xs:Array Value)(i k:Nat):((List.range k).filterMap λ(q:Nat)=>xs[((i:Int)+(q:Int)*1).toNat]?).toArray=((xs.toList.drop i).take k).toArray:=by
 rw[<-pick_run xs i k,List.filterMap_map]
 refine congrArg (λf=>(List.filterMap f (List.range k)).toArray) (funext λq=> ?_)
 rw[Int.mul_one,<-Int.natCast_add,Int.toNat_natCast]
 rfl
theorem CV{t sl:Addr}{items:Array Value}{vl vu:Value}{i j:Nat}{Q:Value->Shared->Prop}(ht:IsTup s.heap t items)(hs:s.heap.IsSliceOf sl vl vu .none)(pl:IsPart vl lo)(pu:IsPart vu hi)
  (h1:lo.elim 0 (clipAt items.size)=i) (h2:hi.elim items.size (clipAt items.size)=j)
  (h0:i=0->j-i=items.size->Q (.ref t) s)
  (h:Q (.ref s.heap.objs.size) {s with heap:=s.heap.push {cls:=.type "tuple",data:=.seq ((items.toList.drop i).take (j-i)).toArray}})
  (eZ:items.size<=sizeLine):wpAny (model prog w) A (getItem (.ref t) (.ref sl)) Q E s:=by
 have A9:sizeOk (.seq ((items.toList.drop i).take (j-i)).toArray):=by
  show ((items.toList.drop i).take (j-i)).toArray.size<=sizeLine
  rw[List.size_toArray,List.length_take,List.length_drop,Array.length_toList]
  exact bJ (bJ (Nat.min_le_right _ _) (Nat.sub_le _ _)) eZ
 have Sq:s.TypeIs (.ref sl) "slice":=hs.imp λO x=>⟨x.1,x.2.1⟩
 unfold getItem
 try with_reducible refine wpAny_holding ?_
 refine wpAny_bind (wpAny_sequenceKey ht.typeIs (by decide) ?_)
 refine wpAny_bind (wpAny_callSpecial?_slot (name:=Str.ofString "__getitem__") ht.typeIs slot_tuple_getitem
  (wpAny_call_entry slot_tuple_getitem ht.typeIs entry_tuple_getitem ?_ (args_tuple_getitem _ _)))
 show wpAny _ _ (Builtin.Tuple.tupleItemsOf (.ref t) >>= _) _ _ s
 refine wpAny_bind (tupleItemsOf_ ht ?_)
 refine wpAny_bind (wpAny_typeOf Sq ?_)
 rw[if_pos (by decide)]
 refine wpAny_bind (y8 hs pl pu ?_)
 rw[h1,h2]
 show wpAny _ _ (if ((i:Int) == 0&&(1:Int) == 1&&(j-i) == items.size)=true then _ else _) _ _ s
 split
 ·rename_i hc
  have hc:=aB hc
  have h0:=h0 (Int.ofNat.inj (eq_of_beq (aB hc.1).1)) (eq_of_beq hc.2)
  first
   |exact wpAny_bind (m:=Builtin.Tuple.tupleIsExact _) (wpAny_bind (wpAny_typeOf ht.typeIs (wpAny_pure (wpAny_bind (wpAny_rule (wpAny_bind (wpAny_pure (wpAny_pure ⟨_,rfl,wpAny_pure h0⟩))))))))
   |exact wpAny_bind (wpAny_bind (m:=Builtin.Tuple.tupleIsExact _) (wpAny_bind (wpAny_typeOf ht.typeIs (wpAny_pure (wpAny_rule (wpAny_bind (wpAny_pure (wpAny_pure ⟨_,rfl,wpAny_pure h0⟩))))))))
 ·rw[pg]
  first
   |exact wpAny_bind (m:=Builtin.Tuple.tupleExact _) (wpAny_newObj_type (wpAny_pure ⟨_,rfl,wpAny_pure h⟩) A9)
   |exact wpAny_bind (m:=Builtin.Tuple.tupleExact _) (wpAny_newObj_type (wpAny_bind (wpAny_pure (wpAny_pure ⟨_,rfl,wpAny_pure h⟩))) A9)
   |exact wpAny_bind (wpAny_bind (m:=Builtin.Tuple.tupleExact _) (wpAny_newObj_type (wpAny_pure (wpAny_pure ⟨_,rfl,wpAny_pure h⟩)) A9))
end
section
variable{c:Cx}{A:Around}{E:Value->Shared->Prop}{J:aD}{Z:af}{P:Pt}{va vl vu:Value}{x:PV}{Q:Value->Shared->Prop}{l:List PV}{sl:Addr}{lo hi:Option PV}{i j:Nat}
theorem wD{a:Addr}{xs:Array Value}(I:Inv c J Z P)(g:P.s.heap.IsList a xs)(V:cy c P l xs.toList)(hf:aS l=true)(hs:P.s.heap.IsSliceOf sl vl vu .none)(pl:IsPart vl (pf lo)/\(pf lo).elim 0 (clipAt l.length)=i)(pu:IsPart vu (pf hi)/\(pf hi).elim l.length (clipAt l.length)=j)
  (F:Fo E (bT c J (Vl c) Q) P (some (.ok (.ref Z.length),Z++[.list ((l.drop i).take (j-i))]))):c.W A (getItem (.ref a) (.ref sl)) Q E P.s:=by
 refine wpAny_getItem_list_slice g hs pl.1 pu.1 .none nofun ?_ (dT (V.size▸Nat.le_succ_of_le (eO hf)))
 rw[slicePick_plain,V.size,pl.2,pu.2]
 exact qC I (aH.take (j-i) (aH.drop i V)) F (t:=P.s.toks)
theorem CW(I:Inv c J Z P)(V:Vl c P x va)(hs:P.s.heap.IsSliceOf sl vl vu .none)(pl:n4 c P lo vl)(pu:n4 c P hi vu)(F:Fo E (bT c J (Vl c) Q) P (lift (cut x lo hi Z))):c.W A (getItem va (.ref sl)) Q E P.s:=by
 refine F.lb λl q F1=>F1.lm.2.lb λi lL F2=>F2.lb λj hj F3=> ?_
 have hf:=F1.lm.1
 have pl:=um lL pl
 have pu:=um hj pu
 clear F F1 F2
 cases x with
 |ah k=>
  cases q
  refine VR.eF (M:=λva=>c.W A (getItem va (.ref sl)) Q E P.s) V λt xs n g V=> ?_
  have n1:=cy.size (c:=c) (P:=P) V
  refine CV ⟨_,g,rfl,n,rfl⟩ hs pl.1 pu.1 (n1▸pl.2) (n1▸pu.2) (λe0 e1=>F3.same I ?_) (tC I (aH.take (j-i) (aH.drop i V)) F3 (t:=P.s.toks)) (dT (n1▸Nat.le_succ_of_le (eO hf)))
  rw[e1,n1,e0,List.drop_zero,List.take_length]
  exact VR.qq g V
 |dh k=>
  cases q
  obtain ⟨t,o,xs,rfl,g,g1,g2,V⟩:=V
  exact wD I ⟨o,I.kc _ _ g,g1,g2⟩ V hf hs pl pu F3
 |ref r=>
  refine bm q λo e ql=> ?_
  cases gA ql
  exact Vl.ref (M:=λva=>c.W A (getItem va (.ref sl)) Q E P.s) I V e λa ea M=>M.elim λxs M=>M.elim λn M=>wD I ⟨_,M.1,rfl,n,rfl⟩ M.2 hf hs pl pu F3
 |_=>exact(aQ rfl q).elim
end
section
variable{c:Cx}{β:Type}{E:Value->Shared->Prop}{J:aD}{Z:af}{P:Pt}{K:fv c β}{Q:Bool->Shared->Prop}
theorem Fo.pick{t:Option Bool}{x y:aF β}(F:Fo E K P (pick t x y))(h:∀b P',To c P P'->Inv c J Z P'->Fo E K P' (cond b x y)->Q b P'.s):Fo E (bT c J (λO=>Eq) Q) P (read Z t):=by
 cases t with
 |none=>exact F
 |some b=>
  intro P' a A I e
  cases e
  cases b with
  |true=>exact h true P' A I (F.up A)
  |false=>exact h false P' A I (F.up A)
theorem Fo.vC{X:aF PV}{x y:af->aF β}(F:Fo E K P (FR.ay X λv Z=>FR.pick (truth Z v) (x Z) (y Z)))(h:∀b ag P',To c P P'->Inv c J ag P'->Fo E K P' (cond b (x ag) (y ag))->Q b P'.s):Fo E (bT c J (λO=>Eq) Q) P (jN X):=by
 cases X with
 |none=>exact F
 |some r=>
  obtain ⟨r,ag⟩:=r
  cases r with
  |error e=>exact F
  |ok v=>exact Fo.pick (F:Fo E K P (FR.pick (truth ag v) (x ag) (y ag))) λb P'=>h b ag P'
variable{K:fv c Bool}
theorem Fo.QE{X:aF PV}{x:af->aF PV}(F:Fo E K P (jN (FR.ay X λv Z=>FR.pick (truth Z v) (x Z) (av v Z))))(h:∀b ag P',To c P P'->Inv c J ag P'->Fo E K P' (cond b (jN (x ag)) (av false ag))->Q b P'.s):Fo E (bT c J (λO=>Eq) Q) P (jN X):=by
 refine Fo.vC (x:=λZ=>jN (x Z)) (y:=λZ=>av false Z) ?_ h
 cases X with
 |none=>exact F
 |some r=>
  obtain ⟨r,ag⟩:=r
  cases r with
  |error e=>exact F
  |ok v=>
   revert F
   show Fo E K P (jN (FR.pick (truth ag v) (x ag) (av v ag)))->Fo E K P (FR.pick (truth ag v) (jN (x ag)) (av false ag))
   cases q:truth ag v with
   |none=>exact id
   |some b=>cases b with
    |true=>exact id
    |false=>exact λF=>(congrArg (λt=>Fo E K P (read ag t)) q)▸F
theorem Fo.Sr{X:aF PV}{x:af->aF PV}(F:Fo E K P (jN (FR.ay X λv Z=>FR.pick (truth Z v) (av v Z) (x Z))))(h:∀b ag P',To c P P'->Inv c J ag P'->Fo E K P' (cond b (av true ag) (jN (x ag)))->Q b P'.s):Fo E (bT c J (λO=>Eq) Q) P (jN X):=by
 refine Fo.vC (x:=λZ=>av true Z) (y:=λZ=>jN (x Z)) ?_ h
 cases X with
 |none=>exact F
 |some r=>
  obtain ⟨r,ag⟩:=r
  cases r with
  |error e=>exact F
  |ok v=>
   revert F
   show Fo E K P (jN (FR.pick (truth ag v) (av v ag) (x ag)))->Fo E K P (FR.pick (truth ag v) (av true ag) (jN (x ag)))
   cases q:truth ag v with
   |none=>exact id
   |some b=>cases b with
    |true=>exact λF=>(congrArg (λt=>Fo E K P (read ag t)) q)▸F
    |false=>exact id
theorem Fo.assoc{β η θ:Type}{K:fv c β}{X:aF η}{k:η->af->aF θ}{g:θ->af->aF β}(F:Fo E K P (FR.ay (FR.ay X k) g)):Fo E K P (FR.ay X λv Z=>FR.ay (k v Z) g):=by
 cases X with
 |none=>exact F
 |some r=>
  obtain ⟨r,ag⟩:=r
  cases r with
  |error e=>exact F
  |ok v=>exact F
theorem Fo.QF{M:Prop}{o:Option Bool}(F:Fo E K P (FR.ay (read Z (o.bind λb=>some (PV.bool b))) λv Z=>read Z (truth Z v)))(h:∀b,o=some b->Fo E K P (some (.ok b,Z))->M):M:=by
 cases o with
 |none=>exact F.elim
 |some b=>exact h b rfl F
theorem Fo.QG{X:aF PV}(F:Fo E (bT c J (λO=>Eq) Q) P (jN (FR.ay X λv Z=>read Z ((truth Z v).bind λb=>some (PV.bool !b))))):Fo E (bT c J (λO=>Eq) λc s=>Q (!c) s) P (jN X):=by
 cases X with
 |none=>exact F
 |some r=>
  obtain ⟨r,ag⟩:=r
  cases r with
  |error e=>exact F
  |ok v=>
   revert F
   show Fo E (bT c J (λO=>Eq) Q) P (FR.ay (read ag ((truth ag v).bind λb=>some (PV.bool !b))) _)->Fo E (bT c J (λO=>Eq) λc s=>Q (!c) s) P (read ag (truth ag v))
   cases truth ag v with
   |none=>exact id
   |some b=>exact λF P' a A I e=>F P' (!a) A I (e▸rfl)
theorem Fo.map{α β:Type}{R:Pt->β->α->Prop}{Q Q':α->Shared->Prop}{o:aF β}(F:Fo E (bT c J R Q) P o)(h:∀a s,Q a s->Q' a s):Fo E (bT c J R Q') P o:=by
 cases o with
 |none=>exact F
 |some r=>
  obtain ⟨r,ag⟩:=r
  cases r with
  |error e=>exact F
  |ok v=>exact λP' a A I r=>h _ _ (F P' a A I r)
end
section
variable{G:Gx}{J:aD}{Z:af}{P:Pt}
theorem CX{i:Int}{k pos}:aT G (.Constant (.int i) k pos) (.k (.int i)):=λO O O O O I F=>wpAny_Constant_int (F.here I (VR.mC _ _))
theorem CY{x:Str}{k pos}:aT G (.Constant (.str x) k pos) (.k (.str x.cps.toList)):=λO O O O O I F=>wpAny_Constant_str (F.here I (VR.QD x.cps.toList _))
theorem Ba{b:Bool}{k pos}:aT G (.Constant (.bool b) k pos) (.k (.bool b)):=λO O O O O I F=>wpAny_Constant_bool (F.same I (VR.vz _))
theorem Bb{k pos}:aT G (.Constant .none k pos) (.k .none):=λO O O O O I F=>wpAny_Constant_none (F.same I VR.vA)
theorem y9{x:List UInt8}{k pos}:aT G (.Constant (.bytes x) k pos) (.k (.bytes (x.map (·.toNat)))):=λO O O O O I F=>Constant_bytes (F.here I ⟨_,_,rfl,by rw[List.toList_toArray]⟩)
theorem IV{x:Str}{i:Nat}{pos:Pos}(hx:G.c.locs[i]? =some x)(hd:(x == ("__debug__":Str))=false):aT G (.Name x pos) (.aa i):=λO O P Q O I F=>
 F.rd λp q F=>I.aa.elim λm N=>(N.2 i x p hx q).elim λv e=>wpAny_Name (wpAny_loadName_local (Q:=Q) G.iw.kf (G.iw.kl i x hx) (G.iw.lo.symm▸N.1) e.1 (F.same I e.2)) hd
theorem IW{l r:PySem.Expr}{a b:ME}{o:pV}{pos:Pos}(ha:aT G l a)(hb:aT G r b):aT G (.BinOp l (zO o) r pos) (.bin o a b):=λO O O O O I F=>
 wpAny_BinOp (ha.go I F λO O O O O aN V aW=>hb.go aN aW λO O O O t bU W bY=>CJ bU (V.to aN t) W bY)
theorem IX{l r:PySem.Expr}{a b:ME}{o:Cm}{pos:Pos}(ha:aT G l a)(hb:aT G r b)(hm:behindInMarks (wo o) r=false):aT G (.Compare l [wo o] [r] pos) (.cmp o a b):=λO O O O O I F=>
 wpAny_Compare1 (ha.go I F λO O O O O aN V aW=>hb.go aN aW λO O O O t bU W bY=>bY.rb λO e dw=>uk G.hu bU (V.to aN t) W e λt'=>Sp dw bU t') hm
theorem IY{e:PySem.Expr}{a:ME}{pos:Pos}(ha:aT G e a):aT G (.UnaryOp .Not e pos) (.not a):=λO O O O O I F=>
 wpAny_UnaryOp (ha.go I F λp cX bg v O aN V aW=>PyProof.Rows.not_of (ja aN V (by
  cases q:truth cX p with
  |none=>rw[q] at aW;exact aW.elim
  |some b=>rw[q] at aW;exact λP' a A I e=>e▸aW P' (.bool !b) A I (VR.vz _))))
theorem IZ{e:PySem.Expr}{a:ME}{pos:Pos}(ha:aT G e a):aT G (.UnaryOp .USub e pos) (.neg a):=λO O O Q E I F=>
 wpAny_UnaryOp (ha.go I F λp cX bg v O aN V aW=>aW.rb λi e bY=>Vl.int (M:=λv=>G.c.W G.A (unaryOp .USub v) Q E bg.s) e V λt=>neg_int (bY.here aN (VR.mC _ _)))
noncomputable def iZ(G:Gx)(es:List PySem.Expr)(ms:bZ):Prop:=∀pos,pd G (backTo pos (starEach es G.env)) ms
theorem Fp:iZ G [] .nil:=λO=>CI
noncomputable def bh:PySem.Expr->Bool
 |.Starred ..=>false
 |_=>true
theorem fE{e:PySem.Expr}{es:List PySem.Expr}{env:Env}(h:bh e=true):starEach (e::es) env=(false,eval e env)::starEach es env:=by
 cases e<;>first | rfl | cases h
theorem CZ{e:PySem.Expr}{es:List PySem.Expr}{m:ME}{ms:bZ}(h:bh e=true)(a:aT G e m)(b:iZ G es ms):iZ G (e::es) (.cons m ms):=λpos=>by
 rw[fE h]
 exact A0 a (b pos)
theorem iZ.go{es:List PySem.Expr}{ms:bZ}(L:iZ G es ms){pos:Pos}{β:Type}{K:fv G.c β}{Q:List Value->Shared->Prop}{E:Value->Shared->Prop}{k:List PV->af->aF β}(I:Inv G.c J Z P)(F:Fo E K P (ay (bw G.cf G.gl ms J Z) k))
  (h:∀p ag P' v,To G.c P P'->Inv G.c J ag P'->cy G.c P' p v->Fo E K P' (k p ag)->Q v P'.s):G.c.W G.A (spliced (backTo pos (starEach es G.env))) Q E P.s:=(L pos).go I F h
theorem cy.line{P:Pt}{c:Cx}{ps:List PV}{vs:List Value}(V:cy c P ps vs)(h:aS ps=true):vs.length<=sizeLine:=dT (aH.length V▸Nat.le_succ_of_le (eO h))
theorem I0{es:List PySem.Expr}{ms:bZ}{k:Nat}{pos:Pos}(h:iZ G es ms):aT G (.Tuple es k pos) (.ah ms):=λO O O O O I F=>
 wpAny_Tuple (h.go I F λO O bg O O aN V aW=>⟨V.line aW.om.1,tC aN V aW.om.2 (t:=bg.s.toks)⟩)
theorem Fq{es:List PySem.Expr}{ms:bZ}{pos:Pos}(h:iZ G es ms):aT G (.List es pos) (.list ms):=λO O O O O I F=>
 wpAny_List (h.go I F λO O bg O O aN V aW=>⟨V.line aW.om.1,qC aN V aW.om.2 (t:=bg.s.toks)⟩)
noncomputable def qF:PySem.Expr->Bool
 |.Slice ..=>false
 |_=>true
theorem C0{slice:PySem.Expr}(h:qF slice=true)(o i:Value):subscripted slice false o i=operate [o,i] (getItem o i):=by
 cases slice<;>first | rfl | cases h
theorem Bc{c:Cx}{x y:PV}{o:Value}{E:Value->Shared->Prop}{K:fv c PV}(I:Inv c J Z P)(V:Vl c P x o)(F:Fo E K P (read Z (index x y Z))):P.s.TypeIs o "tuple"\/P.s.TypeIs o "list"\/P.s.TypeIs o "dict":=by
 cases x with
 |ah l=>exact VR.eF (M:=λo=>P.s.TypeIs o "tuple"\/P.s.TypeIs o "list"\/P.s.TypeIs o "dict") V λa xs n g O=>.inl ⟨_,g,rfl⟩
 |fc ks vs=>obtain ⟨a,aX,rfl,D,_⟩:=V;exact .inr (.inr (D.at (I.kc _)).typeIs)
 |ref r=>exact VR.E9 (M:=λo=>P.s.TypeIs o "tuple"\/P.s.TypeIs o "list"\/P.s.TypeIs o "dict") V λa ea=>(I.so.obj (List.mem_of_getElem? ea)).elim λo x=>.inr (x.2.c.imp (λq=>⟨o,x.1,q⟩) λq=>⟨o,x.1,q⟩)
 |_=>exact F.elim
theorem I3{value slice:PySem.Expr}{a b:ME}{pos:Pos}(Ss:qF slice=true)(ha:aT G value a)(hb:aT G slice b):aT G (.Subscript value slice pos) (.aq a b):=λO O O O O I F=>
 Subscript_ (ha.go I F λO O O o O aN V aW=>hb.go aN aW λO O O i t bU W bY=>
  have g:=y6 G.hu bU (V.to aN t) W bY
  have s:=C0 Ss o i
  (Bc bU (V.to aN t) bY).elim (λT=>tail_any T PySem.F.slot_tuple_getitem.lookup g s) λT=>T.elim (λT=>tail_any T PySem.F.slot_list_getitem.lookup g s) λT=>tail_any T PySem.F.slot_dict_getitem.lookup g s)
noncomputable def qH(G:Gx)(e:Option PySem.Expr)(m:fM):Prop:=∀(J:aD)(Z:af)(P:Pt)(Q:Value->Shared->Prop)(E:Value->Shared->Prop),
 Inv G.c J Z P->Fo E (bT G.c J (n4 G.c) Q) P (dk G.cf G.gl m J Z)->G.c.W G.A (evalPart e G.env) Q E P.s
theorem I4:qH G none .no:=λO O O O O I F=>wpAny_pure (F.same I rfl)
theorem Fs{e:PySem.Expr}{m:ME}(S:aT G e m):qH G (some e) (.yes m):=λO O O O O I F=>S.go I F λO O O O O aN V aW=>aW.same aN V
theorem qH.go{e:Option PySem.Expr}{m:fM}(S:qH G e m){β:Type}{K:fv G.c β}{Q:Value->Shared->Prop}{E:Value->Shared->Prop}{k:Option PV->af->aF β}(I:Inv G.c J Z P)(F:Fo E K P (ay (dk G.cf G.gl m J Z) k))
  (h:∀p ag P' v,To G.c P P'->Inv G.c J ag P'->n4 G.c P' p v->Fo E K P' (k p ag)->Q v P'.s):G.c.W G.A (evalPart e G.env) Q E P.s:=S J Z P Q E I (F.ay h)
theorem n4.to{c:Cx}{P P':Pt}{o:Option PV}{v:Value}(V:n4 c P o v)(I:Inv c J Z P)(A:To c P P'):n4 c P' o v:=by
 cases o with
 |none=>exact V
 |some p=>exact Vl.to (p:=p) V I A
theorem Ft{c:Cx}{x:PV}{lo hi:Option PV}{o:Value}{E:Value->Shared->Prop}{K:fv c PV}(I:Inv c J Z P)(V:Vl c P x o)(F:Fo E K P (lift (cut x lo hi Z))):P.s.TypeIs o "tuple"\/P.s.TypeIs o "list":=by
 cases x with
 |ah l=>exact VR.eF (M:=λo=>P.s.TypeIs o "tuple"\/P.s.TypeIs o "list") V λa xs n g O=>.inl ⟨_,g,rfl⟩
 |dh l=>obtain ⟨a,o,xs,rfl,g,g1,_⟩:=V;exact .inr ⟨o,I.kc _ _ g,g1⟩
 |ref r=>exact F.lb λl q O=>Vl.list (M:=λo=>P.s.TypeIs o "tuple"\/P.s.TypeIs o "list") (show listOf Z (.ref r)=some l from q) I V λa xs n g O=>.inr ⟨_,g,rfl⟩
 |_=>exact F.elim
theorem C1{value:PySem.Expr}{lo hi:Option PySem.Expr}{a:ME}{l u:fM}{p pos:Pos}(ha:aT G value a)(hl:qH G lo l)(hu:qH G hi u):
  aT G (.Subscript value (.Slice lo hi none p) pos) (.slice a l u):=λO O O Q E I F=>
 Subscript_ (ha.go I F λO O O v O aN V aW=>wpAny_Slice (hl.go aN aW λO O O vl n5 bU L bY=>hu.go bU bY λO O di vu KC eG U dw=>wpAny_pure (
  have x:=eG.sub (h':=di.s.heap.push {cls:=.type "slice",data:=.fields #[vl,vu,.none]}) (t:=di.s.toks) λO O e=>Heap.get?_push_of_some _ e
  have V:=((V.to aN n5).to bU KC).to eG x.2
  have g:=CW x.1 V (Heap.IsSliceOf.new di.s.heap vl vu .none) ((L.to bU KC).to eG x.2) (U.to eG x.2) (dw.up x.2)
  (Ft x.1 V (dw.up x.2)).elim (λT=>tail_any T PySem.F.slot_tuple_getitem.lookup g rfl) λT=>tail_any T PySem.F.slot_list_getitem.lookup g rfl)))
theorem C2{kk:KK}{pos:Pos}:aT G (.Dict [] [] pos) (.dQ kk):=λJ Z P Q E I F=>
 have k:Sub P.s.heap (P.s.heap.push {cls:=.type "dict",data:=.dict #[]}):=λO O e=>Heap.get?_push_of_some _ e
 wpAny_Dict_empty (F.ok (I.push k (cz _) (m:=.dict kk []) (by
  cases kk with
  |int=>exact⟨[],Heap.DictOf.new P.s.heap,rfl,.nil⟩
  |ah ts=>exact⟨[],Heap.DictOfH.new P.s.heap,rfl,.nil⟩) (t:=P.s.toks)) (VR.mD (nY I)))
noncomputable def kX:PySem.Expr->Bool
 |.BoolOp ..=>false
 |.UnaryOp ..=>false
 |.IfExp ..=>false
 |.Compare ..=>false
 |.NamedExpr ..=>false
 |_=>true
theorem wF{e:PySem.Expr}(h:kX e=true){env:Env}(whole:Sem Value):isTrue e env whole=(do let v <-whole;standAt e.pos;holding [v] (truthy v)):=by
 cases e<;>first | rfl | cases h
theorem I5{e:PySem.Expr}{m:ME}(h:kX e=true)(S:aT G e m):dK G e m:=λO O O O O I F=>
 isTrue_plain (S.go I F λO O O O O aN V aW=>ja aN V aW) (wF h _)
theorem Fu{l r:PySem.Expr}{a b:ME}{o:Cm}{pos:Pos}(ha:aT G l a)(hb:aT G r b)(hm:behindInMarks (wo o) r=false):dK G (.Compare l [wo o] [r] pos) (.cmp o a b):=λO O O O O I F=>
 wpAny_isTrue_Compare1 (ha.go I F.assoc λO O O O O aN V aW=>hb.go aN aW.assoc λO O O O t bU W bY=>bY.QF λO e dw=>uk G.hu bU (V.to aN t) W e λt'=>wpAny_truthy_bool (dw.here bU rfl)) hm
theorem Fv{e:PySem.Expr}{a:ME}{pos:Pos}(ha:dK G e a):dK G (.UnaryOp .Not e pos) (.not a):=λJ Z P Q E I F=>
 isTrue_not (ha J Z P (λc s'=>Q (!c) s') E I F.QG)
theorem I6{t a b:PySem.Expr}{mt ma mb:ME}{pos:Pos}(ht:dK G t mt)(ha:aT G a ma)(hb:aT G b mb):aT G (.IfExp t a b pos) (.ite mt ma mb):=λJ Z P Q E I F=>
 IfExp_ (ht J Z P _ E I (Fo.vC (x:=ai G.cf G.gl ma J) (y:=ai G.cf G.gl mb J) F λb ag P' A I' F'=>by
  cases b with
  |true=>exact ha J ag P' Q E I' F'
  |false=>exact hb J ag P' Q E I' F'))
theorem za{e:PySem.Expr}{m:ME}{pos:Pos}(a:aT G e m):aT G (.BoolOp .And [e] pos) (.and (.cons m .nil)):=λJ Z P Q E I F=>BoolOp_one (a J Z P Q E I F)
theorem Be{e:PySem.Expr}{m:ME}{pos:Pos}(a:aT G e m):aT G (.BoolOp .Or [e] pos) (.or (.cons m .nil)):=λJ Z P Q E I F=>BoolOp_one (a J Z P Q E I F)
theorem I7{e e':PySem.Expr}{es:List PySem.Expr}{m m':ME}{ms:bZ}{pos:Pos}(a:aT G e m)(b:aT G (.BoolOp .And (e'::es) pos) (.and (.cons m' ms))):
  aT G (.BoolOp .And (e::e'::es) pos) (.and (.cons m (.cons m' ms))):=λJ O O Q E I F=>
 BoolOp_and (a.go I F λp cX bg v t aN V aW=>ja aN V (Fo.pick aW λc P' A I' F'=>by
  cases c with
  |true=>exact b J cX P' Q E I' F'
  |false=>exact F'.same I' (V.to aN A)))
theorem KD{e e':PySem.Expr}{es:List PySem.Expr}{m m':ME}{ms:bZ}{pos:Pos}(a:aT G e m)(b:aT G (.BoolOp .Or (e'::es) pos) (.or (.cons m' ms))):
  aT G (.BoolOp .Or (e::e'::es) pos) (.or (.cons m (.cons m' ms))):=λJ O O Q E I F=>
 BoolOp_or (a.go I F λp cX bg v t aN V aW=>ja aN V (Fo.pick aW λc P' A I' F'=>by
  cases c with
  |true=>exact F'.same I' (V.to aN A)
  |false=>exact b J cX P' Q E I' F'))
theorem wG{e:PySem.Expr}{m:ME}{pos:Pos}(a:dK G e m):dK G (.BoolOp .And [e] pos) (.and (.cons m .nil)):=λJ Z P Q E I F=>
 isTrue_and (a J Z P _ E I (F.map λb s x=>by
  cases b with
  |true=>exact isTrue_and_nil x
  |false=>exact x))
theorem zb{e:PySem.Expr}{m:ME}{pos:Pos}(a:dK G e m):dK G (.BoolOp .Or [e] pos) (.or (.cons m .nil)):=λJ Z P Q E I F=>
 isTrue_or (a J Z P _ E I (F.map λb s x=>by
  cases b with
  |true=>exact x
  |false=>exact isTrue_or_nil x))
theorem Fw{e e':PySem.Expr}{es:List PySem.Expr}{m m':ME}{ms:bZ}{pos:Pos}(a:dK G e m)(b:dK G (.BoolOp .And (e'::es) pos) (.and (.cons m' ms))):
  dK G (.BoolOp .And (e::e'::es) pos) (.and (.cons m (.cons m' ms))):=λJ Z P Q E I F=>
 isTrue_and (a J Z P _ E I (Fo.QE (x:=λZ=>ai G.cf G.gl (.and (.cons m' ms)) J Z) F λc ag P' A I' F'=>by
  cases c with
  |true=>exact b J ag P' Q E I' F'
  |false=>exact F'.same I' rfl))
theorem I8{e e':PySem.Expr}{es:List PySem.Expr}{m m':ME}{ms:bZ}{pos:Pos}(a:dK G e m)(b:dK G (.BoolOp .Or (e'::es) pos) (.or (.cons m' ms))):
  dK G (.BoolOp .Or (e::e'::es) pos) (.or (.cons m (.cons m' ms))):=λJ Z P Q E I F=>
 isTrue_or (a J Z P _ E I (Fo.Sr (x:=λZ=>ai G.cf G.gl (.or (.cons m' ms)) J Z) F λc ag P' A I' F'=>by
  cases c with
  |true=>exact F'.same I' rfl
  |false=>exact b J ag P' Q E I' F'))
end
noncomputable def fW(c:Cx)(Q:Flow->Shared->Prop):fv c (Fl×aD) where
 k fl Z P:=match fl.1 with
  |.next=>∀P',To c P P'->Inv c fl.2 Z P'->Q .next P'.s
  |.cont=>∀P',To c P P'->Inv c fl.2 Z P'->Q .cont P'.s
  |.ret p=>∀P' v,To c P P'->cM c.toBs Z P'.Y P'.s.heap->Vl c P' p v->Q (.ret v) P'.s
 up fl _ _ _ A h:=by
  obtain ⟨fl,J⟩:=fl
  cases fl with
  |next=>exact λP' B=>h P' (A.trans B)
  |cont=>exact λP' B=>h P' (A.trans B)
  |ret p=>exact λP' v B=>h P' v (A.trans B)
noncomputable def ef(G:Gx)(t:PySem.Stmt)(m:MS):Prop:=∀(J:aD)(Z:af)(P:Pt)(Q:Flow->Shared->Prop)(E:Value->Shared->Prop),
 Inv G.c J Z P->Fo E (fW G.c Q) P (br G.cf G.gl m J Z)->G.c.W G.A (exec t G.env) Q E P.s
noncomputable def iB(G:Gx)(t:List PySem.Stmt)(m:bG):Prop:=∀(J:aD)(Z:af)(P:Pt)(Q:Flow->Shared->Prop)(E:Value->Shared->Prop),
 Inv G.c J Z P->Fo E (fW G.c Q) P (au G.cf G.gl m J Z)->G.c.W G.A (execs t G.env) Q E P.s
set_option backward.match.sparseCases true in
noncomputable abbrev Rt(Q E:Value->Shared->Prop):Result->Shared->Prop:=λr s=>match r with
 |.ok (.ret v)=>Q v s
 |.ok _=>False
 |.error e=>E e s
noncomputable def wH(c:Cx)(E Q:Value->Shared->Prop)(P:Pt):aF PV->Prop
 |none=>False
 |some r=>match r.1 with
  |.ok p=>∀P' v,iQ c.F [] P P'->cM c.toBs r.2 P'.Y P'.s.heap->Vl c P' p v->Q v P'.s
  |.error e=>zN c E P r.2 e
theorem Fo.f{c:Cx}{J:aD}{Z:af}{P:Pt}{E Q:Value->Shared->Prop}{o:aF PV}(F:Fo E (bT c J (Vl c) Q) P o)(I:Inv c J Z P):wH c E Q P o:=by
 cases o with
 |none=>exact F
 |some r=>
  obtain ⟨r,ag⟩:=r
  cases r with
  |error e=>exact F
  |ok p=>exact λP' v A S V=>let y:=I.under A S;F P' v y.2 y.1 V
theorem wH.om{c:Cx}{P:Pt}{E Q:Value->Shared->Prop}{q:Bool}{o:aF PV}(F:wH c E Q P (aJ q o)):q=true/\wH c E Q P o:=by
 cases q with
 |true=>exact⟨rfl,F⟩
 |false=>exact F.elim
noncomputable def lz(cf:Nat->List PV->af->aF PV)(b:Bs)(f:Value)(i:Nat)(n:Nat):Prop:=∀(c:Cx)(A:Around),c.toBs=b->∀(J:aD)(Z:af)(P:Pt)(Q E:Value->Shared->Prop)(ps:List PV)(vs:List Value),
 A.frames=some c.fr->A.handled=none->A.depth+8*n<=704->A.units+16*n<=3008->Inv c J Z P->cy c P ps vs->wH c E Q P (cf i ps Z)->codeAny (model c.prog c.w) A (.call f ⟨vs,[]⟩) (Rt Q E) P.s
structure wI(b:Bs)(a:Addr)(fd:FuncData)(locs:List Str)(np:Nat)(body:List PySem.Stmt):Prop where
 at_:∃o,b.hc.get? a=some o/\o.data=.func fd
 hb:fd.body=.stmts body
 gl:fd.globals=3
 bi:fd.builtins=0
 cd:b.hc.CodeRec fd.code fd.qualname
 lim:b.hc.NoLimit
 bind:∀vs:List Value,vs.length=np->bindArgs fd ⟨vs,[]⟩=pure ((locs.take np).zip vs)
 aa:∀x∈locs,fd.scope.names.lookup x=some .local
 C3:∀x∈fd.scope.names,x.2≠ .cell
 nd:locs.Nodup
 np:np<=locs.length
 co:fd.scope.isCoroutine=false
 ge:fd.scope.isGenerator=false
 kf:fd.scope.kind=.function
theorem Fx{ps:List PV}{k i:Nat}{p:PV}(h:bD (ps.map some++List.replicate k none) i=some p):fN ps i=some p:=by
 induction ps generalizing i with
 |nil=>
  have no:∀(k i:Nat),bD (List.replicate k none) i=none:=λk=>by
   induction k with
   |zero=>exact λO=>rfl
   |succ k ih=>exact λi=>by cases i with
    |zero=>rfl
    |succ i=>exact ih i
  exact(aQ (no k i) h).elim
 |cons q ps ih=>cases i with
  |zero=>exact h
  |succ i=>exact ih h
theorem n6{V:Type}{l:List (Str×V)}{x:Str}{v:V}(nd:(l.map (·.1)).Nodup)(h:(x,v)∈l):l.lookup x=some v:=by
 induction l with
 |nil=>exact absurd h List.not_mem_nil
 |cons p l ih=>
  have nd:=List.nodup_cons.mp nd
  rw[List.lookup_cons]
  cases List.mem_cons.mp h with
  |inl e=>cases e;rw[beq_self_eq_true]
  |inr h=>
   have:(x == p.1)=false:=beq_eq_false_iff_ne.mpr λe=>nd.1 (List.mem_map.mpr ⟨_,h,e⟩)
   rw[this]
   exact ih nd.2 h
theorem Bf{V:Type}{xs:List Str}{vs:List V}{i:Nat}{x:Str}{v:V}(nd:xs.Nodup)(hl:xs.length<=vs.length)(hx:xs[i]? =some x)(hv:vs[i]? =some v):(xs.zip vs).reverse.lookup x=some v:=by
 refine n6 ?_ (List.mem_reverse.mpr (List.mem_of_getElem? (List.getElem?_zip_eq_some.mpr ⟨hx,hv⟩)))
 rw[List.map_reverse,List.map_fst_zip hl]
 exact(List.reverse_perm _).nodup_iff.mpr nd
section
variable{b:Bs}{gl:Nat->PV}{defs:Nat->Option bo}{P P':Pt}{F X:List Addr}{L:Addr}{h₀:Heap}{t:Nat}
theorem iQ.call(hL:P.s.heap.get? L=none)(k:Sub P.s.heap h₀)(A:iQ (L::F) [L] (P.at P.Y h₀ t) P'):iQ F [] P P':=by
 have ne:∀{a o},P.s.heap.get? a=some o->a∉[L]:=λe m=>aQ hL (c_ m▸e)
 refine⟨A.pre,λa o e x y O=>A.keep a o (k a o e) x (λm=>(List.mem_cons.mp m).elim (λq=>ne e (q▸List.mem_singleton_self _)) y) (ne e),λa x O m n=> ?_,λa x n=>A.off a (.inl (List.mem_cons_of_mem _ (x.resolve_right nofun))) n,A.same⟩
 exact(Ns.tab n).elim λO q=>q.elim λO q=>q.elim λO q=>A.ns a (List.mem_cons_of_mem _ x) (ne q.1) m (n.keeps k)
theorem zc{c:Cx}{env:Env}{outer:List Env}{ag:af}{A:Around}{E:Value->Shared->Prop}{v:Value}{s':Shared}(hc:c.fr=env::outer)(hA:A.frames=some c.fr)(hf:env.frame=some c.L)(x:pb c ag P v s')
  (h:∀e (P':Pt) cH a0,To c P P'->Inv c [] ag P'->(∀o,P.s.heap.get? e=some o->e∈P.Y\/e∈c.F\/e∈[c.L])->Heap.FlyingW (hideAll P'.s.heap (e::c.F)) outer e (.ref (b9 2)) a0 cH->cM c.toBs ag P'.Y (hideAll P'.s.heap (e::c.F))->P'.s.heap.UpToSlots cH->E (.ref e) {P'.s with heap:=cH}):
  wpAny (model c.prog c.w) A («leaving» env v) (λO rV=>E v rV) (λe' rV=>E e' rV) s':=by
 obtain ⟨e,oe,vs,a0,P',g1,g2,g3,g4,g5,A',I,g6⟩:=x
 have Pp:=hideAll_none (h:=P'.s.heap) (e::c.F) cR
 have frames:∀l:List Env,(∀env∈l,env∈c.fr)->P'.s.heap.FunFrames (hideAll P'.s.heap (e::c.F)) l:=λl=>by
  induction l with
  |nil=>exact λO=>a_
  |cons env l ih=>
   refine λhl=>(c.kf env (hl env cR)).2.elim λL q=> ?_
   have m:L∈c.F:=List.mem_filterMap.mpr ⟨env,hl env cR,q.1⟩
   exact(I.ns L m).elim λO n=>(Ns.tab n).elim λo n=>n.elim λes n=>n.elim λk n=>⟨(c.kf env (hl env cR)).1,⟨L,o,q.1,hideAll_none _ (List.mem_cons_of_mem _ m),n.1,λvs d=>nomatch n.2.symm.trans d⟩,ih λx hx=>hl x (List.mem_cons_of_mem _ hx)⟩
 have kept:∀a o,P'.s.heap.get? a=some o->(∀es k,o.data≠ .dict es k)->(∀vs,o.data≠ .fields vs)->(hideAll P'.s.heap (e::c.F)).get? a=some o:=λa o ea d f=>hideAll_get _ ea λm=>(List.mem_cons.mp m).elim (λq=>f vs (bF g1 (q▸ea)▸g3)) (I.zI ea d).1
 refine wpAny_leaving_firstW (hc▸hA) (hc▸frames c.fr λO h=>h) hf g1 (λO O q=>of_hideAll _ q) Pp g3 g4 g5 λcH lw=> ?_
 refine h e P' cH a0 A' I g6 ⟨lw.1,Pp,lw.2.1.2.2,g2▸lw.2.2.1⟩ (I.so.move (λa o ea s=>kept a o ea s.t s.f) λa m o ea=>hideAll_get _ ea λq=> ?_) lw.2.2.2
 exact(List.mem_cons.mp q).elim (λq=>(I.so.obj m).elim λo' x=>x.2.f vs (bF g1 (q▸x.1)▸g3)) (I.sep a m).1
noncomputable def Cx.call(c:Cx)(fd:FuncData)(a L:Addr)(locs:List Str)(hk:fd.scope.kind=.function)(hn:c.hc.get? L=none):Cx where
 toBs:=c.toBs
 fr:=callEnv fd L a::c.fr
 L:=L
 locs:=locs
 kf env m:=(List.mem_cons.mp m).elim (λe=>e▸⟨(show (callEnv fd L a).scope.kind=.function from hk)▸nofun,L,rfl,hn⟩) (c.kf env)
 lf:=hn
theorem Cx.Su{c:Cx}{fd:FuncData}{a L:Addr}{locs:List Str}{hk:fd.scope.kind=.function}{hn:c.hc.get? L=none}:(c.call fd a L locs hk hn).F=L::c.F:=rfl
theorem Fy{c:Cx}{fd:FuncData}{a:Addr}{locs:List Str}{hk:fd.scope.kind=.function}{J:aD}{Z:af}{ps:List PV}{vs:List Value}{np k:Nat}(I:Inv c J Z P)(hL:P.s.heap.get? L=none)(k₀:Sub P.s.heap h₀)(nF:h₀.Ns L λx=>(((locs.take np).zip vs).reverse).lookup x)
  (V:cy c P ps vs) (hv:vs.length=np) (nd:locs.Nodup):Inv (c.call fd a L locs hk (I.new hL).1) (ps.map some++List.replicate k none) Z (P.at P.Y h₀ t):=by
 refine⟨I.so.keeps k₀,λa o e=>k₀ a o (I.kc a o e),λx hx=> ?_,λx hx=> ?_,_,nF,λj x p hx hp=> ?_⟩
 ·have ne:x≠L:=λq=>(I.new hL).2.1 (q▸hx)
  exact⟨λm=>(List.mem_cons.mp m).elim ne (I.sep x hx).1,ne⟩
 ·exact(List.mem_cons.mp hx).elim (λe=>e▸⟨_,nF⟩) λhx=>(I.ns x hx).imp λO n=>n.keeps k₀
 ·obtain ⟨v,e,W⟩:=aH.get V (Fx hp)
  have hj:j<np:=hv▸(List.getElem?_eq_some_iff.mp e).1
  refine⟨v,Bf (i:=j) (nd.sublist (List.take_sublist _ _)) ?_ ?_ e,VR.bc (.sub k₀) W⟩
  ·rw[List.length_take,hv];exact Nat.min_le_left _ _
  ·rw[List.getElem?_take_of_lt hj];exact hx
theorem Bh{a:Addr}{fd:FuncData}{locs:List Str}{body:List PySem.Stmt}{i n:Nat}{d:bo}(F:wI b a fd locs d.params body)(T:Tops b)(hd:defs i=some d)
  (hs:∀(G:Gx),G.c.toBs=b->HEq G.T T->G.cf=ax defs gl n->G.gl=gl->G.n=n->G.k=4->G.env.scope=fd.scope->G.c.locs=locs->(∃outer,G.c.fr=G.env::outer)->G.env.frame=some G.c.L->iB G body d.body):
  lz (ax defs gl (n+1)) b (.ref a) i (n+1):=by
 intro c A C4 J Z P Q E ps vs ju hh KG VF I V G
 subst C4
 have G:wH c E Q P ((defs i).bind λd=>vx (ax defs gl n) gl d ps Z):=G
 rw[hd] at G
 have hv:vs.length=d.params:=(aH.length V).trans (bV G.om.1)
 have G:=G.om.2
 obtain ⟨o,ho,Bj⟩:=F.at_
 refine codeAny_call_def (binds:=(locs.take d.params).zip vs) (Nat.lt_of_le_of_lt (bJ (Nat.le_add_right _ _) KG) (by decide)) (I.kc _ _ ho) Bj (F.lim.keeps I.kc) (F.cd.keeps I.kc) F.hb (BindsTo.of_eq (F.bind vs hv)) F.C3 (λx hx=>F.aa _ (List.mem_of_mem_take (List.of_mem_zip (a:=x.1) (b:=x.2) hx).1)) (λh₀ nF hk=> ?_) F.co F.ge F.kf
 have hL:=cz P.s.heap
 have hn:=I.new hL
 have fG:=Fy (fd:=fd) (a:=a) (hk:=F.kf) (k:=d.locals-d.params) (t:=P.s.toks+((locs.take d.params).zip vs).length) I hL hk nF V hv F.nd
 have iw:rQ (c.call fd a P.s.heap.objs.size locs F.kf hn.1) (A.deeper (callEnv fd P.s.heap.objs.size a)) (callEnv fd P.s.heap.objs.size a) n 4:=
  ⟨F.kf,F.gl,F.bi,rfl,λj x hx=>F.aa x (List.mem_of_getElem? hx),F.nd,by show A.frames.map _=_;rw[ju];rfl,hh,by show A.depth+1+8*n+4<=704;omega,by show A.units+3+16*n+4<=3008;omega⟩
 refine hs ⟨c.call fd a P.s.heap.objs.size locs F.kf hn.1,_,_,ax defs gl n,gl,n,4,T,iw⟩ rfl HEq.rfl rfl rfl rfl rfl rfl rfl ⟨_,rfl⟩ rfl _ _ (P.at P.Y h₀ _) _ _ fG ?_
 show Fo _ _ _ (au (ax defs gl n) gl d.body (ps.map some++List.replicate (d.locals-d.params) none) Z)
 revert G
 generalize au (ax defs gl n) gl d.body (ps.map some++List.replicate (d.locals-d.params) none) Z=r
 intro G
 cases r with
 |none=>exact G
 |some r=>
  obtain ⟨r,ag⟩:=r
  cases r with
  |error e=>
   cases e with
   |iy=>exact G.elim
   |fresh=>
    intro v s' x
    refine zc (c:=c.call fd a P.s.heap.objs.size locs F.kf hn.1) rfl iw.fr rfl x λe P' cH a0 A' I' g6 fl so sm=> ?_
    have B:=iQ.call hL hk A'
    have eq:({P'.s with heap:=cH}:Shared)={P.s with heap:=cH,toks:=P'.s.toks}:=by rw[B.same]
    rw[eq]
    have nx:∀b o,P.s.heap.get? b=some o->b∉P.s.heap.objs.size::c.F->b∉P.Y->b∉e::P.s.heap.objs.size::c.F:=λb o e x y m=>
     (List.mem_cons.mp m).elim (λq=>(g6 o (hk _ _ (q▸e))).elim (λz=>y (q▸z)) λz=>z.elim (λz=>x (q▸z)) λz=>x (q▸List.mem_cons.mpr (.inl (c_ z)))) x
    have nL:∀b o,P.s.heap.get? b=some o->b∉c.F->b∉P.s.heap.objs.size::c.F:=λb o e y m=>(List.mem_cons.mp m).elim (λq=>aQ hL (q▸e)) y
    exact G _ _ ⟨e,P'.Y,_,cH,P'.s.toks,a0,fl,so,B.pre,λb o e x y O=>⟨(B.keep b o e x y nofun).1,hideAll_get _ (B.keep b o e x y nofun).2 (nx b o e (nL b o e y) x)⟩,λb x O m N=>Heap.UpToSlots.ns sm (B.ns b x nofun m N),λb x y=>x.elim (λx=>B.off b (.inl x) y) λx=>((I.under B I'.so).1.sep b · |>.2 (c_ x))⟩
  |ok fl=>
   obtain ⟨fl,aY⟩:=fl
   cases fl with
   |cont=>exact G.elim
   |next=>exact λP' A' I'=>G P' .none (iQ.call hL hk A') I'.so rfl
   |ret p=>exact λP' v A' S V=>G P' v (iQ.call hL hk A') S V
variable{G:Gx}{J:aD}{Z:af}{Q:Value->Shared->Prop}{E:Value->Shared->Prop}
theorem jc{x:Str}{v:Value}{pos:Pos}(I:Inv G.c J Z P)(hk:G.env.kindOf x=some .globalImplicit)(hx:G.T.mg x=some v)(hd:(x == ("__debug__":Str))=false)(h:Q v P.s):G.c.W G.A (eval (.Name x pos) G.env) Q E P.s:=
 Name_function_global G.iw.kf hk (loadGlobal_global (G.iw.gl.symm▸G.T.ng.keeps I.kc) hx h) hd
theorem dY{x:Str}{v:Value}{pos:Pos}(I:Inv G.c J Z P)(hk:G.env.kindOf x=some .globalImplicit)(hx:G.T.mg x=none)(hb:G.T.mb x=some v)(hd:(x == ("__debug__":Str))=false)(h:Q v P.s):G.c.W G.A (eval (.Name x pos) G.env) Q E P.s:=
 Name_function_global G.iw.kf hk (loadGlobal_builtin (G.iw.gl.symm▸G.T.ng.keeps I.kc) hx (G.iw.bi.symm▸G.T.nb.keeps I.kc) hb h) hd
theorem KH{x:Str}{v:Value}{i:Nat}{pos:Pos}(hk:G.env.kindOf x=some .globalImplicit)(hx:G.T.mg x=some v)(hd:(x == ("__debug__":Str))=false)(hv:VR G.c.toBs G.c.hc [] (G.gl i) v):aT G (.Name x pos) (.gl i):=λO O P O O I F=>
 jc I hk hx hd (F.same I (VR.bc ⟨λa o e O=>I.kc a o e,P.Y,rfl⟩ hv))
theorem cA{f:Value}{l:List (Bool×Sem Value)}{Q:Args->Shared->Prop}{M:Model}{A:Around}{s:Shared}(hl:l.any (·.1)=false)
  (h:wpAny M A (spliced l) (λvs s'=>Q ⟨vs,[]⟩ s') E s):wpAny M A (evalArgs f true l []) Q E s:=by
 cases l with
 |nil=>
  unfold evalArgs
  show wpAny M A (spliced [] >>= _) Q E s
  exact wpAny_bind (wpAny_mono h (λvs s' h'=>wpAny_holding (wpAny_bind (wpAny_pure (wpAny_bind (wpAny_pure (wpAny_pure h')))))) λO O x=>x)
 |cons p rest=>
  obtain ⟨q,x⟩:=p
  cases q with
  |false=>exact evalArgs_plain h
  |true=>exact nomatch hl
theorem bC{es:List PySem.Expr}{pos:Pos}{env:Env}(h:es.all bh=true):(backTo pos (starEach es env)).any (·.1)=false:=by
 induction es with
 |nil=>rfl
 |cons e es ih=>
  have h:=aB h
  rw[fE h.1]
  exact ih h.2
theorem jY{e:PySem.Expr}{m:ME}{pos:Pos}(hu:bh e=true)(S:aT G e m){Q:List Value->Shared->Prop}{β:Type}{K:fv G.c β}{k:PV->af->aF β}(I:Inv G.c J Z P)(F:Fo E K P (ay (ai G.cf G.gl m J Z) k))
  (h:∀p ag P' v,To G.c P P'->Inv G.c J ag P'->Vl G.c P' p v->Fo E K P' (k p ag)->Q [v] P'.s):G.c.W G.A (spliced (backTo pos (starEach [e] G.env))) Q E P.s:=by
 rw[fE hu]
 exact spliced_cons (S.go I F λp ag P' v A I' V F'=>spliced_nil (h p ag P' v A I' V F'))
theorem C5{f:Value}{i:Nat}(F:lz G.cf G.c.toBs f i G.n){ps:List PV}{vs:List Value}(I:Inv G.c J Z P)(V:cy G.c P ps vs)(Sv:Fo E (bT G.c J (Vl G.c) Q) P (G.cf i ps Z)):G.c.W G.A (call f vs) Q E P.s:=
 wpAny_call (F G.c G.A rfl J Z P Q E ps vs G.iw.fr G.iw.hn (bJ (Nat.le_add_right _ _) G.iw.dp) (bJ (Nat.le_add_right _ _) G.iw.hu) I V (Sv.f I))
theorem C6{x:Str}{a:Addr}{i:Nat}{p pos:Pos}{es:List PySem.Expr}{ms:bZ}(hk:G.env.kindOf x=some .globalImplicit)(hx:G.T.mg x=some (.ref a))(hd:(x == ("__debug__":Str))=false)
  (hu:es.all bh=true) (L:iZ G es ms) (F:lz G.cf G.c.toBs (.ref a) i G.n) (hf:∃o fd,G.c.hc.get? a=some o/\o.data=.func fd):aT G (.Call (.Name x p) es [] pos) (.aC i ms):=λO O O O O I F'=>
 hf.elim λo hf=>hf.elim λfd hf=>Call_ (jc I hk hx hd (callWith_function (o:=o) (fd:=fd) (cA (bC hu) (L.go I F' λO O O O O aN V aW=>⟨⟨aN.kc _ _ hf.1,hf.2⟩,C5 F aN V aW⟩))))
theorem dU{e:PySem.Expr}(hu:bh e=true):[e].all bh=true:=by rw[List.all_cons,hu];rfl
theorem I9{x:Str}{p pos:Pos}{e:PySem.Expr}{m:ME}(hk:G.env.kindOf x=some .globalImplicit)(hx:G.T.mg x=none)(hb:G.T.mb x=some (.builtin "len"))(hd:(x == ("__debug__":Str))=false)
  (hu:bh e=true) (S:aT G e m):aT G (.Call (.Name x p) [e] [] pos) (.aO .len m):=λO O O O O I F=>
 Call_ (dY I hk hx hb hd (callWith_builtin (bC (dU hu)) (cA (bC (dU hu)) (jY hu S I F λO O O O O aN V aW=>CU aN V aW))))
theorem Bk{x:Str}{p pos:Pos}{e:PySem.Expr}{m:ME}(hk:G.env.kindOf x=some .globalImplicit)(hx:G.T.mg x=none)(hb:G.T.mb x=some (.type "list"))(hd:(x == ("__debug__":Str))=false)
  (hu:bh e=true) (S:aT G e m):aT G (.Call (.Name x p) [e] [] pos) (.aO .list m):=λO O O O O I F=>
 Call_ (dY I hk hx hb hd (PyProof.Rows.callWith_type (bC (dU hu)) (cA (bC (dU hu)) (jY hu S I F λO O O O O aN V aW=>wA aN V aW))))
end
noncomputable def idOf:Nat->String
 |0=>"dict.get"
 |1=>"dict.setdefault"
 |_=>"list.append"
noncomputable def qI:Nat->Str
 |0=>"get"
 |1=>"setdefault"
 |_=>"append"
section
variable{c:Cx}{A:Around}{E:Value->Shared->Prop}{J:aD}{Z:af}{P:Pt}{va:Value}{x:PV}{Q:Value->Shared->Prop}{ps:List PV}{vs:List Value}
theorem KI{c m:Nat}(h:(bif Nat.beq c 0 then Nat.beq m 3 else (Nat.beq c 1&&(Nat.beq m 3||(Nat.beq m 4||Nat.beq m 5))))=true):3<=m/\∃f,ej c m=some f:=by
 match c,h with
 |0,h=>rw[Nat.eq_of_beq_eq_true h];exact⟨Nat.le_refl _,_,rfl⟩
 |1,h=>
  have h:(Nat.beq m 3||(Nat.beq m 4||Nat.beq m 5))=true:=h
  rcases Bool.or_eq_true_iff.mp h with h | h
  ·rw[Nat.eq_of_beq_eq_true h];exact⟨by decide,_,rfl⟩
  ·rcases Bool.or_eq_true_iff.mp h with h | h
   ·rw[Nat.eq_of_beq_eq_true h];exact⟨by decide,_,rfl⟩
   ·rw[Nat.eq_of_beq_eq_true h];exact⟨by decide,_,rfl⟩
theorem cy.two{q:PV×PV}{M:List Value->Prop}(W:cy c P ps vs)(e:FR.two ps=some q)(k:∀v u,Vl c P q.1 v->Vl c P q.2 u->M [v,u]):M vs:=by
 cases ps with
 |nil=>exact nomatch e
 |cons p ps=>cases ps with
  |nil=>exact nomatch e
  |cons p' ps=>cases ps with
   |cons _ _=>exact nomatch e
   |nil=>cases e;exact aH.cZ (M:=M) W λv vs V W=>aH.cZ (M:=λvs=>M (v::vs)) W λu vs U W=>aH.elim0 (M:=λvs=>M (v::u::vs)) W (k v u V U)
theorem wJ(hu:A.units<=3900){m:Nat}(I:Inv c J Z P)(V:Vl c P x va)(W:cy c P ps vs)(F:Fo E (bT c J (Vl c) Q) P (lift (method m x ps Z))):c.W A (call (.builtin (idOf m)) (va::vs)) Q E P.s:=
 match m with
 |0=>F.lb λq e F=>W.two (M:=λvs=>c.W A (call (.builtin "dict.get") (va::vs)) Q E P.s) e λO O V1 V2=>CT hu I V V1 V2 F
 |1=>F.lb λq e F=>W.two (M:=λvs=>c.W A (call (.builtin "dict.setdefault") (va::vs)) Q E P.s) e λO O V1 V2=>qE I V V1 V2 F
 |2=>by
  cases ps with
  |nil=>exact F.elim
  |cons p ps=>cases ps with
   |cons _ _=>exact F.elim
   |nil=>exact aH.cZ (M:=λvs=>c.W A (call (.builtin "list.append") (va::vs)) Q E P.s) W λv vs V1 W=>aH.elim0 (M:=λvs=>c.W A (call (.builtin "list.append") (va::v::vs)) Q E P.s) W (CR I V V1 F)
 |_+3=>F.elim
end
section
variable{G:Gx}{J:aD}{Z:af}{P:Pt}
theorem C7{es:List PySem.Expr}{pos:Pos}{env:Env}(h:es.all bh=true)(hl:es.length<30):((backTo pos (starEach es env)).all (λx=> !x.1)&&(backToKw pos (keywordEach [] env)).all (λx=>x.1.isSome)
   &&decide (es.length+([]:List Keyword).length+(if ([]:List Keyword).isEmpty then 0 else 1)<30))=true:=by
 have b:(backTo pos (starEach es env)).all (λx=> !x.1)=true:=by rw[List.all_eq_not_any_not];simpa using bC h
 rw[b]
 exact decide_eq_true hl
noncomputable def MT(m:Nat)(P:Pt)(v:Value):Prop:=∃T,(PlainAttrs T/\Slot T (qI m) (idOf m)/\typeOf (.builtin (idOf m))=pure (.type "method_descriptor"))/\∃a ob,v=.ref a/\P.s.heap.get? a=some ob/\ob.cls=.type T/\ob.dict=none
theorem C8{P:Pt}{v:Value}(h:∃a ob,v=.ref a/\P.s.heap.get? a=some ob/\ob.cls=.type "dict"/\ob.dict=none):MT 0 P v:=⟨_,⟨PySem.F.plainAttrs_dict,PySem.F.slot_dict_get,PySem.F.type_dict_get⟩,h⟩
theorem KJ{P:Pt}{v:Value}(h:∃a ob,v=.ref a/\P.s.heap.get? a=some ob/\ob.cls=.type "dict"/\ob.dict=none):MT 1 P v:=⟨_,⟨PySem.F.plainAttrs_dict,PySem.F.slot_dict_setdefault,PySem.F.type_dict_setdefault⟩,h⟩
theorem KL{P:Pt}{v:Value}(h:∃a ob,v=.ref a/\P.s.heap.get? a=some ob/\ob.cls=.type "list"/\ob.dict=none):MT 2 P v:=⟨_,⟨PySem.F.plainAttrs_list,PySem.F.slot_list_append,PySem.F.type_list_append⟩,h⟩
theorem Ja{b:Bs}{h:Heap}{Y:List Addr}{a:Addr}{kk:KK}{es:List (Key×PV)}(M:MR b h Y a (.dict kk es)):∃ob,h.get? a=some ob/\ob.cls=.type "dict"/\ob.dict=none:=by
 cases kk with
 |int=>exact M.elim λO M=>(DictOf.obj M.1).imp λO x=>⟨x.1,x.2.1.1,x.2.1.2.1⟩
 |ah ts=>exact M.elim λO M=>(DictOfH.obj M.1).imp λO x=>⟨x.1,x.2.1.1,x.2.1.2.1⟩
noncomputable def lS(m:Nat):MO->Bool
 |.dict _ _=>Nat.ble m 1
 |.list _=>Nat.beq m 2
 |.attrs _=>false
theorem C9{c:Cx}{m:Nat}{x:PV}{v:Value}(kn:dj m x Z=true)(hm:m<=2)(I:Inv c J Z P)(V:Vl c P x v):MT m P v:=by
 cases x with
 |fc ks vs=>
  obtain ⟨a,aX,e,D,_⟩:=V
  exact Nat.eq_of_beq_eq_true kn▸C8 ((DictOf.obj (D.at (I.kc _))).elim λob x=>⟨a,ob,e,x.1,x.2.1.1,x.2.1.2.1⟩)
 |ref i=>
  obtain ⟨a,e,ea⟩:=V
  cases q:ar Z i with
  |none=>
   rw[show dj m (.ref i) Z=_ from congrArg (λo:Option MO=>match o with | some o=>lS m o | .none=>false) q] at kn
   cases kn
  |some o=>
   rw[show dj m (.ref i) Z=lS m o from congrArg (λo:Option MO=>match o with | some o=>lS m o | .none=>false) q] at kn
   have M:=I.so.at q ea
   cases o with
   |list l=>exact Nat.eq_of_beq_eq_true kn▸KL (M.elim λxs M=>M.elim λn M=>⟨a,_,e,M.1,rfl,rfl⟩)
   |dict kk es=>
    have D:=(Ja M).imp λob x=>And.intro e x
    cases Nat.eq_or_lt_of_le (Nat.le_of_ble_eq_true kn) with
    |inl h=>exact h▸KJ ⟨a,D⟩
    |inr h=>exact Nat.lt_one_iff.mp h▸C8 ⟨a,D⟩
   |attrs r=>exact nomatch kn
 |inst cl j=>
  have kn:(match ar Z j with | some o=>(match o with | .attrs _=>bif Nat.beq cl 0 then Nat.beq m 3 else (Nat.beq cl 1&&(Nat.beq m 3||(Nat.beq m 4||Nat.beq m 5))) | _=>false) | .none=>false)=true:=kn
  cases q:ar Z j with
  |none=>rw[q] at kn;cases kn
  |some o=>
   rw[q] at kn
   cases o with
   |attrs r=>exact absurd (bJ (KI kn).1 hm) (by decide)
   |_=>cases kn
 |_=>exact nomatch kn
theorem Fz{cf:Nat->List PV->af->aF PV}{m:Nat}{x:PV}{ps:List PV}{ag:af}(h:∀c j,x≠ .inst c j):gw cf x m ps ag=lift (method m x ps ag):=by
 cases x with
 |inst c j=>exact absurd rfl (h c j)
 |_=>rfl
theorem zd{o:PySem.Expr}{apos pos:Pos}{es:List PySem.Expr}{mo:ME}{ms:bZ}{m:Nat}(hm:m<=2)(mO:attributeBase o (qI m) G.env (eval o G.env)=eval o G.env)(hl:es.length<30)(Bl:(apos.endLine == pos.line)=true)
  (hu:es.all bh=true) (S:aT G o mo) (L:iZ G es ms):aT G (.Call (.Attribute o (qI m) apos) es [] pos) (.aU mo m ms):=by
 intro J Z P Q E I F
 refine wpAny_Call_method_lateS mO (C7 hu hl) Bl (S.go I F λx cX bg v fX aN V aW=> ?_)
 obtain ⟨T,t,a,ob,rfl,ho,hc,hd⟩:=C9 aW.om.1 hm aN V
 refine⟨T,idOf m,t.1,t.2.1,t.2.2,⟨ob,ho,hc⟩,λb e=>⟨ob,(Value.ref.inj e)▸ho,hd⟩,callWith_builtin (bC hu) (cA (bC hu) (L.go aN aW.om.2 λps dF cv vs cY bU W dw=> ?_))⟩
 rw[Fz λc j e=> ?_] at dw
 ·exact wJ G.hu bU (V.to aN cY) W dw
 ·subst e
  obtain ⟨b,dx,e,g,_⟩:=V
  cases e
  exact nomatch (congrArg Obj.dict (bF g ho)).trans hd
noncomputable def ownName:Nat->Str
 |3=>"get"
 |4=>"count"
 |_=>"add"
noncomputable def eL:Nat->Addr
 |101=>461
 |102=>475
 |103=>496
 |104=>503
 |105=>510
 |_=>517
structure iC(K:Frag)(cl:Nat):Prop where
 ga:findIn K (.ref (b9 cl)) "__getattribute__"=some (some (.builtin "object.__getattribute__"))
 gn:findIn K (.ref (b9 cl)) "__getattr__"=some none
 me:∀m f,ej cl m=some f->findIn K (.ref (b9 cl)) (ownName m)=some (some (.ref (eL f)))/\typeIn K (.ref (eL f))=some (.type "function")
 ro:∀hs t v n,handedIn v=true->findObj K (b9 cl) (some (fP #[⟨hs,.str (Str.ofString "rows") t,v⟩] n)) "rows"=some (.value v)
 Sw:makesIn K (b9 cl)=true
 se:findIn K (.ref (b9 cl)) "__setattr__"=some (some (.builtin "object.__setattr__"))
 po:plainOver K (b9 cl)=true
 ta:takerIn K (b9 cl) "rows"=some none
 hd:hasDictIn K (b9 cl)=true
 uo:∀f,lJ cl=some f->findIn K (.ref (b9 cl)) "__init__"=some (some (.ref (eL f)))/\typeIn K (.ref (eL f))=some (.type "function")
theorem Bm{name:Str}{r:Option PV}{b:Bs}{h:Heap}{Y:List Addr}{dx:Addr}(hn:(Value.str (Str.ofString "rows") 0).isStr name=false)(M:MR b h Y dx (.attrs r)):∃ds n,h.get? dx=some (fP ds n)/\lookIn name (fP ds n)=some none:=by
 refine M.imp λds=>Exists.imp λn=>And.imp_right ?_
 cases r with
 |none=>exact λx=>by subst x;rfl
 |some p=>
  rintro ⟨hs,t,v,rfl,_⟩
  have:(Value.str (Str.ofString "rows") t).isStr name=false:=hn
  delta lookIn;simp [this,DictEntry.refKey]
theorem tD{M:Model}{K:Frag}{cl m f:Nat}{x dx:Addr}{ds:Array DictEntry}{nn:Nat}{pl:Sem Bool}{s:Shared}{Q:Value×List Value->Shared->Prop}{E:Value->Shared->Prop}(X:K.In s.heap)(C:iC K cl)(hm:ej cl m=some f)
  (hx:s.heap.get? x=some (gX cl dx)) (hd:s.heap.get? dx=some (fP ds nn)) (hl:lookIn (ownName m) (fP ds nn)=some none) (h:Q (.ref (eL f),[.ref x]) s):wpAny M A (getMethod (.ref x) (ownName m) pl) Q E s:=by
 have I:InstAt s.heap x (gX cl dx) (b9 cl) (some (fP ds nn)):=⟨hx,rfl,rfl,hd⟩
 obtain ⟨hh,g,d,t,os⟩:=s
 have T:=I.type (M:=M)
 have s1:Looks M hh (specialOf (.ref x) "__getattribute__") (some (.builtin "object.__getattribute__")):=T.andThen (looks_findIn X C.ga)
 have s2:Looks M hh (specialOf (.ref x) "__getattr__") none:=T.andThen (looks_findIn X C.gn)
 have s3:Looks M hh (specialOf (.ref x) (ownName m)) (some (.ref (eL f))):=T.andThen (looks_findIn X (C.me m f hm).1)
 have s4:Looks M hh (typeOf (.ref (eL f))) (.type "function"):=looks_typeIn X (C.me m f hm).2
 unfold getMethod
 refine wpAny_bind (s1.at ?_)
 show wpAny M A (if (Manifest.canonical "object.__getattribute__" != "object.__getattribute__")=true then _ else _) Q E _
 rw[if_neg (by decide+kernel)]
 refine wpAny_bind (s2.at ?_)
 refine wpAny_bind (s3.at ?_)
 refine wpAny_bind (s4.at ?_)
 refine wpAny_bind (wpAny_loadPart hx ?_)
 dsimp only
 refine wpAny_bind ?_
 rw[nsGet_eq]
 refine nd_load hd ?_
 rw[nsLook_of hl]
 exact wpAny_pure (wpAny_bind (wpAny_rule (wpAny_pure h)))
theorem wK(m:Nat):(Value.str (Str.ofString "rows") 0).isStr (ownName m)=false:=by
 unfold ownName
 split<;>decide+kernel
theorem FA{c:Cx}{m:Nat}{x:PV}{v:Value}(kn:dj m x Z=true)(hm:3<=m)(I:Inv c J Z P)(V:Vl c P x v):∃cl j f a dx,x=.inst cl j/\v=.ref a/\ej cl m=some f/\P.s.heap.get? a=some (gX cl dx)/\∃r,MR c.toBs P.s.heap P.Y dx (.attrs r):=by
 cases x with
 |inst cl j=>
  have kn:(match ar Z j with | some o=>(match o with | .attrs _=>bif Nat.beq cl 0 then Nat.beq m 3 else (Nat.beq cl 1&&(Nat.beq m 3||(Nat.beq m 4||Nat.beq m 5))) | _=>false) | .none=>false)=true:=kn
  cases q:ar Z j with
  |none=>rw[q] at kn;cases kn
  |some o=>
   rw[q] at kn
   cases o with
   |attrs r=>exact(KI kn).2.elim λf hf=>V.elim λa V=>V.elim λdx V=>⟨cl,j,f,a,dx,rfl,V.1,hf,V.2.1,r,I.so.at q V.2.2⟩
   |_=>cases kn
 |fc ks vs=>exact absurd (Nat.eq_of_beq_eq_true kn▸hm) (by decide)
 |ref i=>
  cases q:ar Z i with
  |none=>
   rw[show dj m (.ref i) Z=_ from congrArg (λo:Option MO=>match o with | some o=>lS m o | .none=>false) q] at kn
   cases kn
  |some o=>
   rw[show dj m (.ref i) Z=lS m o from congrArg (λo:Option MO=>match o with | some o=>lS m o | .none=>false) q] at kn
   cases o with
   |list l=>exact absurd (Nat.eq_of_beq_eq_true kn▸hm) (by decide)
   |dict kk es=>exact absurd (bJ hm (Nat.le_of_ble_eq_true kn)) (by decide)
   |attrs r=>exact nomatch kn
 |_=>exact nomatch kn
theorem wM{K:Frag}(X:K.In G.c.hc)(hC:∀cl f m,ej cl m=some f->iC K cl)(hF:∀cl f m,ej cl m=some f->lz G.cf G.c.toBs (.ref (eL f)) f G.n/\∃o fd,G.c.hc.get? (eL f)=some o/\o.data=.func fd)
  {o:PySem.Expr} {apos pos:Pos} {es:List PySem.Expr} {mo:ME} {ms:bZ} {m:Nat} (hm:3<=m) (mO:attributeBase o (ownName m) G.env (eval o G.env)=eval o G.env) (hl:es.length<30) (Bl:(apos.endLine == pos.line)=true)
  (hu:es.all bh=true) (S:aT G o mo) (L:iZ G es ms):aT G (.Call (.Attribute o (ownName m) apos) es [] pos) (.aU mo m ms):=by
 intro J Z P Q E I F
 rw[arm_eval_Call,mO]
 refine wpAny_bind (S.go I F λx cX bg v fX aN V aW=>wpAny_bind (wpAny_standAt ?_))
 have QH:methodCallPos true o G.env apos pos=pure pos:=by unfold methodCallPos;simp [Bl]
 unfold methodCall
 rw[show methodCallForm (es.length+([]:List Keyword).length) (backTo pos (starEach es G.env)) (backToKw pos (keywordEach [] G.env))=true from C7 hu hl]
 obtain ⟨cl,j,f,a,dx,rfl,rfl,hf,ga,r,M⟩:=FA aW.om.1 hm aN V
 obtain ⟨ds,nn,gd,lk⟩:=Bm (wK m) M
 obtain ⟨F,fo,fd,ho,QI⟩:=hF cl f m hf
 refine wpAny_bind (wpAny_holding (tD (λa o e=>aN.kc a o (X a o e)) (hC cl f m hf) hf ga gd lk (wpAny_bind (wpAny_of_eq QH ?_))))
 refine callWith_function (o:=fo) (fd:=fd) (cA (bC hu) (L.go aN aW.om.2 λps dF cv vs cY bU W dw=>⟨⟨bU.kc _ _ ho,QI⟩,C5 F (ps:=.inst cl j::ps) (vs:=.ref a::vs) bU (aH.cons (V.to aN cY) W) ?_⟩))
 have dw:Fo E (bT G.c J (Vl G.c) Q) cv ((ej cl m).bind λf=>G.cf f (.inst cl j::ps) dF):=dw
 rw[hf] at dw
 exact dw
theorem FC{K:Frag}(X:K.In G.c.hc)(hC:∀cl,cl<=1->iC K cl){value:PySem.Expr}{m:ME}{pos:Pos}(S:aT G value m)(mO:attributeBase value "rows" G.env (eval value G.env)=eval value G.env):aT G (.Attribute value "rows" pos) (.attr m):=by
 intro J Z P Q E I F
 refine Attribute_any_ (S.go I F λx cX bg v fX aN V aW=> ?_) (by rw[arm_eval_Attribute,mO])
 refine aW.rb λq e bY=>bY.rb λo qo dw=>dw.rb λr qr lA=>lA.rb λw qw KN=>KN.rb λi qi KO=> ?_
 clear F aW bY dw lA KN
 obtain ⟨cl,j⟩:=q
 cases rS e;cases pZ qr;cases qw;cases kT qi
 obtain ⟨a,dx,rfl,ga,ea⟩:=V
 obtain ⟨ds,nn,gd,hs,t,w,rfl,W⟩:=aN.so.at qo ea
 obtain ⟨b,rfl,eb⟩:=W
 have C:=hC cl (Nat.le_of_ble_eq_true KO.rm.1)
 exact get_value (λa o e=>aN.kc a o (X a o e)) (ox:=gX cl dx) (C:=b9 cl) (od:=some (fP #[⟨hs,.str (Str.ofString "rows") t,.ref b⟩] nn)) ⟨ga,rfl,rfl,gd⟩ C.ga (C.ro hs t (.ref b) nn rfl) rfl (KO.rm.2.here aN (VR.mD eb))
theorem uq(A:Around)(C:Addr)(vs:List Value):(A.under (.builtin "type.__call__" ⟨.ref C::vs,[]⟩)).depth=A.depth+1/\(A.under (.builtin "type.__call__" ⟨.ref C::vs,[]⟩)).units=A.units+1:=by
 constructor
 ·show A.depth+Code.weight _=_
  rw[show Code.weight (.builtin "type.__call__" ⟨.ref C::vs,[]⟩)=1 by rfl]
 ·show A.units+Code.cUnits _=_
  rw[show Code.cUnits (.builtin "type.__call__" ⟨.ref C::vs,[]⟩)=1 by rfl]
theorem Jb(VG:4<=G.k){K:Frag}(X:K.In G.c.hc){cl f:Nat}(C:iC K cl)(hf:lJ cl=some f)(F:lz G.cf G.c.toBs (.ref (eL f)) f G.n)
  {x:Str} {p pos:Pos} {es:List PySem.Expr} {ms:bZ} (hk:G.env.kindOf x=some .globalImplicit) (hx:G.T.mg x=some (.ref (b9 cl))) (Ol:keepIn K (.ref (b9 cl))=true) (hd:(x == ("__debug__":Str))=false)
  (hu:es.all bh=true) (L:iZ G es ms):aT G (.Call (.Name x p) es [] pos) (.new cl ms):=by
 intro J Z P Q E I QJ
 refine Call_ (jc I hk hx hd (callWith_of (P:=K.In) (by rw[bC hu];rfl) (keeps_K Ol) (cA (bC hu) (L.go I QJ λps cX bg vs fX aN V tE=> ?_))))
 have j9:K.In bg.s.heap:=λa o e=>aN.kc a o (X a o e)
 refine⟨j9,wpAny_call (make_core (makes_of j9 C.Sw) (looks_findIn j9 (C.uo f hf).1) (λself=>bind_fn j9 self (C.uo f hf).2) (.inl rfl) ?_)⟩
 have tE:Fo E (bT G.c J (Vl G.c) Q) bg ((lJ cl).bind λf=>ay (G.cf f (.inst cl cX.length::ps) (cX++[.attrs .none])) λr ag=>(lH r).bind λO=>av (.inst cl cX.length) ag):=tE
 rw[hf] at tE
 have tE:Fo E (bT G.c J (Vl G.c) Q) bg (ay (G.cf f (.inst cl cX.length::ps) (cX++[.attrs .none])) λr ag=>(lH r).bind λO=>av (.inst cl cX.length) ag):=tE
 have k₂:Sub bg.s.heap ((bg.s.heap.push emptyDict).push (instObj (b9 cl) bg.s.heap.objs.size)):=λO O e=>Heap.get?_push_of_some _ (Heap.get?_push_of_some _ e)
 have gx:((bg.s.heap.push emptyDict).push (instObj (b9 cl) bg.s.heap.objs.size)).get? (bg.s.heap.objs.size+1)=some (gX cl bg.s.heap.objs.size):=by heap_get
 have x:=aN.push (m:=.attrs none) (t:=bg.s.toks) k₂ (cz _) ⟨#[],0,Heap.get?_push_of_some _ (Heap.get?_push_size _ rfl),rfl⟩
 have Vx:Vl G.c (bg.at _ _ bg.s.toks) (.inst cl cX.length) (.ref (bg.s.heap.objs.size+1)):=⟨_,_,rfl,gx,nY aN⟩
 have u:=uq G.A (b9 cl) ([]++vs)
 refine codeAny_mono (F G.c _ rfl J _ (bg.at _ _ bg.s.toks) (λv s=>v=.none/\Q (.ref (bg.s.heap.objs.size+1)) s) E (.inst cl cX.length::ps) (.ref (bg.s.heap.objs.size+1)::vs) G.iw.fr G.iw.hn ?_ ?_ x.1 (aH.cons Vx (V.to aN x.2)) (Fo.f (Fo.ay (R:=Vl G.c) (tE.up x.2) λr ag P' v A' I' W QK=>QK.ob λO e QL=> ?_) x.1)) λr s' z=> ?_
 ·rw[u.1];have:=G.iw.dp;omega
 ·rw[u.2];have:=G.iw.hu;omega
 ·cases rR e
  exact⟨W,QL.same I' (Vx.to x.1 A')⟩
 ·rcases r with e | (v | _ | _ | _)<;>first | exact z | exact z.elim
end
theorem Jc{J:aD}{i:Nat}{p q:PV}(h:bD (cU J i p) i=some q):q=p:=by
 induction J generalizing i with
 |nil=>exact(aQ rfl h).elim
 |cons o J ih=>cases i with
  |zero=>exact(Option.some.inj h).symm
  |succ i=>exact ih h
theorem Jd{J:aD}{i j:Nat}{p:PV}(n:j≠i):bD (cU J i p) j=bD J j:=by
 induction J generalizing i j with
 |nil=>rfl
 |cons o J ih=>cases i with
  |zero=>cases j with
   |zero=>exact absurd rfl n
   |succ j=>rfl
  |succ i=>cases j with
   |zero=>rfl
   |succ j=>exact ih λe=>n (congrArg (· +1) e)
section
variable{G:Gx}{J aY:aD}{Z ag:af}{P:Pt}{E:Value->Shared->Prop}{p:PV}{v:Value}{i:Nat}
theorem Inv.Dc{c:Cx}(I:Inv c J Z P){h':Heap}(kp:∀a o,P.s.heap.get? a=some o->a∉P.Y->a≠c.L->h'.get? a=some o):∀a o,P.s.heap.get? a=some o->ez o->h'.get? a=some o:=
 λa o e s=>kp a o e (I.so.off e s.no) (I.zI e s.t).2
theorem gS{x:Str}{Q:Unit->Shared->Prop}(I:Inv G.c J Z P)(hx:G.c.locs[i]? =some x)(V:Vl G.c P p v)(h:∀P',To G.c P P'->Inv G.c (cU J i p) Z P'->Q () P'.s):G.c.W G.A (storeName G.env x v) Q E P.s:=by
 obtain ⟨m,N,hl⟩:=I.aa
 refine wpAny_storeName_local (G.iw.kl i x hx) (G.iw.lo.symm▸N) (λh' Nh hs=> ?_) (by rw[G.iw.kf];rfl)
 rw[G.iw.lo] at Nh hs
 have kp:∀a o,P.s.heap.get? a=some o->a∉P.Y->a≠G.c.L->h'.get? a=some o:=λa o e O y=>(hs.2 a y).trans e
 have s:=I.Dc kp
 have la:Later P.s.heap P.Y h' P.Y:=⟨s,[],(List.append_nil _).symm⟩
 have y:=I.write (aY:=cU J i p) (t:=P.s.toks+1) (I.so.move s λa m o e=>(hs.2 a (I.sep a m).2).trans e) kp ⟨_,Nh,λj y q hy hq=> ?_⟩
 ·exact h _ y.2 y.1
 ·by_cases KP:j=i
  ·subst KP
   cases Jc hq
   exact⟨v,if_pos (bF hy hx),VR.bc la V⟩
  ·rw[Jd KP] at hq
   exact(hl j y q hy hq).imp λv' x'=>⟨(if_neg λ(e:y=x)=>KP ((List.getElem?_inj (List.getElem?_eq_some_iff.mp hy).1 G.iw.nd).mp (hy.trans (e▸hx.symm)))).trans x'.1,VR.bc la x'.2⟩
theorem FD{e:PySem.Expr}{m:ME}{pos:Pos}(hs:swapsWith e none pos.line G.env=pure false)(hi:interactive G.env=false)(S:aT G e m):ef G (.Expr e pos) (.expr m):=λO O O O O I F=>
 wpAny_Expr_any (S.go I F λO O bg O O aN O aW=>aW bg .refl aN) hi hs
theorem FE{x:Str}{e:PySem.Expr}{m:ME}{p pos:Pos}(hx:G.c.locs[i]? =some x)(hs:swapsWith e (some (.Name x p)) pos.line G.env=pure false)(S:aT G e m):ef G (.Assign [.Name x p] e pos) (.aK i m):=λO O O O O I F=>
 wpAny_Assign_Name (S.go I F λO O O O O aN V aW=>gS aN hx V aW) hs
theorem Je{e:PySem.Expr}{m:ME}{pos:Pos}(S:aT G e m):ef G (.Return (some e) pos) (.ret m):=λO O O O O I F=>
 wpAny_Return_some (S.go I F λO O bg v O aN V aW=>aW bg v .refl aN.so V)
theorem FF{pos:Pos}:ef G (.Continue pos) .cont:=λO O P O O I F=>wpAny_Continue (F P .refl I)
theorem FG:iB G [] .nil:=λO O P O O I F=>wpAny_execs_nil (F P .refl I)
theorem Dd{t:PySem.Stmt}{ts:List PySem.Stmt}{m:MS}{ms:bG}(a:ef G t m)(b:iB G ts ms):iB G (t::ts) (.cons m ms):=λJ Z P Q E I F=>
 wpAny_execs_cons (a J Z P _ E I (Fo.bind (k:=λf Z=>match f.1 with | .next=>au G.cf G.gl ms f.2 Z | _=>av f Z) F λfl ag F'=>by
  obtain ⟨fl,aY⟩:=fl
  cases fl with
  |next=>exact λP' A I'=>b aY ag P' Q E I' (F'.up A)
  |cont=>exact F'
  |ret p=>exact F'))
theorem KQ{t:PySem.Expr}{m:ME}{a b:List PySem.Stmt}{ma mb:bG}{pos:Pos}(S:dK G t m)(ha:iB G a ma)(hb:iB G b mb):ef G (.If t a b pos) (.ba m ma mb):=λJ Z P Q E I F=>
 wpAny_If (S J Z P _ E I (Fo.vC (x:=au G.cf G.gl ma J) (y:=au G.cf G.gl mb J) F λb ag P' A I' F'=>by
  cases b with
  |true=>exact ha J ag P' Q E I' F'
  |false=>exact hb J ag P' Q E I' F'))
noncomputable def hU(locs:List Str):List PySem.Expr->List Nat->Prop
 |[],is=>is=[]
 |e::es,is=>∃x p i Hi,e=.Name x p/\is=i::Hi/\locs[i]? =some x/\hU locs es Hi
theorem qJ{es:List PySem.Expr}{is:List Nat}{locs:List Str}{env:Env}(h:hU locs es is):(assignEach es env).findIdx? (·.1)=none/\(assignEach es env).length=is.length:=by
 induction es generalizing is with
 |nil=>cases h;exact⟨rfl,rfl⟩
 |cons e es ih=>
  obtain ⟨x,p,i,Hi,rfl,rfl,_,h⟩:=h
  refine⟨?_,congrArg (· +1) (ih h).2⟩
  show List.findIdx? (·.1) ((false,assign (.Name x p) env)::assignEach es env)=none
  rw[List.findIdx?_cons,(ih h).1]
  rfl
theorem ze{es:List PySem.Expr}{is:List Nat}{ps:List PV}{vs:List Value}{Q:Unit->Shared->Prop}(hn:hU G.c.locs es is)(hl:kP J is ps=some aY)(I:Inv G.c J Z P)(V:cy G.c P ps vs)
  (h:∀P',To G.c P P'->Inv G.c aY Z P'->Q () P'.s):G.c.W G.A (assignInOrder ((assignEach es G.env).map (·.2)) vs) Q E P.s:=by
 induction es generalizing is ps vs J P with
 |nil=>
  cases hn
  cases ps with
  |nil=>cases hl;exact aH.elim0 (M:=λvs=>G.c.W G.A (assignInOrder [] vs) Q E P.s) V (wpAny_assignInOrder_none (h P .refl I))
  |cons _ _=>exact nomatch hl
 |cons e es ih=>
  obtain ⟨x,p,i,Hi,rfl,rfl,hx,hn⟩:=hn
  cases ps with
  |nil=>exact nomatch hl
  |cons q ps=>exact aH.cZ (M:=λvs=>G.c.W G.A (assignInOrder ((assignEach (.Name x p::es) G.env).map (·.2)) vs) Q E P.s) V λv vs V1 V2=>
    wpAny_assignInOrder_more (wpAny_assign_Name (gS I hx V1 λP' A I'=>ih hn hl I' (cy.to V2 I A) λud B=>h ud (A.trans B)))
theorem De{is:List Nat}{ps:List PV}(h:kP J is ps=some aY):is.length=ps.length:=by
 induction is generalizing J ps with
 |nil=>cases ps with
  |nil=>rfl
  |cons _ _=>exact nomatch h
 |cons i is ih=>cases ps with
  |nil=>exact nomatch h
  |cons _ _=>exact congrArg (· +1) (ih h)
theorem rW{es:List PySem.Expr}{is:List Nat}{kk:Nat}{tp:Pos}{l:List PV}{Q:Unit->Shared->Prop}(hn:hU G.c.locs es is)(hl:kP J is l=some aY)(I:Inv G.c J Z P)(V:Vl G.c P (.ah l) v)
  (h:∀P',To G.c P P'->Inv G.c aY Z P'->Q () P'.s):G.c.W G.A (assign (.Tuple es kk tp) G.env v) Q E P.s:=
 VR.eF (M:=λv=>G.c.W G.A (assign (.Tuple es kk tp) G.env v) Q E P.s) V λt xs m g V=>
  have a:=qJ (env:=G.env) hn
  wpAny_assign_Tuple G.iw.hn ⟨_,g,rfl,m,rfl⟩ (a.2.trans ((De hl).trans (cy.size (c:=G.c) (P:=P) V).symm)) a.1 λh' he=>
   have y:=I.sub (h':=h') (t:=P.s.toks) λx o e=>he x o (Nat.ne_of_lt (Heap.lt_size e)) e
   ze hn hl y.1 (cy.to V I y.2) λud B=>h ud (y.2.trans B)
noncomputable def ph:PySem.Expr->Bool
 |.Tuple ..=>true
 |.ListComp ..=>true
 |.SetComp ..=>true
 |.DictComp ..=>true
 |_=>false
theorem Df{es:List PySem.Expr}{is:List Nat}{kk:Nat}{tp pos:Pos}{e:PySem.Expr}{m:ME}(hn:hU G.c.locs es is)(hv:ph e=false)(S:aT G e m):ef G (.Assign [.Tuple es kk tp] e pos) (.dR is m):=by
 intro J Z P Q E I F
 have F:Fo E (fW G.c Q) P (ay (ai G.cf G.gl m J Z) λv Z=>read Z (((dD v).bind (kP J is)).bind λJ=>some (.next,J))):=F
 refine Assign_Tuple (S.go I F λp O O v O aN V aW=>aW.rb λaY e bY=>bm e λl el hl=> ?_) (by cases e<;>first | rfl | cases hv) (by cases e<;>first | rfl | cases hv)
 cases eA el
 exact rW hn hl aN V bY
theorem Fo.put{c:Cx}{M:Prop}{Q:Flow->Shared->Prop}{o:Option af}(F:Fo E (fW c Q) P (FR.put J o))(h:∀ag,o=some ag->(∀P',Inv c J ag P'/\To c P P'->Q .next P'.s)->M):M:=by
 cases o with
 |none=>exact F.elim
 |some ag=>exact h ag rfl λP' x=>F P' x.2 x.1
theorem Bn{o i e:PySem.Expr}{mo mi me:ME}{p pos:Pos}(hs:ph e=false)(So:aT G o mo)(Si:aT G i mi)(Se:aT G e me):
  ef G (.Assign [.Subscript o i p] e pos) (.b4 mo mi me):=λJ Z P Q E I F=>
 wpAny_Assign_Subscript (Se.go I F λv O O O O aN V aW=>So.go aN aW λa O O O cY bU Va bY=>Si.go bU bY λi' Om di O dy eG Vi dw=>Fo.put dw λHj q lA=>vg G.hu eG (Va.to bU dy) Vi ((V.to aN cY).to bU dy) q lA) (by cases e<;>first | rfl | cases hs)
theorem Jf{x:Str}{e:PySem.Expr}{m:ME}{p pos:Pos}(hx:G.c.locs[i]? =some x)(S:aT G e m):ef G (.AugAssign (.Name x p) .Add e pos) (.aug i .add m):=by
 intro J Z P Q E I F
 obtain ⟨mm,N,hl⟩:=I.aa
 have F:Fo E (fW G.c Q) P (ay (read Z (bD J i)) λx Z=>ay (ai G.cf G.gl m J Z) λy Z=>ay (read Z (bL x)) λm Z=>ay (read Z (bL y)) λn Z=>ay (lift (binop .add (.int m) (.int n) Z)) λv Z=>av (.next,cU J i v) Z):=F
 cases q:bD J i with
 |none=>rw[q] at F;exact F.elim
 |some a=>
  rw[q] at F
  have F:Fo E (fW G.c Q) P (ay (ai G.cf G.gl m J Z) λy Z=>ay (read Z (bL a)) λm Z=>ay (read Z (bL y)) λn Z=>ay (lift (binop .add (.int m) (.int n) Z)) λv Z=>av (.next,cU J i v) Z):=F
  obtain ⟨v0,ev,V0⟩:=hl i x _ hx q
  refine wpAny_AugAssign_Name (wpAny_loadName_local G.iw.kf (G.iw.kl i x hx) (G.iw.lo.symm▸N) ev ?_)
  refine S.go I F λy cX bg vy fX aN V aW=> ?_
  cases qa:bL a with
  |none=>rw[qa] at aW;exact aW.elim
  |some j=>cases qb:bL y with
   |none=>rw[qa,qb] at aW;exact aW.elim
   |some k=>
    rw[qa,qb] at aW
    refine Vl.int (M:=λv0=>G.c.W G.A (inplaceOp .Add v0 vy) _ E bg.s) qa (Vl.to V0 I fX) λt=>Vl.int (M:=λvy=>G.c.W G.A (inplaceOp .Add (.int j t) vy) _ E bg.s) qb V λu=>AutoIntOps.iadd_0 (a:=j) (t:=t) (b:=k) (u:=u) ?_
    have y:=aN.sub (h':=bg.s.heap) (t:=bg.s.toks+1) λO O e=>e
    exact gS y.1 hx (VR.mC _ _) λP' A' I'=>aW P' (y.2.trans A') I'
noncomputable def pj(h:Heap)(L:Addr):List (Addr×Obj):=(List.range h.objs.size).filterMap λa=>if a=L then none else (h.get? a).map (a,·)
theorem p7{h:Heap}{L a:Addr}{o:Obj}(e:h.get? a=some o)(n:a≠L):(a,o)∈pj h L:=
 List.mem_filterMap.mpr ⟨a,List.mem_range.mpr (Heap.lt_size e),by simp [n,e]⟩
theorem zf{h:Heap}{L:Addr}{p:Addr×Obj}(m:p∈pj h L):h.get? p.1=some p.2/\p.1≠L:=by
 obtain ⟨a,_,e⟩:=List.mem_filterMap.mp m
 split at e
 ·cases e
 ·rename_i hn
  obtain ⟨o,ho,rfl⟩:=Option.map_eq_some_iff.mp e
  exact⟨ho,hn⟩
set_option tactic.hygienic true in
theorem vh(h:Heap)(L:Addr):((pj h L).map (·.1)).Nodup:=by
 have go:∀l:List Nat,l.Nodup->((l.filterMap λa=>if a=L then none else (h.get? a).map (a,·)).map (·.1)).Nodup/\∀x∈((l.filterMap λa=>if a=L then none else (h.get? a).map (a,·)).map (·.1)),x∈l:=by
  intro l
  induction l with
  |nil=>intro _;simp
  |cons a l ih=>
   intro nd
   rw[List.nodup_cons] at nd
   obtain ⟨i1,i2⟩:=ih nd.2
   rw[List.filterMap_cons]
   split
   ·exact⟨i1,λx hx=>List.mem_cons_of_mem _ (i2 x hx)⟩
   ·rename_i b q
    have hb:b.1=a:=by
     split at q
     ·cases q
     ·obtain ⟨o,_,rfl⟩:=Option.map_eq_some_iff.mp q;rfl
    simp only [List.map_cons,List.nodup_cons,hb]
    exact⟨⟨λm=>nd.1 (i2 a m),i1⟩,λx hx=>by
     rcases List.mem_cons.mp hx with rfl | hx
     ·exact cR
     ·exact List.mem_cons_of_mem _ (i2 x hx)⟩
 exact(go _ List.nodup_range).1
theorem FH{l:List (Addr×Obj)}{d:Addr}{o:Obj}(nd:(l.map (·.1)).Nodup)(m:(d,o)∈l):∃pre post,l=pre++(d,o)::post/\(∀p∈pre,p.1≠d)/\∀p∈post,p.1≠d:=by
 obtain ⟨pre,post,rfl⟩:=List.append_of_mem m
 rw[List.map_append,List.map_cons,List.nodup_append,List.nodup_cons] at nd
 refine⟨pre,post,rfl,λp hp e=> ?_,λp hp e=> ?_⟩
 ·exact nd.2.2 p.1 (List.mem_map_of_mem hp) d cR e
 ·exact nd.2.1.1 (e▸List.mem_map_of_mem (f:=(·.1)) hp)
theorem KR{h:Heap}{L:Addr}{m:Str->Option Value}(N:h.Ns L m):Fr {} L h m/\News {} L h (pj h L):=
 ⟨⟨N,λb o e=>by simp [Heap.get?] at e,Nat.zero_le _⟩,λp hp=>let ⟨a,b⟩:=zf hp;⟨a,b,by simp [Heap.get?]⟩⟩
theorem rX(t:Tok):(Value.str (Str.ofString "rows") t).isStr "rows"=true:=by
 show (Value.str (Str.ofString "rows") 0).isStr "rows"=true
 decide+kernel
theorem Bo{K:Frag}{cl j:Nat}{a dx:Addr}{r:Option PV}{Q:Unit->Shared->Prop}(X:K.In G.c.hc)(C:iC K cl)(I:Inv G.c J Z P)
  (ga:P.s.heap.get? a=some (gX cl dx)) (ea:P.Y[j]? =some dx) (hj:ar Z j=some (.attrs r)) (V:Vl G.c P p v)
  (h:∀P',Inv G.c J (sset Z j (.attrs (some p))) P'/\To G.c P P'->Q () P'.s):G.c.W G.A (setAttr (.ref a) "rows" v) Q E P.s:=by
 obtain ⟨ds,nn,gd,hr⟩:=I.so.at hj ea
 obtain ⟨m,N,hl⟩:=I.aa
 obtain ⟨F,Nw⟩:=KR N
 obtain ⟨pre,post,e,n1,n2⟩:=FH (vh P.s.heap G.c.L) (p7 gd (I.sep _ (List.mem_of_getElem? ea)).2)
 have In:InstAt P.s.heap a (gX cl dx) (b9 cl) (some (fP ds nn)):=⟨ga,rfl,rfl,gd⟩
 have X':K.In P.s.heap:=λa o e=>I.kc a o (X a o e)
 obtain ⟨kY,t',KU,put,look⟩:∃kY t' KU,Obj.putName "rows" (PyData.keyHash G.c.w.params "rows") (.str "rows" (P.s.toks+1)) v (fP ds nn)=fP #[⟨kY,.str (Str.ofString "rows") t',v⟩] KU/\(lookIn "rows" (fP ds nn)).isSome=true:=by
  cases r with
  |none=>exact hr▸⟨_,P.s.toks+1,nn+1,putName_dict "rows" _ _ v [] nn,rfl⟩
  |some q=>
   obtain ⟨hs,t,x,rfl,_⟩:=hr
   refine⟨hs,t,nn,(putName_dict "rows" _ _ v [⟨hs,.str (Str.ofString "rows") t,x⟩] nn).trans ?_,?_⟩
   ·delta putN;simp [putL,rX t,dictOf]
   ·delta lookIn;simp [rX t]
 refine set_plain X' In C.se (osa_dict (s:={P.s with toks:=P.s.toks+1}) (pre:=pre) (post:=post) (es:=[⟨kY,.str (Str.ofString "rows") t',v⟩]) (n:=KU) F (e▸Nw) X' In rfl C.po C.ta C.hd look n1 n2 put rfl (show 1<=1000 by decide) λh' F' N'=> ?_)
 have kp:∀x o,P.s.heap.get? x=some o->x≠G.c.L->x≠dx->h'.get? x=some o:=λx o ex hL hd=>by
  have m:=p7 ex hL
  rw[e] at m
  exact(N' (x,o) ((List.mem_append.mp m).elim (List.mem_append_left _) λm=>(List.mem_cons.mp m).elim (λm=>absurd (congrArg Prod.fst m) hd) λm=>List.mem_append_right _ (List.mem_cons_of_mem _ m))).1
 have Dg:∀x o,P.s.heap.get? x=some o->x∉P.Y->x≠G.c.L->h'.get? x=some o:=λx o ex hm hL=>kp x o ex hL λq=>hm (q▸List.mem_of_getElem? ea)
 have s:=I.Dc Dg
 have la:Later P.s.heap P.Y h' P.Y:=⟨s,[],(List.append_nil _).symm⟩
 exact h _ (I.write (I.so.put hj ea s (λx m n o ex=>kp x o ex (I.sep x m).2 n) ⟨_,_,(N' (dx,_) (List.mem_append_right _ cR)).1,kY,t',v,rfl,VR.bc la V⟩) Dg ⟨m,F'.ns,λi x q hx hq=>(hl i x q hx hq).imp λO=>And.imp_right (VR.bc la)⟩)
theorem FI{K:Frag}{x:PV}{va:Value}{Q:Unit->Shared->Prop}(X:K.In G.c.hc)(hC:∀cl,cl<=1->iC K cl)(I:Inv G.c J Z P)(Va:Vl G.c P x va)(V:Vl G.c P p v)(q:tf x p Z=some ag)
  (h:∀P',Inv G.c J ag P'/\To G.c P P'->Q () P'.s):G.c.W G.A (setAttr va "rows" v) Q E P.s:=by
 refine bm q λij e q2=>bm q2 λo qo q3=>bm q3 λr qr q4=> ?_
 obtain ⟨cl,j⟩:=ij
 cases rS e;cases pZ qr;cases (mm q4).2
 obtain ⟨b,dx,rfl,ga,ea⟩:=Va
 exact Bo X (hC cl (Nat.le_of_ble_eq_true (mm q4).1)) I ga ea qo V h
theorem zg{K:Frag}(X:K.In G.c.hc)(hC:∀cl,cl<=1->iC K cl){o e:PySem.Expr}{mo me:ME}{p pos:Pos}(hs:swapsWith e (some (.Attribute o "rows" p)) pos.line G.env=pure false)(So:aT G o mo)(Se:aT G e me):
  ef G (.Assign [.Attribute o "rows" p] e pos) (.setAttr mo me):=λJ Z P Q E I F=>
 plainObj_wpAny_Assign_Attribute (Se.go I F λv O O vv O aN V aW=>So.go aN aW λa dF cv va cY bU Va bY=>Fo.put bY λOm q dw=>FI X hC bU Va (V.to aN cY) q dw) hs
end
end FR
section
set_option maxRecDepth 100000
namespace FR
open PySem PySem.W PySem.Calls PyProof.Rows PySem.SeqAt
open AutoSeq1 (wpAny_loadPart')
section
variable{prog:Program}{w:World}{A:Around}{E:Value->Shared->Prop}{s:Shared}
set_option tactic.hygienic true in
set_option backward.match.sparseCases true in
theorem qK{target:PySem.Expr}{I:Addr}{v:Value}{o:Obj}{T:String}{Q:Unit->Shared->Prop}(ho:s.heap.get? I=some o)(hc:o.cls=.type T)
  (hn:(["enumerate","zip","dict_itemiterator","dict_reverseitemiterator","odict_iterator","itertools.zip_longest","itertools.pairwise"].contains T)=false) (hQ:Q () s):wpAny (model prog w) A (letOwnedTupleGo target (.ref I) v) Q E s:=by
 have go:wpAny (model prog w) A (do
   let (.ref r,.ref a):=(Value.ref I,v) | return
   let o <-load r
   match o.cls,o.data with
   |.type n,.fields vs=>
    if ["enumerate","zip","dict_itemiterator","dict_reverseitemiterator","odict_iterator","itertools.zip_longest","itertools.pairwise"].contains n&&vs[0]? == some (rawInt a) then
     rule "for.unpacks-the-owned-tuple"
     updateField r 0 .none
   |_,_=>pure ()) Q E s:=by
  cases v with
  |ref a=>
   refine wpAny_bind (wpAny_load ho ?_)
   rw[hc]
   split
   ·rename_i n vs e1 e2
    cases e1
    rw[if_neg (by rw[hn];simp)]
    exact wpAny_pure hQ
   ·exact wpAny_pure hQ
  |_=>exact wpAny_pure hQ
 cases target<;>first | exact wpAny_pure hQ | exact go
theorem pU{it t:Addr}{i:Nat}{items}{x:Value}{Q:Value->Shared->Prop}(hit:s.heap.IsTupleIter it t i)(ht:s.heap.IsTuple t items)(hx:items[i]? =some x)
  (hQ:∀h',h'.IsTupleIter it t (i+1)->Heap.SameBut it s.heap h'->Q x {s with heap:=h'}):wpAny (model prog w) A (Builtin.SmallTypes.nextOf (.ref it)) Q E s:=by
 obtain ⟨o,ho,hc,hd⟩:=id hit
 obtain ⟨ol,Dh,_,nl,wN⟩:=ht
 unfold Builtin.SmallTypes.nextOf
 refine wpAny_bind (wpAny_callSpecial?_slot (name:=Str.ofString "__next__") hit.typeIs F.slot_tuple_iterator_next
  (wpAny_call_entry F.slot_tuple_iterator_next hit.typeIs F.entry_tuple_iterator_next ?_ (F.args_tuple_iterator_next_1 _)))
 show wpAny _ _ (field (.ref it) 0 >>= _) _ _ s
 refine wpAny_bind (wpAny_field ho hd (x:=.ref t) rfl ?_)
 show wpAny _ _ (if (Value.ref t == Value.none)=true then _ else _) _ _ s
 rw[if_neg (show ¬((Value.ref t == Value.none)=true) from Bool.false_ne_true)]
 show wpAny _ _ (field (.ref it) 1 >>= _) _ _ s
 refine wpAny_bind (wpAny_field ho hd (x:=.int i 0) rfl ?_)
 show wpAny _ _ (seqItems? (.ref t) >>= _) _ _ s
 refine wpAny_bind (wpAny_seqItems Dh wN ?_)
 simp only [Int.toNat_natCast,hx]
 refine wpAny_bind (wpAny_setField ho hd (by simp) (wpAny_pure ⟨x,rfl,wpAny_pure (hQ _ ?_ (Heap.SameBut.update ..))⟩))
 exact⟨_,Heap.get?_update_self _ ho (Obj.isFreed_of_fields (Obj.data_mapFields hd _)),(Obj.cls_mapFields ..).trans hc,by rw[Obj.data_mapFields hd];simp [rawInt]⟩
theorem qL{it t:Addr}{i:Nat}{items}{Q:Value->Shared->Prop}(hh:A.handled=none)(hit:s.heap.IsTupleIter it t i)(ht:s.heap.IsTuple t items)(hx:items[i]? =none)
  (hE:∀h' e,Heap.ExtBut it s.heap h'->(∃o,h'.get? e=some o/\o.cls=.type "StopIteration")->E (.ref e) {s with heap:=h'}):wpAny (model prog w) A (Builtin.SmallTypes.nextOf (.ref it)) Q E s:=by
 obtain ⟨o,ho,hc,hd⟩:=id hit
 obtain ⟨ol,Dh,_,nl,wN⟩:=ht
 unfold Builtin.SmallTypes.nextOf
 refine wpAny_bind (wpAny_callSpecial?_slot (name:=Str.ofString "__next__") hit.typeIs F.slot_tuple_iterator_next
  (wpAny_call_entry F.slot_tuple_iterator_next hit.typeIs F.entry_tuple_iterator_next ?_ (F.args_tuple_iterator_next_1 _)))
 show wpAny _ _ (field (.ref it) 0 >>= _) _ _ s
 refine wpAny_bind (wpAny_field ho hd (x:=.ref t) rfl ?_)
 show wpAny _ _ (if (Value.ref t == Value.none)=true then _ else _) _ _ s
 rw[if_neg (show ¬((Value.ref t == Value.none)=true) from Bool.false_ne_true)]
 show wpAny _ _ (field (.ref it) 1 >>= _) _ _ s
 refine wpAny_bind (wpAny_field ho hd (x:=.int i 0) rfl ?_)
 show wpAny _ _ (seqItems? (.ref t) >>= _) _ _ s
 refine wpAny_bind (wpAny_seqItems Dh wN ?_)
 simp only [Int.toNat_natCast,hx]
 refine wpAny_bind (wpAny_rule (wpAny_bind (wpAny_setField ho hd (by simp) ?_)))
 show wpAny _ _ (newExc (.type "StopIteration") [] >>= _) _ _ _
 refine wpAny_bind ?_
 simp only [newExc,newTuple]
 refine wpAny_bind (wpAny_newObj_type ?_ (by size_fits))
 refine wpAny_bind (m:=firstArgMember _ _) (wpAny_of_eq (a:=Value.none) (by first | rfl | (simp only [firstArgMember];rfl)) ?_)
 refine wpAny_newObj_type ?_ (by size_fits)
 simp only [raiseNew]
 refine wpAny_bind (wpAny_handled ?_)
 first | rw[show A.in1.handled=none from hh] | rw[hh]
 refine wpAny_bind (wpAny_pure (wpAny_throw ?_))
 exact hE _ _ (((Heap.SameBut.update ..).extBut.push _).push _) ⟨_,Heap.get?_push_size _ rfl,rfl⟩
theorem zh(hh:A.handled=none)(it t:Addr)(dC:t≠it)(items:Array Value):
  Draws prog w A it [it,t] items.size (λi v=>items[i]? =some v) (λi h=>h.IsTupleIter it t i/\h.IsTuple t items) where
 live:=λO O st=>let ⟨o,ho,_⟩:=st.1;⟨o,ho⟩
 frame:=λO O O st hk=>⟨let ⟨o,e,r⟩:=st.1;⟨o,hk it (by simp) o e,r⟩,let ⟨o,e,r⟩:=st.2;⟨o,hk t (by simp) o e,r⟩⟩
 item:=λi s Q E hi st hQ=>by
  refine pU st.1 st.2 (x:=items[i]) (by simp [hi]) λh' QM kY=> ?_
  exact hQ _ h' s.toks (by simp [hi]) ⟨QM,let ⟨o,e,r⟩:=st.2;⟨o,(kY.2 t dC).trans e,r⟩⟩ kY
 done:=λs Q E st hE=>qL hh st.1 st.2 (by simp) hE
set_option tactic.hygienic true in
theorem qM(l:Addr)(items:Array Value)(n:Nat)(KV:Option Addr)(sl:Array (Option Value)):
  Meets (Builtin.«enumerate.__new__» ⟨[.type "enumerate",.ref l],[]⟩) (λO R s=>s.heap.get? l=some {cls:=.type "tuple",dict:=KV,data:=.seq items n,slots:=sl}/\
   R (.ok (.ret (.ref (s.heap.push {cls:=.type "tuple_iterator",data:=.fields #[.ref l,.int 0 0]}).objs.size)))
    {s with heap:=(s.heap.push {cls:=.type "tuple_iterator",data:=.fields #[.ref l,.int 0 0]}).push {cls:=.type "enumerate",data:=.fields #[.none,.bool false,.ref s.heap.objs.size,rawInt 0,.none,.none]}}):=
 .of_wp λprog w A R s h=>by
  obtain ⟨hp,g,d,tk,os⟩:=s;obtain ⟨hl,h⟩:=h
  have QN:=sub_enumerate
  have hL:Heap.IsTuple (Shared.heap ⟨hp,g,d,tk,os⟩) l items:=⟨_,hl,rfl,n,rfl⟩
  wp_walk using wpAny_loadPart' hl
  refine wpAny_stack_any λst=>wpAny_pure ?_
  split
  ·rename_i c _ _ _ _ _
   cases (c == Value.type "enumerate")
   ·wp_walk using wpAny_loadPart' hl,wpAny_pyIter_tuple hL
    exact⟨_,rfl,h⟩
   ·wp_walk using wpAny_loadPart' hl,wpAny_pyIter_tuple hL
    exact⟨_,rfl,h⟩
  ·wp_walk using wpAny_loadPart' hl,wpAny_pyIter_tuple hL
   exact⟨_,rfl,h⟩
theorem rY{l:Addr}{items:Array Value}{Q:Value->Shared->Prop}(hL:s.heap.IsTuple l items)
  (h:∀h',IsEnum h' (s.heap.objs.size+1) s.heap.objs.size 0 .none->h'.IsTupleIter s.heap.objs.size l 0->h'.objs.size=s.heap.objs.size+2->
   (∀b o,s.heap.get? b=some o->h'.get? b=some o)->Q (.ref (s.heap.objs.size+1)) {s with heap:=h'}):
  wpAny (model prog w) A (call (.type "enumerate") [.ref l]) Q E s:=by
 obtain ⟨⟨c,KV,dt,sl⟩,hl,hc,n,hd⟩:=hL
 replace hc:c=.type "tuple":=hc
 replace hd:dt=.seq items n:=hd
 subst hc hd
 refine callType_new F.called_enumerate (by decide) (F.typeCall_enumerate_1 _) (F.newCall_enumerate_1 _) (λobj=>F.args_object_init_2 obj _) F.entry_enumerate_new
  (qM l items n KV sl) ⟨hl,?_⟩
 have hz:(s.heap.push {cls:=.type "tuple_iterator",data:=.fields #[.ref l,.int 0 0]}).objs.size=s.heap.objs.size+1:=Heap.size_push ..
 show _/\_
 rw[hz]
 have he:IsEnum ((s.heap.push {cls:=.type "tuple_iterator",data:=.fields #[.ref l,.int 0 0]}).push
   {cls:=.type "enumerate",data:=.fields #[.none,.bool false,.ref s.heap.objs.size,rawInt 0,.none,.none]}) (s.heap.objs.size+1) s.heap.objs.size 0 .none:=by
  have:=Heap.get?_push_size (s.heap.push {cls:=.type "tuple_iterator",data:=.fields #[.ref l,.int 0 0]})
   (o:={cls:=.type "enumerate",data:=.fields #[.none,.bool false,.ref s.heap.objs.size,rawInt 0,.none,.none]}) rfl
  rw[hz] at this;exact this
 refine⟨⟨_,he,rfl⟩,h _ he ⟨_,Heap.get?_push_of_some _ (Heap.get?_push_size _ rfl),rfl,rfl⟩ (by rw[Heap.size_push,hz]) λb o x=>Heap.get?_push_of_some _ (Heap.get?_push_of_some _ x)⟩
end
end FR
end
namespace FR
open PySem PySem.W PySem.Calls PyProof.Rows PySem.SeqAt
noncomputable def Fields(h:Heap)(fp:List Addr):Prop:=∀a∈fp,∃o vs,h.get? a=some o/\o.data=.fields vs
noncomputable def Kept(fp:List Addr)(h h':Heap):Prop:=∀a o,a∉fp->h.get? a=some o->h'.get? a=some o
section
variable{c:Cx}{J aY:aD}{Z ag:af}{P az:Pt}{fp:List Addr}{h':Heap}{t:Nat}{a:Addr}
theorem Fields.mu(hf:Fields P.s.heap fp)(S:cM c.toBs Z P.Y P.s.heap)(m:a∈fp):a∉P.Y:=λz=>
 (hf a m).elim λo x=>x.elim λvs x=>(S.obj z).elim λo' y=>y.2.f vs (bF x.1 y.1▸x.2)
theorem Fields.soft(hf:Fields P.s.heap fp)(m:a∈fp){o:Obj}(e:P.s.heap.get? a=some o)(s:ez o):False:=
 (hf a m).elim λo' x=>x.elim λvs x=>s.f vs (bF x.1 e▸x.2)
theorem Fields.bc(hf:Fields P.s.heap fp)(k:Kept fp P.s.heap h'):Later P.s.heap P.Y h' P.Y:=⟨λa o e s=>k a o (λm=>hf.soft m e s) e,[],(List.append_nil _).symm⟩
theorem Inv.asked(I:Inv c J Z P)(A:To c az P)(hn:∀a∈fp,iY c az a)(hf:Fields P.s.heap fp)(k:Kept fp P.s.heap h'):Inv c J Z (P.at P.Y h' t)/\To c az (P.at P.Y h' t)/\Later P.s.heap P.Y h' P.Y:=
 I.foreign A hn (λO m=>hf.mu I.so m) (λO m O e=>hf.soft m e) k
theorem Fields.kept{P':Pt}(hf:Fields P.s.heap fp)(I:Inv c J Z P)(A:To c P P'):∀a∈fp,∀o,P.s.heap.get? a=some o->P'.s.heap.get? a=some o:=λa m o e=>
 (hf a m).elim λo' x=>x.elim λvs x=>
  have t:=I.zI e λes k d=>nomatch ((congrArg Obj.data (bF e x.1)).symm.trans d).symm.trans x.2
  (A.keep a o e (hf.mu I.so m) t.1 λz=>t.2 (c_ z)).2
end
noncomputable def Nx(c:Cx)(en:Bool)(fp:List Addr)(St:Nat->Heap->Prop)(k:Nat)(P:Pt)(Q:Option Value->Shared->Prop)(x:Option (Option PV)):Prop:=match x with
 |none=>False
 |some x=>match x with
  |none=>∀h' t',Kept fp P.s.heap h'->Q none (P.at P.Y h' t').s
  |some p=>∀v h' t',Kept fp P.s.heap h'->VR c.toBs h' P.Y (wrap en k p) v->St (k+1) h'->Q (some v) (P.at P.Y h' t').s
structure lB(c:Cx)(A:Around)(target:PySem.Expr)(it:Value)(src:Src)(en:Bool)(fp:List Addr)(St:Nat->Heap->Prop)(az:Pt):Prop where
 frame:∀k h h',St k h->(∀a∈fp,∀o,h.get? a=some o->h'.get? a=some o)->(∀a o,az.s.heap.get? a=some o->ez o->h'.get? a=some o)->St k h'
 fields:∀k h,St k h->Fields h fp
 self:∀k(s:Shared)(Q E:Value->Shared->Prop),St k s.heap->Q it s->c.W A (pyIter it) Q E s
 next:∀k Z P(Q:Option Value->Shared->Prop)(E:Value->Shared->Prop),cM c.toBs Z P.Y P.s.heap->Later az.s.heap az.Y P.s.heap P.Y->St k P.s.heap->Nx c en fp St k P Q (cC Z k src)->
  c.W A (pyNext it) (λr c8=>match r with | none=>Q none c8 | some v=>c.W A (letOwnedTupleGo target it v) (λO jH=>Q (some v) jH) E c8) E P.s
section
variable{G:Gx}{J aY:aD}{Z:af}{P:Pt}{E:Value->Shared->Prop}
noncomputable def vD(locs:List Str)(e:PySem.Expr):jh->Prop
 |.one i=>∃x p,e=.Name x p/\locs[i]? =some x
 |.many is=>∃es k p,e=.Tuple es k p/\hU locs es is
theorem rZ{target:PySem.Expr}{t:jh}{p:PV}{v:Value}{Q:Unit->Shared->Prop}(ht:vD G.c.locs target t)(hb:fe t p J=some aY)(I:Inv G.c J Z P)(V:Vl G.c P p v)
  (h:∀P',To G.c P P'->Inv G.c aY Z P'->Q () P'.s):G.c.W G.A (assign target G.env v) Q E P.s:=by
 cases t with
 |one i=>
  obtain ⟨x,pos,rfl,hx⟩:=ht
  cases hb
  exact wpAny_assign_Name (gS I hx V h)
 |many is=>
  obtain ⟨es,k,pos,rfl,hn⟩:=ht
  refine bm hb λl el hl=> ?_
  cases eA el
  exact rW hn hl I V h
inductive Hk(G:Gx)(t:jh)(mb:bG)(src:Src)(en:Bool)(St:Nat->Heap->Prop)(E:Value->Shared->Prop)(Q:Flow->Shared->Prop)(az:Pt)(m:Nat):Shared->Prop
 |mk (j:Nat) (J:aD) (Z:af) (P:Pt) (I:Inv G.c J Z P) (A:To G.c az P) (L:Later az.s.heap az.Y P.s.heap P.Y) (nG:St j P.s.heap) (F:Fo E (fW G.c Q) az (forL (au G.cf G.gl mb) t src en m j J Z)):Hk G t mb src en St E Q az m P.s
theorem FJ{target:PySem.Expr}{t:jh}{body:List PySem.Stmt}{mb:bG}{it:Value}{src:Src}{en:Bool}{fp:List Addr}{St:Nat->Heap->Prop}{az:Pt}{R:Result->Shared->Prop}{m:Nat}{s:Shared}
  (ht:vD G.c.locs target t) (B:iB G body mb) (K:lB G.c G.A target it src en fp St az) (hn:∀a∈fp,iY G.c az a) (X:Hk G t mb src en St E (λf s=>R (.ok f) s) az m s):
  codeAny (model G.c.prog G.c.w) G.A (.forLoop target it body [] G.env) R s:=by
 refine codeAny_forLoop_any (Hk G t mb src en St E (λf s=>R (.ok f) s) az) ?_ m X
 rintro m _ ⟨j,J,Z,P,I,A,L,nG,F⟩
 clear X
 cases m with
 |zero=>exact F.elim
 |succ m=>
  have hf:=K.fields _ _ nG
  refine K.next j Z P (λr s=>match r with
   |none=>wpAny (model G.c.prog G.c.w) G.A (execs [] G.env) (λf iD=>R (.ok f) iD) (notedBy (model G.c.prog G.c.w) G.A G.env λe s'=>R (.error e) s') s
   |some v=>wpAny (model G.c.prog G.c.w) G.A (assign target G.env v) _ _ s) _ I.so L nG ?_
  revert F
  show Fo E _ az (match cC Z j src with | some x=>(match x with | some x=>(fe t (wrap en j x) J).bind λJ=>bp (au G.cf G.gl mb J Z) λr Z=>(match r.1 with | .ret v=>av (.ret v,r.2) Z | _=>forL (au G.cf G.gl mb) t src en m (j+1) r.2 Z) | Option.none=>av (.next,J) Z) | Option.none=>none)->Nx G.c en fp St j P _ (cC Z j src)
  cases cC Z j src with
  |none=>exact id
  |some x=>cases x with
   |none=>exact λF h' t' k=>let y:=I.asked A hn hf k;wpAny_execs_nil (F _ y.2.1 y.1)
   |some p=>
    intro F v h' t' k V wO
    refine F.ob λaY hb F=> ?_
    have y:=I.asked (t:=t') A hn hf k
    have QO:=L.trans y.2.2
    have Bp:=K.fields _ _ wO
    refine rZ ht hb y.1 V λcv cY bU=>B aY Z cv _ _ bU (F.bp λfl ag F=> ?_)
    have go:∀{kZ:aD}{di:Pt},To G.c cv di->Inv G.c kZ ag di->Fo E (fW G.c λf s=>R (.ok f) s) az (forL (au G.cf G.gl mb) t src en m (j+1) kZ ag)->∃m',m'<m+1/\Hk G t mb src en St E (λf s=>R (.ok f) s) az m' di.s:=λ{kZ di} dy eG F=>
     have B:=cY.trans dy
     have Bq:=QO.trans (y.1.nP B)
     ⟨m,Nat.lt_succ_self m,j+1,kZ,ag,di,eG,y.2.1.trans B,Bq,K.frame _ _ _ wO (Fields.kept (P:=P.at P.Y h' t') Bp y.1 B) Bq.k,F⟩
    obtain ⟨fl,kZ⟩:=fl
    cases fl with
    |next=>exact λdi dy eG=>go dy eG F
    |cont=>exact λdi dy eG=>go dy eG F
    |ret p=>exact λdi v dy S V=>F di v (y.2.1.trans (cY.trans dy)) S V
end
section
variable{c:Cx}{A:Around}{env:Env}{target:PySem.Expr}{src:Src}{az:Pt}{a it e:Addr}{xs:Array Value}{l:List PV}
noncomputable def pk(c:Cx)(az:Pt)(src:Src)(a:Addr):Prop:=∀k Z P y,cC Z k src=some y->cM c.toBs Z P.Y P.s.heap->Later az.s.heap az.Y P.s.heap P.Y->
 ∃xs n l,P.s.heap.get? a=some (gW xs n)/\cy c P l xs.toList/\y=fN l k
noncomputable def r3(c:Cx)(az:Pt)(src:Src)(a:Addr)(xs:Array Value)(l:List PV):Prop:=(∃n,az.s.heap.get? a=some (mB xs n))/\cy c az l xs.toList/\∀k Z,cC Z k src=some (fN l k)
theorem Di{P:Pt}(T:r3 c az src a xs l)(La:Later az.s.heap az.Y P.s.heap P.Y):P.s.heap.IsTuple a xs/\cy c P l xs.toList:=
 ⟨T.1.elim λn g=>⟨_,La.k _ _ g (nO xs n),rfl,n,rfl⟩,aH.bc La T.2.1⟩
theorem jv{h:Heap}{o:Obj}{vs:Array Value}(e:h.get? it=some o)(d:o.data=.fields vs):Fields h [it]:=λx hx=>c_ hx▸⟨o,vs,e,d⟩
theorem kb{h h':Heap}(hs:Heap.SameBut it h h'):Kept [it] h h':=λa o ha e=>(hs.2 a λq=>ha (List.mem_singleton.mpr q)).trans e
theorem qN{h h':Heap}(hs:Heap.ExtBut it h h'):Kept [it] h h':=λa o ha e=>hs a o (λq=>ha (List.mem_singleton.mpr q)) e
theorem Jg(hh:A.handled=none)(L:pk c az src a):lB c A target (.ref it) src false [it] (λk h=>h.IsListIter it a k) az:=by
 refine⟨λk h h' st kp O=>st.imp λo x=>⟨kp it cR o x.1,x.2⟩,λk h st=>st.elim λo x=>jv x.1 x.2.2,λk s Q E st hq=>wpAny_pyIter_listiter st hq,λk Z P Q E I La st N=> ?_⟩
 cases q:cC Z k src with
 |none=>rw[q] at N;exact N.elim
 |some y=>
  rw[q] at N
  obtain ⟨xs,n,l,g,V,rfl⟩:=L k Z P y q I La
  have hf:Fields P.s.heap [it]:=st.elim λo x=>jv x.1 x.2.2
  cases e:fN l k with
  |none=>
   rw[e] at N
   exact wpAny_pyNext_list_end hh st ⟨_,g,rfl,n,rfl⟩ (Array.getElem?_toList▸aH.past V e) λh' he=>N h' P.s.toks (qN he)
  |some p=>
   rw[e] at N
   obtain ⟨v,ev,W⟩:=aH.get V e
   refine wpAny_pyNext_list_item st ⟨_,g,rfl,n,rfl⟩ (Array.getElem?_toList▸ev) λh' fw hs=> ?_
   exact fw.elim λo' x=>qK (T:="list_iterator") x.1 x.2.1 (by decide) (N v h' P.s.toks (kb hs) (VR.bc (hf.bc (kb hs)) W) fw)
theorem KW(hh:A.handled=none)(T:r3 c az src a xs l):lB c A target (.ref it) src false [it] (λk h=>h.IsTupleIter it a k) az:=by
 refine⟨λk h h' st kp O=>st.imp λo x=>⟨kp it cR o x.1,x.2⟩,λk h st=>st.elim λo x=>jv x.1 x.2.2,λk s Q E st hq=>wpAny_pyIter_tupleiter st hq,λk Z P Q E I La st N=> ?_⟩
 rw[T.2.2] at N
 have t:=Di T La
 have hf:Fields P.s.heap [it]:=st.elim λo x=>jv x.1 x.2.2
 cases e:fN l k with
 |none=>
  rw[e] at N
  exact wpAny_pyNext_tuple_end hh st t.1 (Array.getElem?_toList▸aH.past t.2 e) λh' he=>N h' P.s.toks (qN he)
 |some p=>
  rw[e] at N
  obtain ⟨v,ev,W⟩:=aH.get t.2 e
  refine wpAny_pyNext_tuple_item st t.1 (Array.getElem?_toList▸ev) λh' fw hs=> ?_
  exact fw.elim λo' x=>qK (T:="tuple_iterator") x.1 x.2.1 (by decide) (N v h' P.s.toks (kb hs) (VR.bc (hf.bc (kb hs)) W) fw)
theorem wQ(hh:A.handled=none){x:Int}{m:Nat}:lB c A target (.ref it) (.range x m) false [it] (λk h=>IsRangeIter h it (x+k) ((m:Int)-k) 1) az:=by
 refine⟨λk h h' st kp O=>kp it cR _ st,λk h st=>jv st rfl,λk s Q E st hq=>wpAny_pyIter_rangeiter st hq,λk Z P Q E I La st N=> ?_⟩
 have N:Nx c false [it] (λk h=>IsRangeIter h it (x+k) ((m:Int)-k) 1) k P Q (some (if k<m then some (.int (x+(k:Int))) else none)):=N
 by_cases hk:k<m
 ·rw[if_pos hk] at N
  refine wpAny_pyNext_range_item st (Int.sub_pos.mpr (Int.ofNat_lt.mpr hk)) λh' fw hs=>qK (T:="range_iterator") fw rfl (by decide) (N _ h' (P.s.toks+1) (kb hs) (VR.mC _ _) ?_)
  rw[Int.add_assoc,Int.sub_sub] at fw
  exact fw
 ·rw[if_neg hk] at N
  exact wpAny_pyNext_range_end hh st (Int.sub_nonpos_of_le (Int.ofNat_le.mpr (Nat.le_of_not_lt hk))) λh' he=>N h' P.s.toks (qN he)
end
section
variable{c:Cx}{A:Around}{src:Src}{az:Pt}{a it e:Addr}{xs:Array Value}{l:List PV}{es:List PySem.Expr}{kk:Nat}{p:Pos}
theorem r4{h:Heap}{o:Obj}{vs ws:Array Value}{i:Int}{o1 x:Value}(he:h.get? e=some {cls:=.type "enumerate",dict:=none,data:=.fields #[o1,.bool false,.ref it,rawInt i,.none,x],slots:= #[]})(ho:h.get? it=some o)(d:o.data=.fields vs):Fields h [e,it]:=λy hy=>
 (List.mem_cons.mp hy).elim (λq=>q▸⟨_,_,he,rfl⟩) λq=>c_ q▸⟨o,vs,ho,d⟩
theorem Dj{h h' iq:Heap}(hs:Heap.SameBut e h' iq)(kp:∀b o,b≠e->b≠it->h.get? b=some o->h'.get? b=some o):Kept [e,it] h iq:=λb o hb eb=>
 have n1:b≠e:=λq=>hb (List.mem_cons.mpr (.inl q))
 (hs.2 b n1).trans (kp b o n1 (λq=>hb (List.mem_cons_of_mem _ (List.mem_singleton.mpr q))) eb)
theorem ur{P:Pt}{k:Nat}{h':Heap}{v:Value}{tk:Tok}{Q:Option Value->Shared->Prop}{E:Value->Shared->Prop}{St:Nat->Heap->Prop}{q:PV}(hf:Fields P.s.heap [e,it])(W:Vl c P q v)(ho:IsEnumOut h' e it ((k:Int)+1) v P.s.heap.objs.size)
  (ht:h'.get? P.s.heap.objs.size=some {cls:=.type "tuple",data:=.seq #[.int k tk,v]}) (kp:∀b o,b≠e->b≠it->P.s.heap.get? b=some o->h'.get? b=some o) (st:∀iq,IsEnum iq e it ((k:Int)+1) v->Heap.SameBut e h' iq->St (k+1) iq)
  (N:Nx c true [e,it] St k P Q (some (some q))):c.W A (letOwnedTupleGo (.Tuple es kk p) (.ref e) (.ref P.s.heap.objs.size)) (λO jH=>Q (some (.ref P.s.heap.objs.size)) jH) E {P.s with heap:=h',toks:=tk+1}:=
 wpAny_letOwnedTupleGo_enum ho λiq wR hs=>
  have Dg:=Dj hs kp
  have ne:P.s.heap.objs.size≠e:=λq=>(hf e cR).elim λo x=>x.elim λO x=>Nat.lt_irrefl _ (q▸Heap.lt_size x.1)
  N _ iq (tk+1) Dg (VR.qq (xs:= #[.int k tk,v]) (n:=0) ((hs.2 _ ne).trans ht) (aH.cons (VR.mC _ _) (aH.cons (VR.bc (hf.bc Dg) W) aH.nil))) (st iq wR hs)
theorem wU(hh:A.handled=none)(L:pk c az src a)(dC:e≠it):
  lB c A (.Tuple es kk p) (.ref e) src true [e,it] (λk h=>(∃old,IsEnum h e it (k:Int) old)/\h.IsListIter it a k) az:=by
 have wV:∀(k:Nat) h,((∃old,IsEnum h e it (k:Int) old)/\h.IsListIter it a k)->Fields h [e,it]:=λk h st=>st.1.elim λold he=>st.2.elim λo x=>r4 (ws:= #[]) he x.1 x.2.2
 refine⟨λk h h' st kp O=>⟨st.1.imp λold he=>kp e cR _ he,st.2.imp λo x=>⟨kp it (List.mem_cons_of_mem _ cR) o x.1,x.2⟩⟩,wV,λk s Q E st hq=>st.1.elim λO he=>wpAny_pyIter_enum he hq,λk Z P Q E I La st N=> ?_⟩
 have hf:=wV k _ st
 obtain ⟨⟨old,he⟩,st⟩:=st
 cases q:cC Z k src with
 |none=>rw[q] at N;exact N.elim
 |some y=>
  rw[q] at N
  obtain ⟨xs,n,l,g,V,rfl⟩:=L k Z P y q I La
  cases en:fN l k with
  |none=>
   rw[en] at N
   exact wpAny_pyNext_enum_end hh he st ⟨_,g,rfl,n,rfl⟩ (Array.getElem?_toList▸aH.past V en) λh' hb=>N h' P.s.toks λa o ha e=>hb a o (λq=>ha (List.mem_cons_of_mem _ (List.mem_singleton.mpr q))) e
  |some p=>
   rw[en] at N
   obtain ⟨v,ev,W⟩:=aH.get V en
   refine wpAny_pyNext_enum_item he st ⟨_,g,rfl,n,rfl⟩ (Array.getElem?_toList▸ev) dC λh' ho fw ht eZ kp=>ur hf W ho ht kp (λiq wR hs=>⟨⟨v,wR⟩,fw.imp λo x=>⟨(hs.2 it (Ne.symm dC)).trans x.1,x.2⟩⟩) N
theorem zi(hh:A.handled=none)(T:r3 c az src a xs l)(dC:e≠it)(Pq:e≠a)(Hb:a≠it):
  lB c A (.Tuple es kk p) (.ref e) src true [e,it] (λk h=>(∃old,IsEnum h e it (k:Int) old)/\(h.IsTupleIter it a k/\h.IsTuple a xs)/\k<=xs.size) az:=by
 have D:=zh (prog:=c.prog) (w:=c.w) (A:=A.in1) hh it a Hb xs
 have wV:∀(k:Nat) h,((∃old,IsEnum h e it (k:Int) old)/\(h.IsTupleIter it a k/\h.IsTuple a xs)/\k<=xs.size)->Fields h [e,it]:=λk h st=>st.1.elim λold he=>st.2.1.1.elim λo x=>r4 (ws:= #[]) he x.1 x.2.2
 refine⟨λk h h' st kp sol=>⟨st.1.imp λold he=>kp e cR _ he,⟨st.2.1.1.imp λo x=>⟨kp it (List.mem_cons_of_mem _ cR) o x.1,x.2⟩,T.1.elim λn g=>⟨_,sol _ _ g (nO xs n),rfl,n,rfl⟩⟩,st.2.2⟩,wV,λk s Q E st hq=>st.1.elim λO he=>wpAny_pyIter_enum he hq,λk Z P Q E I La st N=> ?_⟩
 have hf:=wV k _ st
 obtain ⟨⟨old,he⟩,st,hk⟩:=st
 rw[T.2.2] at N
 have t:=Di T La
 cases en:fN l k with
 |none=>
  rw[en] at N
  have Sx:xs[k]? =none:=Array.getElem?_toList▸aH.past t.2 en
  cases Nat.le_antisymm hk (Array.getElem?_eq_none_iff.mp Sx)
  exact wpAny_pyNext_enum_endD D he st λh' hb=>N h' P.s.toks λa o ha e=>hb a o (λq=>ha (List.mem_cons_of_mem _ (List.mem_singleton.mpr q))) e
 |some p=>
  rw[en] at N
  obtain ⟨v,ev,W⟩:=aH.get t.2 en
  rw[Array.getElem?_toList] at ev
  have KX:k<xs.size:=(Array.getElem?_eq_some_iff.mp ev).1
  refine wpAny_pyNext_enum_itemD D he st KX dC (λm=>(List.mem_cons.mp m).elim dC λm=>Pq (c_ m)) λy h' tk hy ho fw ht eZ kp=> ?_
  cases bF ev hy
  exact ur hf W ho ht kp (λiq wR hs=>⟨⟨v,wR⟩,⟨fw.1.imp λo x=>⟨(hs.2 it (Ne.symm dC)).trans x.1,x.2⟩,fw.2.imp λo x=>⟨(hs.2 a (Ne.symm Pq)).trans x.1,x.2⟩⟩,KX⟩) N
end
section
variable{G:Gx}{J aY:aD}{Z:af}{P:Pt}{E:Value->Shared->Prop}
noncomputable def Sy(G:Gx)(target:PySem.Expr)(az:Pt)(Q:Value->Shared->Prop)(q:Src×Bool):Prop:=
 ∀it fp St cH n5,Sub az.s.heap cH->(∀a∈fp,az.s.heap.get? a=none)->lB G.c G.A target it q.1 q.2 fp St az->St 0 cH->Q it (az.at az.Y cH n5).s
noncomputable def Dk(G:Gx)(target:PySem.Expr)(J:aD)(Q:Value->Shared->Prop):fv G.c (Src×Bool):=⟨λq ag P=>∀az,To G.c P az->Inv G.c J ag az->Sy G target az Q q,λO O O O A h az B=>h az (A.trans B)⟩
noncomputable def iE(G:Gx)(target iter:PySem.Expr)(mi:MI):Prop:=
 ∀(J:aD)(Z:af)(P:Pt)(Q E:Value->Shared->Prop),Inv G.c J Z P->Fo E (Dk G target J Q) P (fO G.cf G.gl mi J Z)->
  G.c.W G.A (eval iter G.env) (λx c8=>G.c.W G.A (pyIter x) Q E c8) E P.s
theorem wW{c:Cx}{az:Pt}{i:Nat}{a:Addr}(ea:az.Y[i]? =some a):pk c az (.live i) a:=λk Z P y hy I La=>
 bm hy λo q h=>bm h λl ql h2=>by
  cases gA ql;cases h2
  exact(I.at q (La.at ea)).imp λxs=>Exists.imp λn M=>⟨l,M.1,M.2,rfl⟩
theorem wX(h:Heap)(a:Addr):(h.push {cls:=.type "list_iterator",data:=.fields #[.ref a,.int 0 0]}).IsListIter h.objs.size a 0:=⟨_,Heap.get?_push_size _ rfl,rfl,rfl⟩
theorem zj(h:Heap)(a:Addr):(h.push {cls:=.type "tuple_iterator",data:=.fields #[.ref a,.int 0 0]}).IsTupleIter h.objs.size a 0:=⟨_,Heap.get?_push_size _ rfl,rfl,rfl⟩
theorem tF(h:Heap):∀a∈[h.objs.size],h.get? a=none:=λa ha=>c_ ha▸cz h
theorem zR{h:Heap}:∀a∈[h.objs.size+1,h.objs.size],h.get? a=none:=λa ha=>(List.mem_cons.mp ha).elim (λq=>q▸Heap.get?_none_of_le (Nat.le_succ _)) (tF h a)
theorem fY{h:Heap}{o:Obj}:Sub h (h.push o):=λO O e=>Heap.get?_push_of_some _ e
theorem wY{c:Cx}{p:PV}{v:Value}{s:Src}(I:Inv c J Z P)(V:Vl c P p v)(e:srcOf Z p=some s){M:Value->Prop}(t:∀a xs n l,P.s.heap.get? a=some (mB xs n)->r3 c P s a xs l->M (.ref a))(k:∀a xs n,P.s.heap.get? a=some (gW xs n)->pk c P s a->M (.ref a)):M v:=by
 cases p with
 |ah l=>cases e;exact VR.eF (M:=M) V λa xs n g V=>t a xs n l g ⟨⟨n,g⟩,V,λO O=>rfl⟩
 |ref i=>
  refine bm e λo q h=>bm h λl ql h2=> ?_
  cases gA ql;cases h2
  exact Vl.ref (M:=M) I V q λa ea X=>X.elim λxs X=>X.elim λn X=>k a xs n X.1 (wW ea)
 |_=>exact(aQ rfl e).elim
theorem Bt{target e:PySem.Expr}{m:ME}(S:aT G e m):iE G target e (.plain m):=by
 intro J Z P Q E I F
 have F:Fo E (Dk G target J Q) P (ay (ai G.cf G.gl m J Z) λv Z=>read Z ((srcOf Z v).bind λs=>some (s,false))):=F
 refine S.go I F λp cX bg v fX aN V aW=>aW.rb λs hs bY=> ?_
 exact wY (M:=λv=>G.c.W G.A (pyIter v) Q E bg.s) aN V hs
  (λa xs n l g T=>wpAny_pyIter_tuple ⟨_,g,rfl,n,rfl⟩ (bY bg .refl aN _ _ _ _ bg.s.toks fY (tF _) (KW G.iw.hn T) (zj _ a)))
  λa xs n g L=>wpAny_pyIter_list ⟨_,g,rfl,n,rfl⟩ (bY bg .refl aN _ _ _ _ bg.s.toks fY (tF _) (Jg G.iw.hn L) (wX _ a))
theorem Dl{es:List PySem.Expr}{kk:Nat}{tp p pos:Pos}{x:Str}{e:PySem.Expr}{m:ME}(hk:G.env.kindOf x=some .globalImplicit)(hx:G.T.mg x=none)(hb:G.T.mb x=some (.type "enumerate"))(hd:(x == ("__debug__":Str))=false)(hu:bh e=true)
  (S:aT G e m):iE G (.Tuple es kk tp) (.Call (.Name x p) [e] [] pos) (.enum m):=by
 intro J Z P Q E I F
 have F:Fo E (Dk G (.Tuple es kk tp) J Q) P (ay (ai G.cf G.gl m J Z) λv Z=>read Z ((srcOf Z v).bind λs=>some (s,true))):=F
 refine Call_ (dY I hk hx hb hd (PyProof.Rows.callWith_type (bC (dU hu)) (cA (bC (dU hu)) (jY hu S I F λp cX bg v fX aN V aW=>aW.rb λs hs bY=> ?_))))
 exact wY (M:=λv=>G.c.W G.A (call (.type "enumerate") [v]) (λx c8=>G.c.W G.A (pyIter x) Q E c8) E bg.s) aN V hs
   (λa xs n l g T=>rY (items:=xs) ⟨_,g,rfl,n,rfl⟩ λh' he hi O kp=>
    have ha:=Heap.lt_size g
    wpAny_pyIter_enum he (bY bg .refl aN _ _ _ _ bg.s.toks kp zR (zi (xs:=xs) (l:=l) G.iw.hn T (Nat.ne_of_gt (Nat.lt_succ_self _)) (Nat.ne_of_gt (Nat.lt_succ_of_lt ha)) (Nat.ne_of_lt ha)) ⟨⟨_,he⟩,⟨hi,_,kp _ _ g,rfl,n,rfl⟩,Nat.zero_le _⟩))
   λa xs n g L=>call_enumerate_list ⟨_,g,rfl,n,rfl⟩ λh' he hi O kp=>
    wpAny_pyIter_enum he (bY bg .refl aN _ _ _ _ bg.s.toks kp zR (wU G.iw.hn L (Nat.ne_of_gt (Nat.lt_succ_self _))) ⟨⟨_,he⟩,hi⟩)
theorem p9{h:Heap}{a b:Int}:IsRangeIter (h.push {cls:=.type "range_iterator",data:=.fields #[rawInt a,rawInt (Builtin.Range.rangeSize a b 1),rawInt 1]}) h.objs.size (a+((0:Nat):Int)) ((((b-a).toNat:Nat):Int)-((0:Nat):Int)) 1:=by
 have e2:((((b-a).toNat:Nat):Int)-((0:Nat):Int))=Builtin.Range.rangeSize a b 1:=by rw[rangeSize_one];split<;>omega
 rw[e2,show a+((0:Nat):Int)=a from Int.add_zero a]
 exact Heap.get?_push_size _ rfl
theorem wZ{h:Heap}{o:Obj}:∀a∈[(h.push o).objs.size],h.get? a=none:=λa ha=>c_ ha▸Heap.get?_none_of_le (by rw[Heap.size_push];exact Nat.le_succ _)
theorem zk{target:PySem.Expr}{p pos:Pos}{x:Str}{e:PySem.Expr}{m:ME}(hk:G.env.kindOf x=some .globalImplicit)(hx:G.T.mg x=none)(hb:G.T.mb x=some (.type "range"))(hd:(x == ("__debug__":Str))=false)(hu:bh e=true)
  (S:aT G e m):iE G target (.Call (.Name x p) [e] [] pos) (.gP m):=by
 intro J Z P Q E I F
 have F:Fo E (Dk G target J Q) P (ay (ai G.cf G.gl m J Z) λv Z=>read Z ((bL v).bind λn=>aJ (small n) (some (.range 0 n.toNat,false)))):=F
 refine Call_ (dY I hk hx hb hd (PyProof.Rows.callWith_type (bC (dU hu)) (cA (bC (dU hu)) (jY hu S I F λp cX bg v fX aN V aW=>aW.rb λb hb bY=> ?_))))
 refine Vl.int (M:=λv=>G.c.W G.A (call (.type "range") [v]) (λx c8=>G.c.W G.A (pyIter x) Q E c8) E bg.s) hb V λt=>call_range_1 ?_
 refine wpAny_pyIter_range (IsRange.new ..) (small_one (by decide) (by decide) (Int.le_of_lt (dM bY.rm.1).Ky) (dM bY.rm.1).Kz) ?_
 have:=p9 (h:=bg.s.heap.push {cls:=.type "range",data:=.fields #[.int 0 bg.s.toks,.int b t,.int 1 (bg.s.toks+1)]}) (a:=0) (b:=b)
 rw[Int.sub_zero] at this
 exact bY.rm.2 bg .refl aN _ _ _ _ _ (λa o e=>fY _ _ (fY _ _ e)) wZ (wQ G.iw.hn) this
theorem zl{target:PySem.Expr}{p pos:Pos}{x:Str}{qO qP:PySem.Expr}{m₁ m₂:ME}(hk:G.env.kindOf x=some .globalImplicit)(hx:G.T.mg x=none)(hb:G.T.mb x=some (.type "range"))(hd:(x == ("__debug__":Str))=false)(hu:bh qO=true)(Hl:bh qP=true)
  (Sa:aT G qO m₁) (Sb:aT G qP m₂):iE G target (.Call (.Name x p) [qO,qP] [] pos) (.dA m₁ m₂):=by
 intro J Z P Q E I F
 have F:Fo E (Dk G target J Q) P (ay (ai G.cf G.gl m₁ J Z) λu Z=>ay (ai G.cf G.gl m₂ J Z) λv Z=>read Z ((bL u).bind λm=>(bL v).bind λn=>aJ (small m) (aJ (small n) (some (.range m (n-m).toNat,false))))):=F
 have Pu:[qO,qP].all bh=true:=by rw[List.all_cons,hu,dU Hl];rfl
 refine Call_ (dY I hk hx hb hd (PyProof.Rows.callWith_type (bC Pu) (cA (bC Pu) ?_)))
 rw[fE hu,fE Hl]
 refine spliced_cons (Sa.go I F λp cX bg v fX aN V aW=>spliced_cons (Sb.go aN aW λq dF cv w cY bU W bY=>spliced_nil (bY.rb λa ha dw=>dw.rb λb hb lA=> ?_)))
 have V:=V.to aN cY
 refine Vl.int (M:=λv=>G.c.W G.A (call (.type "range") [v,w]) (λx c8=>G.c.W G.A (pyIter x) Q E c8) E cv.s) ha V λt=>Vl.int (M:=λw=>G.c.W G.A (call (.type "range") [.int a t,w]) (λx c8=>G.c.W G.A (pyIter x) Q E c8) E cv.s) hb W λu=>call_range_2 ?_
 have s1:=dM lA.rm.1
 have s2:=dM lA.rm.2.rm.1
 refine wpAny_pyIter_range (IsRange.new ..) (small_one (Int.le_of_lt s1.Ky) s1.Kz (Int.le_of_lt s2.Ky) s2.Kz) ?_
 exact lA.rm.2.rm.2 cv .refl bU _ _ _ _ _ (λa o e=>fY _ _ (fY _ _ e)) wZ (wQ G.iw.hn) (p9 (a:=a) (b:=b))
noncomputable def fZ:PySem.Expr->Bool
 |.Set ..=>false
 |_=>true
theorem kg{e:PySem.Expr}(h:fZ e=true){env:Env}:∀x,foldedSetIterable e env x=pure x:=by
 intro x
 cases e<;>first | rfl | cases h
theorem Jh{target iter:PySem.Expr}{t:jh}{mi:MI}{body:List PySem.Stmt}{mb:bG}{pos:Pos}(ht:vD G.c.locs target t)(hp:fZ iter=true)(Si:iE G target iter mi)(B:iB G body mb):
  ef G (.For target iter body [] pos) (.bt t mi mb):=by
 intro J Z P Q E I F
 have F:Fo E (fW G.c Q) P (ay (fO G.cf G.gl mi J Z) λsrc Z=>forL (au G.cf G.gl mb) t src.1 src.2 (ew Z src.1+1) 0 J Z):=F
 refine wpAny_For (Si J Z P _ E I (F.bind λq ag F' az A fG it fp St cH n5 k hn K st=> ?_)) (kg hp)
 have y:=fG.sub (t:=n5) k
 exact FJ ht B K (λa m=>fG.free (hn a m)) ⟨0,J,ag,az.at az.Y cH n5,y.1,y.2,.sub k,st,F'.up A⟩
theorem Fo.zS{c:Cx}{β η:Type}{K:fv c β}{az:Pt}{X:aF η}{t:η->af->Option Bool}{x y:af->aF β}{Q:Bool->Shared->Prop}{E':Value->Shared->Prop}(F:Fo E K az (FR.bp X λv Z=>FR.pick (t v Z) (x Z) (y Z)))(h:∀b ag P',To c P P'->Inv c J ag P'->Fo E K az (cond b (x ag) (y ag))->Q b P'.s):Fo E' (bT c J (λO=>Eq) Q) P (FR.ay X λv Z=>read Z (t v Z)):=by
 cases X with
 |none=>exact F
 |some r=>
  obtain ⟨r,ag⟩:=r
  cases r with
  |error e=>exact F.elim
  |ok v=>
   have F:Fo E K az (FR.pick (t v ag) (x ag) (y ag)):=F
   show Fo E' (bT c J (λO=>Eq) Q) P (read ag (t v ag))
   cases q:t v ag with
   |none=>rw[q] at F;exact F.elim
   |some b=>
    rw[q] at F
    intro P' a A I e
    cases e
    cases b with
    |true=>exact h true ag P' A I F
    |false=>exact h false ag P' A I F
inductive Pw(G:Gx)(mt:ME)(mb:bG)(E:Value->Shared->Prop)(Q:Flow->Shared->Prop)(m:Nat):Shared->Prop
 |mk (J:aD) (Z:af) (P:Pt) (I:Inv G.c J Z P) (F:Fo E (fW G.c Q) P (ft (ai G.cf G.gl mt) (au G.cf G.gl mb) m J Z)):Pw G mt mb E Q m P.s
theorem Dm{t:PySem.Expr}{mt:ME}{body:List PySem.Stmt}{mb:bG}{pos:Pos}(S:dK G t mt)(B:iB G body mb):ef G (.While t body [] pos) (.lG mt mb):=by
 intro J Z P Q E I F
 refine wpAny_While ?_
 refine codeAny_whileLoop (Pw G mt mb E Q) ?_ turns ⟨J,Z,P,I,F⟩
 rintro m _ ⟨J,Z,P,I,F⟩
 cases m with
 |zero=>exact F.elim
 |succ m=>
  have F:Fo E (fW G.c Q) P (bp (ai G.cf G.gl mt J Z) λv Z=>pick (truth Z v) (bp (au G.cf G.gl mb J Z) λr Z=>(match r.1 with | .ret v=>av (.ret v,r.2) Z | _=>ft (ai G.cf G.gl mt) (au G.cf G.gl mb) m r.2 Z)) (av (.next,J) Z)):=F
  refine S J Z P _ _ I (F.zS (t:=λv Z=>truth Z v) λb ag P' A I' KY=> ?_)
  have F':=KY.up A
  clear KY
  cases b with
  |false=>exact wpAny_execs_nil (F' P' .refl I')
  |true=>
   have F':Fo E (fW G.c Q) P' (bp (au G.cf G.gl mb J ag) λr Z=>(match r.1 with | .ret v=>av (.ret v,r.2) Z | _=>ft (ai G.cf G.gl mt) (au G.cf G.gl mb) m r.2 Z)):=F'
   refine B J ag P' _ _ I' (Fo.bp F' λfl dF F=> ?_)
   obtain ⟨fl,kZ⟩:=fl
   cases fl with
   |next=>exact λdi dy eG=>⟨m,Nat.lt_succ_self m,kZ,dF,di,eG,Fo.up (K:=fW G.c Q) dy F⟩
   |cont=>exact λdi dy eG=>⟨m,Nat.lt_succ_self m,kZ,dF,di,eG,Fo.up (K:=fW G.c Q) dy F⟩
   |ret p=>exact λdi v dy S V=>F di v dy S V
end
noncomputable def gY(cf:Nat->List PV->af->aF PV)(gl:Nat->PV)(mc:fM)(me:ME)(x:PV)(Z:af):aF (Option PV):=bp (dk cf gl mc [some x] Z) λc Z=>
 pick (iz Z c) (bp (ai cf gl me [some x] Z) λy Z=>av (some y) Z) (av .none Z)
section
variable{c:Cx}{β η:Type}{K:fv c β}{E:Value->Shared->Prop}{P:Pt}{X:aF η}{t:η->af->Option Bool}{iP:af->aF PV}{k:Option PV->af->aF β}
theorem Fo.KZ(F:Fo E K P (FR.bp (FR.bp X λc Z=>FR.pick (t c Z) (FR.bp (iP Z) λy Z=>av (some y) Z) (av none Z)) k)):Fo E K P (FR.bp X λc Z=>FR.pick (t c Z) (FR.bp (iP Z) λy Z=>k (some y) Z) (k none Z)):=by
 cases X with
 |none=>exact F
 |some r=>
  obtain ⟨r,ag⟩:=r
  cases r with
  |error e=>exact F
  |ok v=>
   have F:Fo E K P (FR.bp (FR.pick (t v ag) (FR.bp (iP ag) λy Z=>av (some y) Z) (av none ag)) k):=F
   show Fo E K P (FR.pick (t v ag) (FR.bp (iP ag) λy Z=>k (some y) Z) (k none ag))
   revert F
   cases t v ag with
   |none=>exact id
   |some b=>cases b with
    |false=>exact id
    |true=>
     show Fo E K P (FR.bp (FR.bp (iP ag) λy Z=>av (some y) Z) k)->Fo E K P (FR.bp (iP ag) λy Z=>k (some y) Z)
     cases iP ag with
     |none=>exact id
     |some r=>
      obtain ⟨r,dF⟩:=r
      cases r with
      |error e=>exact id
      |ok y=>exact id
end
section
variable{G:Gx}
noncomputable abbrev tests(env:Env)(ifs:List PySem.Expr):Sem Bool:=forIn ifs true λc r=>if r=true then do let ok <-isTrue c env (eval c env);pure (ForInStep.yield ok) else pure (ForInStep.yield r)
noncomputable def w4(G:Gx)(ifs:List PySem.Expr)(mc:fM):Prop:=∀(J:aD)(Z:af)(P:Pt)(Q:Bool->Shared->Prop)(E:Value->Shared->Prop),
 Inv G.c J Z P->Fo E (bT G.c J (λO=>Eq) Q) P (ay (dk G.cf G.gl mc J Z) λc Z=>read Z (iz Z c))->G.c.W G.A (tests G.env ifs) Q E P.s
theorem Ji:w4 G [] .no:=λO O O O O I F=>wpAny_tests_nil (F.same I rfl)
theorem FK{e:PySem.Expr}{m:ME}(S:dK G e m):w4 G [e] (.yes m):=λJ Z P Q E I F=>wpAny_tests_one (S J Z P Q E I F.assoc)
inductive Dn(G:Gx)(cb:PV->af->aF (Option PV))(src:Src)(en:Bool)(St:Nat->Heap->Prop)(acc:Addr)(E:Value->Shared->Prop)(Kc:List PV->fv G.c (List PV))(az:Pt)(m:Nat):Shared->Prop
 |mk (j:Nat) (J:aD) (Z:af) (P:Pt) (done:List PV) (xs:Array Value) (mm:Nat) (I:Inv G.c J Z P) (Px:J.length=1) (A:To G.c az P) (L:Later az.s.heap az.Y P.s.heap P.Y) (nG:St j P.s.heap) (ha:acc∉P.Y)
  (g:P.s.heap.get? acc=some (gW xs mm)) (V:cy G.c P done xs.toList) (hd:done.length<=j) (F:Fo E (Kc done) az (cu cb src en m j Z)):Dn G cb src en St acc E Kc az m P.s
noncomputable def pn(c:Cx)(acc:Addr)(R:Result->Shared->Prop)(done:List PV):fv c (List PV) where
 k ys Z P:=∀J P' xs m,To c P P'->Inv c J Z P'->acc∉P'.Y->P'.s.heap.get? acc=some (gW xs m)->cy c P' (done++ys) xs.toList->R (.ok .next) P'.s
 up _ _ _ _ A h J P' xs m B:=h J P' xs m (A.trans B)
noncomputable abbrev CQ(G:Gx)(elt:PySem.Expr)(ifs:List PySem.Expr)(acc:Addr)(V9:Shared->Prop)(E:Value->Shared->Prop)(s:Shared):Prop:=
 G.c.W G.A (tests G.env ifs) (λok iD=>if ok=true then G.c.W G.A (eval elt G.env) (λx FL=>G.c.W G.A (call (.builtin "list.append") [.ref acc,x]) (λO QP=>V9 QP) E FL) E iD else V9 iD) E s
theorem Dp{elt:PySem.Expr}{ifs:List PySem.Expr}{target:PySem.Expr}{me:ME}{mc:fM}{it:Value}{src:Src}{en:Bool}{fp:List Addr}{St:Nat->Heap->Prop}{az cv:Pt}{acc:Addr}{Z:af}{R:Result->Shared->Prop}{E E':Value->Shared->Prop}{m j:Nat}{w:PV}{done:List PV}{xs:Array Value}{mm:Nat}
  (Se:aT G elt me) (Sc:w4 G ifs mc) (K:lB G.c G.A target it src en fp St az) (w5:iY G.c az acc) (n7:acc∉fp) (bU:Inv G.c [some w] Z cv) (cY:To G.c az cv) (qQ:Later az.s.heap az.Y cv.s.heap cv.Y) (nG:St (j+1) cv.s.heap)
  (ha:acc∉cv.Y) (g:cv.s.heap.get? acc=some (gW xs mm)) (V:cy G.c cv done xs.toList) (hd:done.length<=j) (hj:j<=65536)
  (F:Fo E (pn G.c acc R done) az (bp (gY G.cf G.gl mc me w Z) λy Z=>(match y with | some y=>bp (cu (gY G.cf G.gl mc me) src en m (j+1) Z) λys Z=>av (y::ys) Z | Option.none=>cu (gY G.cf G.gl mc me) src en m (j+1) Z))):
  CQ G elt ifs acc (λs=>∃m',m'<m+1/\Dn G (gY G.cf G.gl mc me) src en St acc E (pn G.c acc R) az m' s) E' cv.s:=by
 have hf:=K.fields _ _ nG
 have K0:∀{di:Pt},To G.c cv di->(acc∉di.Y/\di.s.heap.get? acc=some (gW xs mm))/\Later az.s.heap az.Y di.s.heap di.Y/\(∀a∈fp,∀o,cv.s.heap.get? a=some o->di.s.heap.get? a=some o):=λdy=>
  have t:=bU.zI g nofun
  ⟨dy.keep acc _ g ha t.1 λz=>t.2 (c_ z),qQ.trans (bU.nP dy),Fields.kept hf bU dy⟩
 refine Sc [some w] Z cv _ E' bU (F.KZ.zS λb ag di dy eG dw=> ?_)
 cases b with
 |false=>
  have q:=K0 dy
  exact⟨m,Nat.lt_succ_self m,j+1,_,ag,di,done,xs,mm,eG,rfl,cY.trans dy,q.2.1,K.frame _ _ _ nG q.2.2 q.2.1.k,q.1.1,q.1.2,V.to bU dy,Nat.le_succ_of_le hd,dw⟩
 |true=>
  have dw:Fo E (pn G.c acc R done) az (bp (ai G.cf G.gl me [some w] ag) λy Z=>bp (cu (gY G.cf G.gl mc me) src en m (j+1) Z) λys Z=>av (y::ys) Z):=dw
  refine Se [some w] ag di _ E' eG (Fo.bp dw λy Hj lA w6 v FN tG QQ=> ?_)
  have tH:=dy.trans FN
  have q:=K0 tH
  have Vd:=V.to bU tH
  refine n3 q.1.2 Vd QQ (Vd.size▸Nat.le_succ_of_le (bJ hd hj)) λh' hs x la=> ?_
  obtain ⟨zF,n',g',V'⟩:=x
  have kp:∀a o,a∉[acc]->w6.s.heap.get? a=some o->h'.get? a=some o:=λa o n e=>(hs.2 a λz=>n (List.mem_singleton.mpr z)).trans e
  have y':=tG.foreign (W:=[acc]) (h':=h') (t:=w6.s.toks) (cY.trans tH) (λa z=>c_ z▸w5) (λa z=>c_ z▸q.1.1) (λa z o e s=>s.l (bF q.1.2 (c_ z▸e)▸rfl)) kp
  have L':=q.2.1.trans la
  exact⟨m,Nat.lt_succ_self m,j+1,_,Hj,w6.at w6.Y h' w6.s.toks,done++[y],zF,n',y'.1,rfl,y'.2.1,L',K.frame _ _ _ nG (λa z o e=>kp a o (λc=>n7 (c_ c▸z)) (q.2.2 a z o e)) L'.k,q.1.1,g',V',
   by rw[List.length_append];exact Nat.succ_le_succ hd,Fo.bp lA λys Z F J P' xs m A I a g V=>F J P' xs m A I a g (by rw[List.append_assoc] at V;exact V)⟩
theorem Dq{elt iter:PySem.Expr}{x:Str}{px pos:Pos}{ifs:List PySem.Expr}{scope:Scope}{me:ME}{mc:fM}{it:Value}{src:Src}{en:Bool}{fp:List Addr}{St:Nat->Heap->Prop}{az:Pt}{acc:Addr}{R:Result->Shared->Prop}{E:Value->Shared->Prop}{m:Nat}{s:Shared}
  (hx:G.c.locs[0]? =some x) (Se:aT G elt me) (Sc:w4 G ifs mc) (K:lB G.c G.A (.Name x px) it src en fp St az) (hn:∀a∈fp,iY G.c az a) (w5:iY G.c az acc) (n7:acc∉fp)
  (V8:Dn G (gY G.cf G.gl mc me) src en St acc E (pn G.c acc R) az m s):
  codeAny (model G.c.prog G.c.w) G.A (.compLoop (.ListComp elt [⟨.Name x px,iter,ifs,0⟩] scope pos) 0 it (.ref acc) G.env) R s:=by
 refine codeAny_compLoop_tests (Dn G (gY G.cf G.gl mc me) src en St acc E (pn G.c acc R) az) ?_ m V8
 rintro m _ ⟨j,J,Z,P,done,xs,mm,I,Px,A,L,nG,ha,g,V,hd,F⟩
 clear V8
 cases m with
 |zero=>exact F.elim
 |succ m=>
  have hf:=K.fields _ _ nG
  refine wpAny_mono (K.next j Z P (λr s=>match r with
   |none=>R (.ok .next) s
   |some v=>G.c.W G.A (assign (.Name x px) G.env v) (λO s=>CQ G elt ifs acc (λs=>∃m',m'<m+1/\Dn G (gY G.cf G.gl mc me) src en St acc E (pn G.c acc R) az m' s) (notedBy (model G.c.prog G.c.w) G.A G.env λe s'=>R (.error e) s') s) (notedBy (model G.c.prog G.c.w) G.A G.env λe s'=>R (.error e) s') s) _ I.so L nG ?_) (λr c8 z=> ?_) λO O e=>e
  ·revert F
   show Fo E _ az (match cC Z j src with | some x=>(match x with | some x=>aJ (decide (j<=65536)) (bp (gY G.cf G.gl mc me (wrap en j x) Z) λy Z=>(match y with | some y=>bp (cu (gY G.cf G.gl mc me) src en m (j+1) Z) λys Z=>av (y::ys) Z | Option.none=>cu (gY G.cf G.gl mc me) src en m (j+1) Z)) | Option.none=>av [] Z) | Option.none=>none)->Nx G.c en fp St j P _ (cC Z j src)
   cases cC Z j src with
   |none=>exact id
   |some x=>cases x with
    |none=>exact λF h' t' k=>let y:=I.asked A hn hf k;F J _ xs mm y.2.1 y.1 ha (k acc _ n7 g) (by rw[List.append_nil];exact aH.bc y.2.2 V)
    |some p=>
     intro F v h' t' k V' wO
     have y:=I.asked (t:=t') A hn hf k
     have Bp:=K.fields _ _ wO
     have QR:fe (.one 0) (wrap en j p) J=some [some (wrap en j p)]:=by
      match J,Px with
      |[_],_=>rfl
     refine rZ (t:=.one 0) ⟨x,px,rfl,hx⟩ QR y.1 V' λcv cY bU=> ?_
     have t:=y.1.zI (k acc _ n7 g) nofun
     have ka:=cY.keep acc _ (k acc _ n7 g) ha t.1 λz=>t.2 (c_ z)
     have qQ:=(L.trans y.2.2).trans (y.1.nP cY)
     exact Dp Se Sc K w5 n7 bU (y.2.1.trans cY) qQ (K.frame _ _ _ wO (Fields.kept (P:=P.at P.Y h' t') Bp y.1 cY) qQ.k) ka.1 ka.2 (cy.to (P:=P.at P.Y h' t') (aH.bc y.2.2 V) y.1 cY) hd (bV F.om.1) F.om.2
  ·cases r with
   |none=>exact z
   |some v=>
    have:wpAny (model G.c.prog G.c.w) G.A (pure () >>= λO=>assign (.Name x px) G.env v) _ _ c8:=wpAny_bind (wpAny_mono z (λO jH y=>y) λO O y=>y)
    exact this
end
noncomputable def Cx.comp(c:Cx)(L:Addr)(x:Str)(hn:c.hc.get? L=none):Cx:={toBs:=c.toBs,fr:=c.fr,L:=L,locs:=[x],kf:=c.kf,lf:=hn}
noncomputable abbrev Gx.comp(G:Gx)(L:Addr)(x:Str)(hn:G.c.hc.get? L=none)(env:Env)(iw:rQ (G.c.comp L x hn) G.A env G.n 0):Gx:=⟨G.c.comp L x hn,G.A,env,G.cf,G.gl,G.n,0,G.T,iw⟩
section
variable{G:Gx}{J:aD}{Z:af}{P:Pt}{E:Value->Shared->Prop}
noncomputable def r5(G:Gx)(scope:Scope)(x:Str)(elt:PySem.Expr)(me:ME)(ifs:List PySem.Expr)(mc:fM):Prop:=
 ∀L hn env(iw:rQ (G.c.comp L x hn) G.A env G.n 0),env.scope=scope->aT (G.comp L x hn env iw) elt me/\w4 (G.comp L x hn env iw) ifs mc
structure After(c:Cx)(P P':Pt)(L:Addr):Prop where
 new:iY c P L
 out:L∉P'.Y
 ns:∃m,P'.s.heap.Ns L m
theorem After.same{c:Cx}{P':Pt}{L:Addr}{aY:aD}{ag:af}{iq:Heap}{t:Nat}(X:After c P P' L)(I':Inv c aY ag P')(A:To c P P')(hs:Heap.SameBut L P'.s.heap iq):Inv c aY ag (P'.at P'.Y iq t)/\To c P (P'.at P'.Y iq t):=
 (I'.foreign (W:=[L]) A (λa m=>c_ m▸X.new) (λa m=>c_ m▸X.out) (λa m o e s=>X.ns.elim λO n=>Ns.no n (c_ m▸e) s.t) λa o n e=>(hs.2 a λq=>n (List.mem_singleton.mpr q)).trans e).imp id And.left
theorem After.to{c:Cx}{P' cv:Pt}{L:Addr}(X:After c P P' L)(A:To c P' cv):After c P cv L:=
 X.ns.elim λm n=>n.elim λo x=>x.elim λes x=>x.elim λk x=>have q:=A.keep L o x.1 X.out X.new.f λz=>X.new.l (c_ z);⟨X.new,q.1,m,o,es,k,q.2,x.2⟩
theorem FP{az P':Pt}{L acc:Addr}{x:Str}{hn:G.c.hc.get? L=none}{aY:aD}{ag dF:af}{ys:List PV}{xs:Array Value}{m:Nat}(fG:Inv G.c J ag az)(fL:iY G.c az L)(fA:iY G.c az acc)(A':To (G.c.comp L x hn) az P')(I':Inv (G.c.comp L x hn) aY dF P')(ha:acc∉P'.Y)(g:P'.s.heap.get? acc=some (gW xs m))(V:cy G.c P' ys xs.toList):
  Inv G.c J (dF++[.list ys]) ⟨P'.Y++[acc],P'.s⟩/\To G.c az ⟨P'.Y++[acc],P'.s⟩:=by
 have ne:∀{a o},az.s.heap.get? a=some o->a∉[L]:=λe z=>aQ fL.n (c_ z▸e)
 have app:∀{a},a∉P'.Y->a≠acc->a∉P'.Y++[acc]:=λx y z=>(List.mem_append.mp z).elim x λz=>y (c_ z)
 refine fG.under ⟨A'.pre.elim λν e=>⟨ν++[acc],by rw[<-List.append_assoc,<-e]⟩,λa o e x y O=>let q:=A'.keep a o e x y (ne e);⟨app q.1 λz=>aQ fA.n (z▸e),q.2⟩,λa x O m n=>(Ns.tab n).elim λO q=>q.elim λO q=>q.elim λO q=>A'.ns a x (ne q.1) m n,λa x n=>app (A'.off a (.inl (x.resolve_right nofun)) n) λz=>fA.f (z▸x.resolve_right nofun),A'.same⟩ (I'.so.add ha fA.h ⟨xs,m,g,aH.bc (.lM (λO O e=>e) _) V⟩)
theorem uu{elt iter:PySem.Expr}{x:Str}{px pos:Pos}{ifs:List PySem.Expr}{scope:Scope}{me:ME}{mi:MI}{mc:fM}{K:fv G.c PV}{RR:Value->Env->Result->Shared->Prop}
  (r6:∀z∈scope.names,z.2≠ .cell) (k4:scope.kind=.function) (hx:scope.names.lookup x=some .local)
  (Si:iE G (.Name x px) iter mi) (B:r5 G scope x elt me ifs mc) (I:Inv G.c J Z P) (F:Fo E K P (ai G.cf G.gl (.comp me mi mc) J Z))
  (h:∀az ys dF acc gJ P',Fo E K az (some (.ok (.ref dF.length),dF++[.list ys]))->Inv G.c J (dF++[.list ys]) P'->To G.c az P'->P'.Y[dF.length]? =some acc->After G.c az P' gJ.locals->RR (.ref acc) gJ (.ok .next) P'.s):
  G.c.W G.A (eval iter G.env) (λQS c8=>G.c.W G.A (pyIter QS) (λit jH=>G.c.W G.A (PySem.newList []) (λacc iD=>
   G.c.W G.A (newFunctionEnv scope G.env.globals [] [] G.env.qual none .none (some G.env)) (λgJ FL=>
    codeAny (model G.c.prog G.c.w) G.A (.compStart (.ListComp elt [⟨.Name x px,iter,ifs,0⟩] scope pos) 0 it acc {gJ with scope:=scope}) (RR acc gJ) FL) E iD) E jH) E c8) E P.s:=by
 have F:Fo E K P (ay (fO G.cf G.gl mi J Z) λsrc Z=>bp (cu (gY G.cf G.gl mc me) src.1 src.2 (ew Z src.1+1) 0 Z) λvs Z=>some (.ok (.ref Z.length),Z++[.list vs])):=F
 refine Si J Z P _ E I (F.bind λq ag F' az A fG it fp St cH n5 k hn uv st=> ?_)
 delta PySem.newList
 refine wpAny_newObj_type ?_ (Nat.zero_le _)
 obtain ⟨H,hH⟩:∃H,H=cH.push {cls:=.type "list",data:=.seq ([]:List Value).toArray}:=⟨_,rfl⟩
 show G.c.W G.A (newFunctionEnv scope G.env.globals [] [] G.env.qual none .none (some G.env)) _ E (az.at az.Y (cH.push {cls:=.type "list",data:=.seq ([]:List Value).toArray}) n5).s
 rw[<-hH]
 have Bu:Sub cH H:=hH▸fY
 have QT:H.get? cH.objs.size=some (gW #[] 0):=hH▸Heap.get?_push_size _ rfl
 have hz:H.objs.size=cH.objs.size+1:=hH▸Heap.size_push ..
 refine wpAny_newFunctionEnv r6 nofun (λi3 Bv Bw=> ?_) k4
 have Bv:i3.Ns H.objs.size (λx=>(([]:List (Str×Value)).reverse).lookup x):=Bv
 have Bw:Heap.SameBut H.objs.size (H.push {cls:=.type "dict",data:=.dict #[]}) i3:=Bw
 have kH:Sub H i3:=λa o e=>Bw.extBut a o (Nat.ne_of_lt (Heap.lt_size e)) (Heap.get?_push_of_some _ e)
 have pq:Sub az.s.heap i3:=λa o e=>kH a o (Bu a o (k a o e))
 have none_of:∀a,cH.objs.size<=a->az.s.heap.get? a=none:=λa hle=>by
  cases q:az.s.heap.get? a with
  |none=>rfl
  |some o=>exact absurd (Heap.lt_size (k a o q)) (Nat.not_lt.mpr hle)
 have nL:=fG.free (none_of H.objs.size (hz▸Nat.le_succ _))
 have nA:=fG.free (none_of cH.objs.size (Nat.le_refl _))
 have K2:cH.objs.size≠H.objs.size:=hz▸Nat.ne_of_lt (Nat.lt_succ_self _)
 have O':rQ (G.c.comp H.objs.size x nL.h) G.A {newEnv scope H.objs.size G.env.globals [] G.env.qual none .none (some G.env) 0 with scope:=scope} G.n 0:=by
  refine⟨k4,G.iw.gl,G.iw.bi,rfl,λi y hy=> ?_,List.nodup_cons.mpr ⟨List.not_mem_nil,List.nodup_nil⟩,G.iw.fr,G.iw.hn,bJ (Nat.add_le_add_left (Nat.zero_le _) _) G.iw.dp,bJ (Nat.add_le_add_left (Nat.zero_le _) _) G.iw.hu⟩
  cases i with
  |zero=>cases hy;exact hx
  |succ i=>exact nomatch hy
 obtain ⟨Se,Sc⟩:=B _ nL.h _ O' rfl
 have K':lB (G.c.comp H.objs.size x nL.h) G.A (.Name x px) it q.1 q.2 fp St az:=⟨uv.frame,uv.fields,uv.self,uv.next⟩
 have Hm:St 0 i3:=uv.frame 0 cH i3 st (λa O o e=>kH a o (Bu a o e)) (λa o e O=>pq a o e)
 have tG:∀t,Inv (G.c.comp H.objs.size x nL.h) [none] ag (az.at az.Y i3 t):=λt=>
  have y:=fG.sub pq (t:=t)
  ⟨y.1.so,y.1.kc,λa m=>⟨(fG.sep a m).1,λ(q:a=H.objs.size)=>fG.so.Fb nL.n (q▸m)⟩,y.1.ns,_,Bv,λi y p hy hp=>by
   cases i with
   |zero=>exact nomatch hp
   |succ i=>exact nomatch hp⟩
 have n7:cH.objs.size∉fp:=λm=>(uv.fields 0 cH st _ m).elim λo x=>x.elim λO x=>Nat.lt_irrefl _ (Heap.lt_size x.1)
 have fA:iY (G.c.comp H.objs.size x nL.h) az cH.objs.size:=⟨nA.n,nA.h,nA.f,K2⟩
 have fF:∀a∈fp,iY (G.c.comp H.objs.size x nL.h) az a:=λa m=>
  have f:=fG.free (hn a m)
  ⟨f.n,f.h,f.f,λ(q:a=H.objs.size)=>(uv.fields 0 cH st _ m).elim λo x=>x.elim λO x=>Nat.not_succ_lt_self ((q.trans hz)▸Heap.lt_size x.1)⟩
 have loop:∀t,codeAny (model G.c.prog G.c.w) G.A (.compLoop (.ListComp elt [⟨.Name x px,iter,ifs,0⟩] scope pos) 0 it (.ref cH.objs.size) {newEnv scope H.objs.size G.env.globals [] G.env.qual none .none (some G.env) 0 with scope:=scope}) (RR (.ref cH.objs.size) (newEnv scope H.objs.size G.env.globals [] G.env.qual none .none (some G.env) 0)) (az.at az.Y i3 t).s:=λt=>by
  refine Dq (G:=G.comp H.objs.size x nL.h _ O') (az:=az) (E:=E) (m:=ew ag q.1+1) rfl Se Sc K' fF fA n7 ⟨0,[none],ag,az.at az.Y i3 t,[],#[],0,tG t,rfl,.sub pq,.sub pq,Hm,fG.so.Fb nA.n,kH _ _ QT,aH.nil,Nat.le_refl _,?_⟩
  refine Fo.bp (F'.up A) λys dF bY aY P' xs m A' I' ha g V=> ?_
  have y:=FP fG nL nA A' I' ha g V
  exact h az ys dF _ _ ⟨P'.Y++[cH.objs.size],P'.s⟩ bY y.1 y.2 (by rw[<-I'.so.ml];exact List.getElem?_concat_length) ⟨nL,λz=>(List.mem_append.mp z).elim (λz=>(I'.sep _ z).2 rfl) λz=>K2 (c_ z).symm,I'.Hd⟩
 exact codeAny_compStart_list (loop _) (uv.self 0 _ _ _ Hm (loop _))
set_option backward.match.sparseCases true in
theorem FQ{elt iter:PySem.Expr}{x:Str}{px pos:Pos}{ifs:List PySem.Expr}{scope:Scope}{me:ME}{mi:MI}{mc:fM}
  (r6:∀z∈scope.names,z.2≠ .cell) (Bx:∀z∈scope.names,z.2≠ .free) (w7:∀z∈scope.names,z.2=.local->scope.names.lookup z.1=some .local) (k4:scope.kind=.function) (hx:scope.names.lookup x=some .local) (hp:fZ iter=true)
  (Si:iE G (.Name x px) iter mi) (B:r5 G scope x elt me ifs mc):aT G (.ListComp elt [⟨.Name x px,iter,ifs,0⟩] scope pos) (.comp me mi mc):=λJ Z P Q E I F=>
 wpAny_ListComp Bx k4 w7 (uu (RR:=λacc gJ r' s'=>∃m,s'.heap.Ns gJ.locals m/\∀h',Heap.SameBut gJ.locals s'.heap h'->
      match r' with | .ok _=>Q acc {s' with heap:=h'} | .error x=>wpAny (model G.c.prog G.c.w) G.A (passOn "comprehension.variables-let-go" x {gJ with scope:=scope}) Q E {s' with heap:=h'}) r6 k4 hx Si B I F λaz O O O O P' bY I' A' g X=>
  X.ns.elim λm N=>⟨m,N,λO hs=>bY.ok (P':=P'.at P'.Y _ P'.s.toks) ((X.same I' A' hs)) (.mD g)⟩) (kg hp)
set_option backward.match.sparseCases true in
theorem vj{elt iter:PySem.Expr}{x y:Str}{i:Nat}{px py pos K3:Pos}{ifs:List PySem.Expr}{scope:Scope}{me:ME}{mi:MI}{mc:fM}
  (hy:G.c.locs[i]? =some y) (Sz:swapsWith (.ListComp elt [⟨.Name x px,iter,ifs,0⟩] scope pos) (some (.Name y py)) K3.line G.env=pure true)
  (r6:∀z∈scope.names,z.2≠ .cell) (Bx:∀z∈scope.names,z.2≠ .free) (w7:∀z∈scope.names,z.2=.local->scope.names.lookup z.1=some .local) (k4:scope.kind=.function) (hx:scope.names.lookup x=some .local) (hp:fZ iter=true)
  (Si:iE G (.Name x px) iter mi) (B:r5 G scope x elt me ifs mc):ef G (.Assign [.Name y py] (.ListComp elt [⟨.Name x px,iter,ifs,0⟩] scope pos) K3) (.aK i (.comp me mi mc)):=by
 intro J Z P Q E I F
 rw[exec_Assign_Name_used _ _ _ _ Sz]
 refine wpAny_bind (wpAny_standAt (wpAny_bind ?_))
 show wpAny _ G.A (do let _ <-comprehension (.ListComp elt [⟨.Name x px,iter,ifs,0⟩] scope pos) scope G.env _ (PySem.newList []) false (eval iter G.env) (some (assign (.Name y py) G.env))) _ _ P.s
 refine wpAny_bind (wpAny_mono (wpAny_comprehension_use (Q:=λO s'=>Q .next s') rfl (kg hp) Bx k4 w7 ?_) (λO s' hq=>wpAny_pure (wpAny_pure hq)) λO O e=>e)
 have F:Fo E (fW G.c Q) P (ay (ai G.cf G.gl (.comp me mi mc) J Z) λv Z=>av (.next,cU J i v) Z):=F
 refine uu (K:=⟨λv Z P=>Fo E (fW G.c Q) P (av (.next,cU J i v) Z),λO O O O A F=>F.up A⟩) (RR:=λacc gJ r' s'=>match r' with
     |.ok _=>wpAny (model G.c.prog G.c.w) G.A (assign (.Name y py) G.env acc) (λO rV=>∃m,rV.heap.Ns gJ.locals m/\∀h',Heap.SameBut gJ.locals rV.heap h'->Q .next {rV with heap:=h'}) E s'
     |.error x=>∃m,s'.heap.Ns gJ.locals m/\∀h',Heap.SameBut gJ.locals s'.heap h'->wpAny (model G.c.prog G.c.w) G.A (passOn "comprehension.variables-let-go" x {gJ with scope:=scope}) (λO s'=>Q .next s') E {s' with heap:=h'})
   r6 k4 hx Si B I (F.bind λO O F=>F) λaz ys dF acc gJ P' bY I' A' g X=> ?_
 exact wpAny_assign_Name (gS I' hy (.mD g) λcv cY bU=>(X.to cY).ns.elim λm N=>⟨m,N,λO hs=>have q:=(X.to cY).same (t:=cv.s.toks) bU (A'.trans cY) hs;bY _ q.2 q.1⟩)
end
noncomputable def By(b:Bs):Prop:=∃nm q N bs bm tI sn sub ab col dd k0 k1 k2 k3 k5 newId,b.hc.get? (b9 2)=some (excClassObj nm q (b9 2) N bs bm tI sn sub ab col dd k0 k1 k2 k3 k5 newId)/\bm.contains (.type "BaseException")=true
inductive lT:PySem.Const->PV->Prop where
 |none:lT .none .none
 |bool (b:Bool):lT (.bool b) (.bool b)
theorem Dr{env:Env}{k0:PySem.Const}{h:PV}(hc:lT k0 h){A:Around}{M:Model}{kk:Nat}{p:Pos}{s:Shared}{Q:Value->Shared->Prop}{E:Value->Shared->Prop}(hq:∀v,(∀(b:Bs) (hp:Heap) (Y:List Addr),VR b hp Y h v)->Q v s):wpAny M A (eval (.Constant k0 kk p) env) Q E s:=by
 cases hc with
 |none=>exact wpAny_Constant_none (hq _ λO O O=>VR.vA)
 |bool b=>exact wpAny_Constant_bool (hq _ λO O O=>VR.vz b)
theorem Fo.jj{c:Cx}{E E':Value->Shared->Prop}{Q Q':Flow->Shared->Prop}{P:Pt}{o:aF (Fl×aD)}{h:PV}{J:aD}(F:Fo E (fW c Q) P (FR.jj o h J))(h1:∀ag,Fo E (fW c Q) P (av (.ret h,J) ag)->∀x s',pa c [c.L] ag P x s'->E' x s')(h2:∀f s,Q f s->Q' f s):Fo E' (fW c Q') P o:=by
 cases o with
 |none=>exact F
 |some r=>
  obtain ⟨r,ag⟩:=r
  cases r with
  |error e=>
   cases e with
   |iy=>exact h1 ag F
   |fresh=>exact F.elim
  |ok fl=>
   obtain ⟨fl,aY⟩:=fl
   cases fl with
   |next=>exact λP' A I=>h2 _ _ (F P' A I)
   |cont=>exact λP' A I=>h2 _ _ (F P' A I)
   |ret p=>exact λP' v A S V=>h2 _ _ (F P' v A S V)
theorem Oo{c:Cx}{a:Addr}{o:Obj}(m:a∈c.F)(e:c.hc.get? a=some o):False:=by
 obtain ⟨env,hm,hf⟩:=List.mem_filterMap.mp m
 exact(c.kf env hm).2.elim λL x=>aQ x.2 (bF x.1 hf▸e)
theorem Jj{G:Gx}(X:By G.c.toBs)(ju:∃outer,G.c.fr=G.env::outer)(uw:G.env.frame=some G.c.L){body:List PySem.Stmt}{mb:bG}{x:Str}{np p1 p2 pos QU:Pos}{k0:PySem.Const}{kk:Nat}{h:PV}
  (hk:G.env.kindOf x=some .globalImplicit) (hx:G.T.mg x=some (.ref (b9 2))) (hd:(x == ("__debug__":Str))=false) (hc:lT k0 h) (B:iB G body mb):
  ef G (.Try body [.ExceptHandler (some (.Name x np)) none [.Return (some (.Constant k0 kk p1)) p2] pos] [] [] QU) (.lr mb h):=by
 intro J Z P Q E I F
 refine wpAny_Try_except (B J Z P _ _ I (Fo.jj F (λag aW ex c8 y=> ?_) λf s q=> ?_))
 ·obtain ⟨e,gF,hb,h',t',a0,q3,q4,q5,q6,q7,q8⟩:=y
  obtain ⟨outer,Dt⟩:=ju
  rw[Dt] at q3
  refine wpAny_looks_onW (G.iw.fr.trans (congrArg some Dt)) uw q3 λcH Jk Oq=>wpAny_landsW Jk λmP Bz Ot=> ?_
  obtain ⟨ob,Hc,QV⟩:=Bz.there
  have Hn:∀a o,G.c.hc.get? a=some o->mP.get? a=some o:=λa o ea=>
   Bz.1 a o (q6 a o (I.kc a o ea) (λm=>aQ (I.so.fresh a m) ea) (λm=>Oo m ea) (λm=>aQ G.c.lf (c_ m▸ea))).2
  obtain ⟨nm,q,N,bs,bm,tI,sn,sub,ab,col,dd,VH,k1,k2,k3,k5,newId,hC,mO⟩:=X
  refine wpAny_handleBy_cons (codeAny_handlers_test ?_) nofun
  refine Name_function_global G.iw.kf hk (loadGlobal_global (G.iw.gl.symm▸G.T.ng.keeps Hn) hx ?_) hd
  refine wpAny_excMatches_sub_self (Hn _ _ hC) Hc QV mO (codeAny_handlers_suite ?_)
  refine lands_againW Bz λi3 Ho Ou=> ?_
  refine wpAny_execs_cons (wpAny_Return_some (Dr hc λv hv=> ?_))
  exact aW ⟨gF,{P.s with heap:=i3,toks:=t'}⟩ v ⟨q5,λa o e x y z=>let q:=q6 a o e x y z;⟨q.1,Ho.1 _ _ q.2⟩,λa x y m N=>((Oq.trans Ot).trans Ou).ns (q7 a x y m N),q8,rfl⟩ (q4.keeps Ho.1) (hv _ _ _)
 ·cases f with
  |next=>exact wpAny_execs_nil q
  |_=>exact q
end FR
section
set_option maxRecDepth 100000
namespace r7
open PySem PySem.W PySem.Calls PyProof.Rows PySem.SeqAt
open PySem.Builtin PySem.Builtin.ObjectAttr
noncomputable abbrev n8:List Value:=[.type "Exception",.type "BaseException",.type "object"]
section
variable{M:Model}{A:Around}{E:Value->Shared->Prop}{h:Heap}{g:Array GenState}{d:Drawn}{t:Nat}{os:OsState}
variable{nm q:Str}{C B N:Addr}{bs:List Value}{tI:Bool}{sn:List Str}{sub:List Value}{ab:Bool}{col:Option Bool}{dd K4:Option Addr}{k0 k1 k2 k3 k5:Option Value}{c0:Value}{cd:ClassData}{sl:Array (Option Value)}{mN mR:Str->Option Value}{name:Str}
structure lU(h:Heap)(C B:Addr)(mN mR:Str->Option Value):Prop where
 cls:∃nm q N bs sn sub ab col dd k0 k1 k2 k3 k5,h.get? C=some (excClassObj nm q C N bs (.ref B::n8) true sn sub ab col dd k0 k1 k2 k3 k5 "Exception.__new__")/\h.Ns N mN
 base:∃c0 dd cd sl,h.get? B=some {cls:=c0,dict:=dd,data:=.cls cd,slots:=sl}/\h.Ns cd.ns mR
theorem lU.keeps{h h':Heap}(T:lU h C B mN mR)(k:∀b o,h.get? b=some o->h'.get? b=some o):lU h' C B mN mR:=by
 obtain ⟨⟨nm,q,N,bs,sn,sub,ab,col,dd,k0,k1,k2,k3,k5,hC,hn⟩,c0,K4,cd,sl,hB,hr⟩:=T
 exact⟨⟨nm,q,N,bs,sn,sub,ab,col,dd,k0,k1,k2,k3,k5,k _ _ hC,hn.keeps k⟩,c0,K4,cd,sl,k _ _ hB,hr.keeps k⟩
theorem BA{y:Option Value}{Q:Option Value->Shared->Prop}(T:lU h C B mN mR)(hB:typeLookup (.type "Exception") name=pure y)
  (hq:Q (match mN name with | some v=>some v | none=>match mR name with | some v=>some v | none=>y) ⟨h,g,d,t,os⟩):wpAny M A (typeLookup (.ref C) name) Q E ⟨h,g,d,t,os⟩:=by
 obtain ⟨⟨nm,q,N,bs,sn,sub,ab,col,dd,k0,k1,k2,k3,k5,hC,hn⟩,c0,K4,cd,sl,hR,hr⟩:=T
 have hrest:lookupAlong n8 name=pure y:=by rw[typeLookup_eq,PySem.F.excBase_Exception.mroIs] at hB;exact hB
 rw[typeLookup_eq]
 refine wpAny_bind (wpAny_mroOf_exc hC ?_)
 rw[lookupAlong_cons]
 refine wpAny_bind (wpAny_classOwn_exc hC hn ?_)
 cases hv:mN name with
 |some v=>rw[hv] at hq;exact wpAny_pure hq
 |none=>
  rw[hv] at hq
  dsimp only at hq⊢
  rw[lookupAlong_cons]
  refine wpAny_bind (wpAny_classOwn_cls hR hr ?_)
  cases hw:mR name with
  |some v=>rw[hw] at hq;exact wpAny_pure hq
  |none=>rw[hw] at hq;dsimp only at hq⊢;rw[hrest];exact wpAny_pure hq
theorem BB{rest:List Value}{Q:Unit->Shared->Prop}(hC:h.get? C=some (excClassObj nm q C N bs (.ref B::n8) tI sn sub ab col dd k0 k1 k2 k3 k5 "Exception.__new__"))
  (hq:Q () ⟨h,g,d,t,os⟩):wpAny M A (checkBuiltinCall "Exception.__new__" ⟨.ref C::rest,[]⟩) Q E ⟨h,g,d,t,os⟩:=by
 have F:=PySem.F.excBase_Exception
 have Ov:(Value.ref C::.ref B::n8).contains (.type "Exception")=true:=rfl
 have Vr:=F.noStar
 simp only [checkBuiltinCall,F.newKind,F.newSplit,F.newRow]
 repeat (first | refine wpAny_loadPart_at hC ?_ | (refine wpAny_isSubtype_exc hC ?_;rw[Ov]) | refine wpAny_staticBase_exc hC ?_ | refine wpAny_madeBy_exc hC ?_ | simp only [bne_self_eq_false,Bool.false_eq_true,if_false] | wp_step)
 exact hq
end
section
variable{prog:Program}{w:World}{A:Around}{R:Result->Shared->Prop}{h:Heap}{g:Array GenState}{d:Drawn}{t:Nat}{os:OsState}
variable{nm q:Str}{C B N:Addr}{bs:List Value}{tI:Bool}{sn:List Str}{sub:List Value}{ab:Bool}{col:Option Bool}{dd:Option Addr}{k0 k1 k2 k3 k5:Option Value}
theorem FT{rest:List Value}(hC:h.get? C=some (excClassObj nm q C N bs (.ref B::n8) tI sn sub ab col dd k0 k1 k2 k3 k5 "Exception.__new__"))
  (hq:R (.ok (.ret (.ref (h.objs.size+1)))) ⟨(h.push {cls:=.type "tuple",data:=.seq rest.toArray}).push
   {cls:=.ref C,data:=.fields #[.ref h.objs.size,.none,.none,.none,.bool false,.none]},g,d,t,os⟩) (hrest:rest.length<=sizeLine:=by size_fits):
  codeAny (model prog w) A (.builtin "Exception.__new__" ⟨.ref C::rest,[]⟩) R ⟨h,g,d,t,os⟩:=by
 have F:=PySem.F.excBase_Exception
 have Vt:=F.ends
 have Du:(Value.ref C::.ref B::n8).contains (.type "Exception")=true:=rfl
 have SA:(Value.ref C::.ref B::n8).contains (.type "AttributeError")=false:=rfl
 have SD:(Value.ref C::.ref B::n8).contains (.type "NameError")=false:=rfl
 refine codeAny_builtinAt F.entry ?_
 unfold Builtin.«BaseException.__new__»
 refine PySem.wpAt_bind ?_
 show PySem.wpAt _ _ _ (stack >>= _) _ _ _
 refine PySem.wpAt_bind (PySem.wpAt_stack λp below=>PySem.wpAt_of_wpAny ?_)
 wp_walk
 refine PySem.wpAt_of_wpAny ?_
 rw[F.owner]
 repeat (first | with_reducible refine wpAny_madeHere_exc F.canon hC ?_ | with_reducible refine wpAny_loadPart_at hC ?_ | (with_reducible refine wpAny_isSubtype_exc hC ?_;first | rw[Du] | rw[SA] | rw[SD]) | wp_step)
 show R _ _
 rw[Heap.size_push]
 exact hq
end
section
variable{prog:Program}{w:World}{A:Around}{E:Value->Shared->Prop}{h:Heap}{g:Array GenState}{d:Drawn}{t:Nat}{os:OsState}
variable{C B f:Addr}{mN mR:Str->Option Value}
theorem BC{rest:List Value}{Q:PySem.Fin->Shared->Prop}(T:lU h C B mN mR)(h1:mN "__init__"=none)(h2:mR "__init__"=some (.ref f))(hf:∀h' (self:Value),(∀b o,h.get? b=some o->h'.get? b=some o)->Looks (model prog w) h' (bindSpecial (.ref f) self) (.ref f,[self]))
  (hq:codeAny (model prog w) A (.call (.ref f) ⟨.ref (h.objs.size+1)::rest,[]⟩) (λr s'=>match r with | .ok (.ret v)=>v=.none/\Q (.done (.ret (.ref (h.objs.size+1)))) s' | .ok _=>False | .error e=>E e s')
   ⟨(h.push {cls:=.type "tuple",data:=.seq rest.toArray}).push {cls:=.ref C,data:=.fields #[.ref h.objs.size,.none,.none,.none,.bool false,.none]},g,d,t,os⟩) (hrest:rest.length<=sizeLine:=by size_fits):
  wpAny (model prog w) A (Builtin.«type.__call__» ⟨.ref C::rest,[]⟩) Q E ⟨h,g,d,t,os⟩:=by
 have T0:=T
 have F:=PySem.F.excBase_Exception
 obtain ⟨⟨nm,q,N,bs,sn,sub,ab,col,dd,k0,k1,k2,k3,k5,hC,hn⟩,_⟩:=T0
 repeat (first | with_reducible refine wpAny_loadPart_at hC ?_ | with_reducible refine wpAny_madeBy_exc hC ?_ | wp_step)
 refine codeAny_call_builtin_code (Code.quiet_builtin _ F.quiet) (BB hC ?_)
 refine FT hC ?_ hrest
 show wpAny _ _ _ _ _ _
 have kk:∀b o,h.get? b=some o->((h.push {cls:=.type "tuple",data:=.seq rest.toArray}).push {cls:=.ref C,data:=.fields #[.ref h.objs.size,.none,.none,.none,.bool false,.none]}).get? b=some o:=
  λb o e=>Heap.get?_push_of_some _ (Heap.get?_push_of_some _ e)
 have Ow:=kk _ _ hC
 have QW:((h.push {cls:=.type "tuple",data:=.seq rest.toArray}).push
   {cls:=.ref C,data:=.fields #[.ref h.objs.size,.none,.none,.none,.bool false,.none]}).get? (h.objs.size+1)=some
   {cls:=.ref C,data:=.fields #[.ref h.objs.size,.none,.none,.none,.bool false,.none]}:=by heap_get
 have SE:(Value.ref C::.ref B::n8).contains (.ref C)=true:=by simp
 unfold isInstance
 repeat (first | with_reducible refine wpAny_loadPart_at QW ?_ | (with_reducible refine wpAny_isSubtype_exc Ow ?_;rw[SE]) | wp_step)
 show wpAny _ _ (typeLookup (.ref C) _) _ _ _
 refine BA (T.keeps kk) F.init.lookup ?_
 rw[h1,h2]
 refine wpAny_holding (wpAny_bind ((hf _ _ kk).here (wpAny_bind (wpAny_call (codeAny_mono hq λr s' z=> ?_)))))
 rcases r with e | (v | _ | _ | _)<;>first | exact z | exact z.elim | skip
 obtain ⟨rfl,z⟩:=z
 exact wpAny_pure (wpAny_pure z)
end
section
variable{prog:Program}{w:World}{A:Around}{E:Value->Shared->Prop}{h:Heap}{g:Array GenState}{d:Drawn}{t:Nat}{os:OsState}
variable{C B f x:Addr}{mN mR mA:Str->Option Value}{name:Str}{v:Value}
theorem call2{rest:List Value}{Q:Value->Shared->Prop}(T:lU h C B mN mR)(h1:mN "__init__"=none)(h2:mR "__init__"=some (.ref f))(hf:∀h' (self:Value),(∀b o,h.get? b=some o->h'.get? b=some o)->Looks (model prog w) h' (bindSpecial (.ref f) self) (.ref f,[self]))
  (hq:codeAny (model prog w) (A.under (.builtin "type.__call__" ⟨.ref C::rest,[]⟩)) (.call (.ref f) ⟨.ref (h.objs.size+1)::rest,[]⟩) (λr s'=>match r with | .ok (.ret v)=>v=.none/\Q (.ref (h.objs.size+1)) s' | .ok _=>False | .error e=>E e s')
   ⟨(h.push {cls:=.type "tuple",data:=.seq rest.toArray}).push {cls:=.ref C,data:=.fields #[.ref h.objs.size,.none,.none,.none,.bool false,.none]},g,d,t,os⟩) (hrest:rest.length<=sizeLine:=by size_fits):
  wpAny (model prog w) A (call (.ref C) rest) Q E ⟨h,g,d,t,os⟩:=by
 have f1:=tc_lookup
 have f2:=tc_bind (.ref C)
 have T0:=T
 obtain ⟨⟨nm,q,N,bs,sn,sub,ab,col,dd,k0,k1,k2,k3,k5,hC,hn⟩,_⟩:=T0
 have hT:(⟨h,g,d,t,os⟩:Shared).TypeIs (.ref C) "type":=⟨_,hC,rfl⟩
 refine wpAny_call (codeAny_of_tree ?_)
 show wpAny _ _ (callAny (.ref C) _) _ _ _
 repeat (any_goals (first | assumption | with_reducible refine wpAny_loadPart_at hC ?_ | wp_step))
 refine⟨rfl,?_⟩
 refine codeAny_call_builtin_at (Code.quiet_builtin _ (by decide+kernel)) entry_typeCall (wpAny_check_type_call_sub hC (BC (hrest:=hrest) T h1 h2 hf (codeAny_mono hq λr s' z=> ?_)))
 rcases r with e | (v | _ | _ | _)<;>first | exact z | exact z.elim
theorem K5{tk:Tok}{Q:PySem.Fin->Shared->Prop}{ns:List Str}(T:lU h C B mN mR)(w5:mN name=none)(K6:mR name=none)
  (hB:typeLookup (.type "Exception") name=pure none) (I:h.Inst x C mA)
  (hq:∀h' w8,h'.Inst x C (λy=>if y=name then some v else mA y)->
   (∀b o,b≠x->(∀dZ dx,h.get? x=some dZ->dZ.dict=some dx->b≠dx)->h.get? b=some o->h'.get? b=some o)->
   (∀dZ,h.get? x=some dZ->∃mQ,h'.get? x=some mQ/\mQ.cls=dZ.cls/\mQ.data=dZ.data/\∃dx,mQ.dict=some dx/\(dZ.dict=some dx\/dZ.dict=none/\h.get? dx=none))->Q (.done (.ret .none)) ⟨h',g,d,w8,os⟩) (hw:Within mA ns:=by within_ways) (eZ:ns.length<=sizeLine:=by size_fits):
  wpAny (model prog w) A (Builtin.«object.__setattr__» ⟨[.ref x,.str name tk,v],[]⟩) Q E ⟨h,g,d,t,os⟩:=by
 have T0:=T
 obtain ⟨⟨nm,q,N,bs,sn,sub,ab,col,dd,k0,k1,k2,k3,k5,hC,hn⟩,_⟩:=T0
 obtain ⟨o,hx,hc,Dv,hd⟩:=I
 have Ox:=PySem.F.store_Exception.passes (.ref x)
 unfold Builtin.«object.__setattr__»
 repeat (first | rw[refuse_eq] | (rw[refuseLoop_ref,refuseLoop_ref,Ox]) | (with_reducible refine wpAny_loadPart_at hx ?_;rw[hc]) | with_reducible refine wpAny_mroOf_exc hC ?_ | (with_reducible refine BA T hB ?_;rw[w5,K6]) | wp_step)
 rcases hd with ⟨Py,SG⟩ | ⟨dx,w9,dC,nF⟩
 ·
  rw[Py,if_neg (by simp [typeHasDict])]
  split
  ·rename_i nH
   cases nH
  split
  ·rename_i c nH
   exact absurd nH (Dv c)
  ·have Hp:(h.push {cls:=.type "dict",data:=.dict #[]}).get? x=some o:=Heap.get?_push_of_some _ hx
   have K7:x≠h.objs.size:=Nat.ne_of_lt (Heap.lt_size hx)
   refine wpAny_bind (wpAny_alloc' ?_)
   refine wpAny_bind (wpAny_update' Hp ?_)
   refine wpAny_pure ?_
   have SH:((h.push {cls:=.type "dict",data:=.dict #[]}).update x λo=>{cls:=o.cls,dict:=some h.objs.size,data:=o.data,slots:=o.slots}).get? h.objs.size
     =some {cls:=.type "dict",data:=.dict #[]}:=
    (Heap.get?_update_ne _ _ _ _ K7.symm).trans (Heap.get?_push_at rfl rfl)
   have Dw:((h.push {cls:=.type "dict",data:=.dict #[]}).update x λo=>{cls:=o.cls,dict:=some h.objs.size,data:=o.data,slots:=o.slots}).Ns h.objs.size (λO=>none):=
    ⟨_,#[],_,SH,rfl,λe he=>absurd he (by simp),λO=>rfl⟩
   show wpAny _ _ (storeInDict h.objs.size (.str name tk) name v) _ _ _
   unfold storeInDict newKeyGuard
   refine wpAny_bind (wpAny_pure (wpAny_bind (wpAny_nsSet1 (Heap.Ns1.of_empty Dw) λh' Dx hs=> ?_)))
   obtain ⟨oD,SI,SJ,K8,K9,Lb⟩:=Dx.count (Within.cons name v Within.nil)
   refine wpAny_bind (wpAny_lookBehind K8 (by rw[K9];exact pastItsLine_dict (Nat.le_trans Lb (by rw[List.length_cons,List.length_nil,sizeLine_eq];omega))) ?_)
   wp_walk
   have Hq:h'.get? x=some {cls:=o.cls,dict:=some h.objs.size,data:=o.data,slots:=o.slots}:= ?_
   refine hq h' _ ⟨{cls:=o.cls,dict:=some h.objs.size,data:=o.data,slots:=o.slots},Hq,hc,Dv,.inr ⟨h.objs.size,rfl,K7.symm,?_⟩⟩ (λb ob SK O hb=> ?_)
    (λdZ h₀=>by obtain rfl:o=dZ:=Option.some.inj (hx.symm.trans h₀);exact⟨_,Hq,rfl,rfl,_,rfl,.inr ⟨Py,Heap.get?_none_of_le (Nat.le_refl _)⟩⟩)
   ·obtain ⟨o',es,ep,e1,e2,e3,eu,e4⟩:=Dx
    exact⟨o',es,ep,e1,e2,e3,eu,λy=>by rw[e4 y];by_cases hy:y=name<;>simp [hy,SG]⟩
   ·exact(hs.2 b (Nat.ne_of_lt (Heap.lt_size hb))).trans ((Heap.get?_update_ne _ _ _ _ SK).trans (Heap.get?_push_of_some _ hb))
   ·refine(hs.2 x K7).trans (Heap.get?_update_self _ Hp ?_)
    have ju:=(Heap.get?_some_iff.mp hx).2
    obtain ⟨oc,od,Pz,SM⟩:=o
    cases Pz<;>first | rfl | exact ju
 ·
  rw[w9]
  refine wpAny_pure ?_
  show wpAny _ _ (storeInDict dx (.str name tk) name v) _ _ _
  unfold storeInDict newKeyGuard
  refine wpAny_bind (wpAny_pure (wpAny_bind (wpAny_nsSet1 nF λh' Dx hs=> ?_)))
  obtain ⟨oD,SI,SJ,K8,K9,Lb⟩:=Dx.count (Within.cons name v hw)
  refine wpAny_bind (wpAny_lookBehind K8 (by rw[K9];exact pastItsLine_dict (Nat.le_trans Lb (by rw[List.length_cons];omega))) ?_)
  wp_walk
  refine hq h' _ ⟨o,(hs.2 x dC.symm).trans hx,hc,Dv,.inr ⟨dx,w9,dC,Dx⟩⟩ (λb ob O jw hb=> ?_)
   (λdZ h₀=>by obtain rfl:o=dZ:=Option.some.inj (hx.symm.trans h₀);exact⟨o,(hs.2 x dC.symm).trans h₀,rfl,rfl,dx,w9,.inl w9⟩)
  exact(hs.2 b (jw o dx hx w9)).trans hb
theorem Dy{M:Model}{o:Obj}{Oy:Value}{Q:Unit->Shared->Prop}(T:lU h C B mN mR)(hx:h.get? x=some o)(hc:o.cls=.ref C)(hq:Q () ⟨h,g,d,t,os⟩):
  wpAny M A (checkBuiltinCall "object.__setattr__" ⟨[.ref x,Oy,v],[]⟩) Q E ⟨h,g,d,t,os⟩:=by
 have SF:=PySem.F.store_Exception
 obtain ⟨⟨nm,q,N,bs,sn,sub,ab,col,dd,k0,k1,k2,k3,k5,hC,hn⟩,_⟩:=T
 have Du:(Value.ref C::.ref B::n8).contains (.type "object")=true:=rfl
 simp only [checkBuiltinCall,SF.kind,SF.split]
 refine wpAny_bind ?_
 ·unfold isInstance
  repeat (first | (with_reducible refine wpAny_loadPart_at hx ?_;rw[hc]) | (with_reducible refine wpAny_isSubtype_exc hC ?_;rw[Du]) | wp_step)
  exact hq
theorem Lc{Q:Unit->Shared->Prop}{ns:List Str}(T:lU h C B mN mR)(nF:mN "__setattr__"=none)(SN:mR "__setattr__"=none)(w5:mN name=none)(K6:mR name=none)
  (hB:typeLookup (.type "Exception") name=pure none) (I:h.Inst x C mA)
  (hq:∀h' w8,h'.Inst x C (λy=>if y=name then some v else mA y)->
   (∀b o,b≠x->(∀dZ dx,h.get? x=some dZ->dZ.dict=some dx->b≠dx)->h.get? b=some o->h'.get? b=some o)->
   (∀dZ,h.get? x=some dZ->∃mQ,h'.get? x=some mQ/\mQ.cls=dZ.cls/\mQ.data=dZ.data/\∃dx,mQ.dict=some dx/\(dZ.dict=some dx\/dZ.dict=none/\h.get? dx=none))->Q () ⟨h',g,d,w8,os⟩) (hw:Within mA ns:=by within_ways) (eZ:ns.length<=sizeLine:=by size_fits):
  wpAny (model prog w) A (setAttr (.ref x) name v) Q E ⟨h,g,d,t,os⟩:=by
 have SF:=PySem.F.store_Exception
 obtain ⟨o,hx,hc,_⟩:=id I
 have f3:=SF.slot.bind (.ref x)
 unfold setAttr callSpecial? specialOf
 repeat (any_goals (first | assumption | (with_reducible refine wpAny_loadPart_at hx ?_;rw[hc]) | (with_reducible refine BA T SF.slot.lookup ?_;rw[nF,SN]) | wp_step))
 refine codeAny_call_builtin SF.slot.plain SF.entry (Dy T hx hc (K5 T w5 K6 hB I (λh' w8 I' hk Oz=> ?_) hw eZ))
 repeat (any_goals (first | assumption | wp_step))
 exact hq h' w8 I' hk Oz
end
end r7
end
section
set_option maxRecDepth 100000
namespace FR
open PySem PySem.W PySem.Calls PyProof.Rows PySem.SeqAt
structure n9(b:Bs):Prop where
 two:∃mN mR,r7.lU b.hc (b9 2) 31 mN mR/\mN "__init__"=none/\mR "__init__"=some (.ref 28)/\∀n∈(["__setattr__","code","at"]:List Str),mN n=none/\mR n=none
 fn:∃fd p1 p2 p3 p4 q1 q2 q3 q4,wI b 28 fd ["self","code","at"] 3 [.Assign [.Attribute (.Name "self" p1) "code" p2] (.Name "code" p3) p4,.Assign [.Attribute (.Name "self" q1) "at" q2] (.Name "at" q3) q4]
 bf:∀h(self:Value),(∀a o,b.hc.get? a=some o->h.get? a=some o)->Looks (model b.prog b.w) h (bindSpecial (.ref 28) self) (.ref 28,[self])
theorem lookup_code:typeLookup (.type "Exception") "code"=pure none:=by rw[typeLookup_type,builtinLookup_eq_fast];kernel_rfl
theorem lookup_at:typeLookup (.type "Exception") "at"=pure none:=by rw[typeLookup_type,builtinLookup_eq_fast];kernel_rfl
section
variable{b:Bs}{A:Around}{R:Result->Shared->Prop}{s:Shared}
theorem jQ{M:Model}{env:Env}{x:Str}{p:Pos}{m:Str->Option Value}{v:Value}{Q:Value->Shared->Prop}{E:Value->Shared->Prop}(kf:env.scope.kind=.function)(kl:env.kindOf x=some .local)(N:s.heap.Ns env.locals m)(e:m x=some v)(hd:(x == ("__debug__":Str))=false)(h:Q v s):
  wpAny M A (eval (.Name x p) env) Q E s:=wpAny_Name (wpAny_loadName_local kf kl N e h) hd
theorem FU(X:n9 b){e:Addr}{t:Value}{v1 v2:Value}(k:∀a o,b.hc.get? a=some o->s.heap.get? a=some o)(he:s.heap.get? e=some {cls:=.ref (b9 2),data:=.fields #[t,.none,.none,.none,.bool false,.none]})(hn:b.hc.get? e=none)(KG:A.depth<900)
  (hq:∀h' tk,(∀a o,a≠e->s.heap.get? a=some o->h'.get? a=some o)->(∃oe,h'.get? e=some oe/\oe.cls=.ref (b9 2)/\oe.data=.fields #[t,.none,.none,.none,.bool false,.none])->R (.ok (.ret .none)) {s with heap:=h',toks:=tk}):
  codeAny (model b.prog b.w) A (.call (.ref 28) ⟨[.ref e,v1,v2],[]⟩) R s:=by
 obtain ⟨⟨mN,mR,T,i1,i2,nn⟩,⟨fd,p1,p2,p3,p4,q1,q2,q3,q4,F⟩,_⟩:=X
 obtain ⟨⟨o,ho,Bj⟩,OA,Ld,VI,nH,QX,OB,Le,Dv,Dw,VJ,SO,SP,PA⟩:=F
 have s1:(("__setattr__":Str)∈(["__setattr__","code","at"]:List Str)):=by simp
 have s2:(("code":Str)∈(["__setattr__","code","at"]:List Str)):=by simp
 have s3:(("at":Str)∈(["__setattr__","code","at"]:List Str)):=by simp
 refine codeAny_call_def (binds:=(["self","code","at"]:List Str).take 3 |>.zip [.ref e,v1,v2]) (Nat.lt_of_lt_of_le KG (by decide)) (k _ _ ho) Bj (QX.keeps k) (nH.keeps k) OA (BindsTo.of_eq (OB _ rfl)) Dv (λx hx=> ?_) (λh₀ nF hk=> ?_) SO SP PA
 ·exact Le _ (List.mem_of_mem_take (List.of_mem_zip (a:=x.1) (b:=x.2) hx).1)
 have SQ:e≠s.heap.objs.size:=Nat.ne_of_lt (Heap.lt_size he)
 have BD:=hk _ _ he
 have QY:=T.keeps (λa o ea=>hk _ _ (k a o ea))
 obtain ⟨oC,VK⟩:∃oC,b.hc.get? (b9 2)=some oC:=by
  obtain ⟨⟨nm,q,N,bs,sn,sub,ab,col,dd,k0,k1,k2,k3,k5,hC,_⟩,_⟩:=T
  exact⟨_,hC⟩
 have kl:∀x∈(["self","code","at"]:List Str),(callEnv fd s.heap.objs.size 28).kindOf x=some .local:=λx hx=>Le x hx
 have kf:(callEnv fd s.heap.objs.size 28).scope.kind=.function:=PA
 have m1:(("self":Str)∈(["self","code","at"]:List Str)):=by simp
 have m2:(("code":Str)∈(["self","code","at"]:List Str)):=by simp
 have m3:(("at":Str)∈(["self","code","at"]:List Str)):=by simp
 have l1:(((["self","code","at"]:List Str).take 3).zip [Value.ref e,v1,v2]).reverse.lookup ("self":Str)=some (Value.ref e):=by kernel_rfl
 have l2:(((["self","code","at"]:List Str).take 3).zip [Value.ref e,v1,v2]).reverse.lookup ("code":Str)=some v1:=by kernel_rfl
 have l3:(((["self","code","at"]:List Str).take 3).zip [Value.ref e,v1,v2]).reverse.lookup ("at":Str)=some v2:=by kernel_rfl
 refine wpAny_execs_cons (plainObj_wpAny_Assign_Attribute (jQ kf (kl _ m2) nF l2 (by decide+kernel) (jQ kf (kl _ m1) nF l1 (by decide+kernel) ?_)) rfl)
 refine r7.Lc (mA:=λO=>none) (ns:=[]) QY (nn _ s1).1 (nn _ s1).2 (nn _ s2).1 (nn _ s2).2 lookup_code ⟨_,BD,rfl,λc=>by simp,.inl ⟨rfl,λO=>rfl⟩⟩ (λh1 VL I1 k1 w1=> ?_) (λy hy=>absurd rfl hy) (Nat.zero_le _)
 obtain ⟨o1,g1,c1,d1,dx,w9,hold⟩:=w1 _ BD
 have Lf:h₀.get? dx=none:=by
  rcases hold with q | q
  ·cases q
  ·exact q.2
 have Lg:∀a o,a≠e->h₀.get? a=some o->h1.get? a=some o:=λa o ha ea=>k1 a o ha (λdZ SR q1 q2=>by rw[BD] at q1;cases q1;cases q2) ea
 have SS:∀a o,b.hc.get? a=some o->h1.get? a=some o:=λa o ea=>Lg a o (λq=>by rw[q,hn] at ea;cases ea) (hk _ _ (k a o ea))
 have Lh:h1.Ns (callEnv fd s.heap.objs.size 28).locals (λx=>(((["self","code","at"]:List Str).take 3).zip [Value.ref e,v1,v2]).reverse.lookup x):=by
  obtain ⟨o,es,n,ex,r⟩:=nF
  exact⟨o,es,n,Lg _ _ (Ne.symm SQ) ex,r⟩
 refine wpAny_execs_cons (plainObj_wpAny_Assign_Attribute (jQ kf (kl _ m3) Lh l3 (by decide+kernel) (jQ kf (kl _ m1) Lh l1 (by decide+kernel) ?_)) rfl)
 refine r7.Lc (ns:=["code"]) (T.keeps SS) (nn _ s1).1 (nn _ s1).2 (nn _ s3).1 (nn _ s3).2 lookup_at I1 (λh2 SU I2 k2 w2=> ?_) (λy hy=> ?_) (by rw[sizeLine_eq];decide)
 ·obtain ⟨o2,g2,c2,d2,_⟩:=w2 _ g1
  refine wpAny_execs_nil ?_
  refine hq h2 SU (λa o ha ea=>k2 a o ha (λdZ SR q1 q2=> ?_) (Lg a o ha (hk _ _ ea))) ⟨o2,g2,c2.trans c1,d2.trans d1⟩
  rw[g1] at q1
  cases q1
  rw[w9] at q2
  cases q2
  intro q
  subst q
  rw[hk _ _ ea] at Lf
  cases Lf
 ·by_cases q:y="code"
  ·simp [q]
  ·simp [q] at hy
end
theorem Dz{M:Model}{C B:Addr}{mN mR:Str->Option Value}(h:Heap)(T:r7.lU h C B mN mR):∃k,(k=Keeper.frame\/k=Keeper.machine\/k=Keeper.boundFrame)/\Looks M h (keeperOf (.ref C)) k:=by
 obtain ⟨⟨nm,q,N,bs,sn,sub,ab,col,dd,k0,k1,k2,k3,k5,hC,hn⟩,_⟩:=T
 exact⟨.machine,.inr (.inl rfl),λA Q E s k hq=>wpAny_keeperOf_exc (k _ _ hC) hq⟩
theorem BE{prog:Program}{w:World}{A:Around}{env:Env}{C B:Addr}{mN mR:Str->Option Value}{Q:Flow->Shared->Prop}{E:Value->Shared->Prop}{s:Shared}{x:Sem Value}(hh:A.handled=none)
  (h:wpAny (model prog w) A x (λv c8=>∃e oe t,v=.ref e/\r7.lU c8.heap C B mN mR/\c8.heap.get? e=some oe/\oe.cls=.ref C/\oe.data=.fields #[t,.none,.none,.none,.bool false,.none]/\E (.ref e) c8) E s):
  wpAny (model prog w) A (raiseStmt env (some x) none) Q E s:=by
 have Du:(Value.ref C::.ref B::r7.n8).contains (.type "BaseException")=true:=rfl
 unfold raiseStmt
 refine wpAny_bind (wpAny_mono h (λv c8 FV=> ?_) λO O x=>x)
 obtain ⟨e,⟨oc,od,Pz,SM⟩,t,rfl,⟨⟨nm,q,N,bs,sn,sub,ab,col,dd,k0,k1,k2,k3,k5,hC,hn⟩,_⟩,he,hc,PB,hE⟩:=FV
 dsimp only at hc PB
 subst hc PB
 obtain ⟨hp,g,d,tk,os⟩:=c8
 repeat (first | with_reducible refine wpAny_loadPart_at he ?_ | with_reducible refine wpAny_loadPart_at hC ?_ | (with_reducible refine wpAny_isSubtype_exc hC ?_;rw[Du]) | wp_step)
 exact wpAny_raiseNew_none hh hE
noncomputable def bZ.len:bZ->Nat
 |.nil=>0
 |.cons _ r=>r.len+1
noncomputable def Len(n:Nat)(o:aF (List PV)):Prop:=∀ps Z,o=some (.ok ps,Z)->ps.length=n
theorem Len.ay{β:Type}{n:Nat}{m:aF β}{k:β->af->aF (List PV)}(h:∀b Z,Len n (k b Z)):Len n (ay m k):=by
 cases m with
 |none=>exact λO O=>nofun
 |some r=>
  obtain ⟨r,ag⟩:=r
  cases r with
  |error e=>exact λO O=>nofun
  |ok b=>exact h b ag
theorem Len.es{cf:Nat->List PV->af->aF PV}{gl:Nat->PV}:∀(ms:bZ){J:aD}{Z:af},Len ms.len (bw cf gl ms J Z)
 |.nil,_,_=>λO O e=>by cases e;rfl
 |.cons _ r,_,_=>Len.ay λv Z=>by
  have ih:=Len.es r (cf:=cf) (gl:=gl) (J:= ‹aD›) (Z:=Z)
  revert ih
  show Len r.len (bw cf gl r _ Z)->Len (r.len+1) (FR.ay (bw cf gl r _ Z) λvs Z=>av (v::vs) Z)
  generalize bw cf gl r _ Z=o
  intro ih ps ag e
  cases o with
  |none=>exact nomatch e
  |some x=>
   obtain ⟨x,Li⟩:=x
   cases x with
   |error=>exact nomatch e
   |ok vs=>cases e;exact congrArg (· +1) (ih vs _ rfl)
theorem Fo.len{c:Cx}{β:Type}{E:Value->Shared->Prop}{K:fv c β}{P:Pt}{n:Nat}{o:aF (List PV)}{k:List PV->af->aF β}(h:Len n o)(F:Fo E K P (FR.ay o k)):Fo E K P (FR.ay o λps Z=>aJ (Nat.beq ps.length n) (k ps Z)):=by
 cases o with
 |none=>exact F
 |some x=>
  obtain ⟨x,Li⟩:=x
  cases x with
  |error=>exact F
  |ok vs=>
   show Fo E K P (aJ (Nat.beq vs.length n) (k vs Li))
   rw[h vs _ rfl,Nat.beq_refl]
   exact F
theorem DA{G:Gx}(X:n9 G.c.toBs){x:Str}{p Lj pos:Pos}{es:List PySem.Expr}{ms:bZ}(hk:G.env.kindOf x=some .globalImplicit)(hx:G.T.mg x=some (.ref (b9 2)))(hd:(x == ("__debug__":Str))=false)
  (hu:es.all bh=true) (hl:ms.len=2) (L:iZ G es ms):ef G (.Raise (some (.Call (.Name x p) es [] Lj)) none pos) (.fq ms):=by
 intro J Z P Q E I F
 have F:Fo E (fW G.c Q) P (ay (bw G.cf G.gl ms J Z) λO Z=>fresh Z):=F
 have F:=F.len (Len.es ms)
 rw[hl] at F
 refine X.two.elim λmN T2=>T2.elim λmR T2=> ?_
 rw[arm_exec_Raise]
 refine wpAny_bind (wpAny_standAt ?_)
 show wpAny _ _ (raiseStmt G.env (some (eval (.Call (.Name x p) es [] Lj) G.env >>= λv=>standAt pos >>= λO=>pure v)) none) _ _ _
 refine BE (C:=b9 2) (B:=31) (mN:=mN) (mR:=mR) G.iw.hn (wpAny_bind (wpAny_mono ?_ (λv iD mP=>wpAny_bind (wpAny_standAt (wpAny_pure mP))) λO O x=>x))
 refine Call_ (jc I hk hx hd (callWith_of (P:=λh=>r7.lU h (b9 2) 31 mN mR) ((Bool.or_false _).trans (bC hu)) Dz (cA (bC hu) (L.go I F λps ag bg vs fX aN V aW=>⟨T2.1.keeps aN.kc,?_⟩))))
 have SV:vs.length=2:=(aH.length V).trans (Nat.eq_of_beq_eq_true aW.om.1)
 have aW:=aW.om.2
 match vs,SV with
 |[v1,v2],_=>
 have DB:bg.s.heap.get? (bg.s.heap.objs.size+1)=none:=Heap.get?_none_of_le (Nat.le_succ _)
 have k₂:Sub bg.s.heap ((bg.s.heap.push {cls:=.type "tuple",data:=.seq [v1,v2].toArray}).push {cls:=.ref (b9 2),data:=.fields #[.ref bg.s.heap.objs.size,.none,.none,.none,.bool false,.none]}):=
  λa o e=>Heap.get?_push_of_some _ (Heap.get?_push_of_some _ e)
 refine r7.call2 (T2.1.keeps aN.kc) T2.2.1 T2.2.2.1 (λh' self k=>X.bf h' self λa o e=>k _ _ (aN.kc a o e)) ?_ (by rw[sizeLine_eq];exact Nat.le_of_ble_eq_true rfl)
 refine FU (t:=.ref bg.s.heap.objs.size) X (λa o e=>k₂ _ _ (aN.kc a o e)) (by heap_get) (aN.new DB).1 ?_ λh' tk kk SW=>⟨rfl,SW.elim λoe g=> ?_⟩
 ·exact Nat.lt_of_le_of_lt (Nat.le_of_eq (uq G.A (b9 2) [v1,v2]).1) (Nat.lt_of_le_of_lt (Nat.succ_le_succ (bJ (bJ (Nat.le_add_right _ _) (Nat.le_add_right _ _)) G.iw.dp)) (by decide))
 have Bu:Sub bg.s.heap h':=λa o e=>kk a o (λq=>aQ DB (q▸e)) (k₂ a o e)
 have y:=aN.sub (t:=tk) Bu
 refine⟨_,oe,_,rfl,T2.1.keeps y.1.kc,g.1,g.2.1,g.2.2,?_⟩
 refine aW _ _ ⟨_,oe,_,_,bg.at bg.Y h' tk,g.1,g.2.1,g.2.2,rfl,rfl,y.2,⟨y.1.so,y.1.kc,y.1.sep,y.1.ns,y.1.aa.imp λO l=>⟨l.1,λi x p O hp=>nomatch hp⟩⟩,λo e=>(aQ DB e).elim⟩
end FR
end
section
set_option maxRecDepth 100000
namespace DC
open PySem PySem.W PySem.Calls PyProof.Rows PySem.SeqAt
section
variable{M:Model}{A:Around}{E:Value->Shared->Prop}
theorem ux{f:Nat->PUnit->Sem (ForInStep PUnit)}{n:Nat}{Q:PUnit->Shared->Prop}(I:Nat->Shared->Prop)(step:∀i s,i<n->I i s->wpAny M A (f i ⟨⟩) (λr s'=>r=.yield ⟨⟩/\I (i+1) s') E s)
  (fin:∀s',I n s'->Q ⟨⟩ s'):∀(m i:Nat)(s:Shared),i+m=n->I i s->wpAny M A (forIn (List.range' i m) PUnit.unit f) Q E s
 |0,i,s,e,h=>by
  rw[List.range'_zero,List.forIn_nil]
  obtain rfl:i=n:=e
  exact wpAny_pure (fin s h)
 |m+1,i,s,e,h=>by
  rw[List.range'_succ,List.forIn_cons]
  refine wpAny_bind (wpAny_mono (step i s (e▸Nat.lt_add_of_pos_right (Nat.succ_pos m)) h) (λr s' x=> ?_) λO O x=>x)
  obtain ⟨rfl,x⟩:=x
  exact ux I step fin m (i+1) s' ((Nat.succ_add_eq_add_succ i m).trans e) x
end
section
variable{prog:Program}{w:World}{A:Around}{E:Value->Shared->Prop}{s:Shared}{K:Type}[DecidableEq K]{knd:KeyKind prog w K}
theorem DD{d:Addr}{aX:List (K×Value)}{k:K}{key v:Value}{Q:Unit->Shared->Prop}(FW:knd.is k key=true)(hm:s.heap.DictOf knd d aX)(hf:k∉aX.map (·.1))
  (hQ:∀h',h'.DictOf knd d (aX++[(k,v)])->Heap.SameBut d s.heap h'->Q () {s with heap:=h'}) (eZ:aX.length<=sizeLine):
  wpAny (model prog w) A (dictPut d (knd.hash k) key v) Q E s:=by
 obtain ⟨o,es,ep,ho,hc,hd,hk,hp,hn⟩:=hm
 have Ll:es.size<=sizeLine:=Nat.le_trans (Nat.le_of_eq (Array.length_toList.symm.trans hp.length)) eZ
 unfold dictPut
 refine wpAny_bind (wpAny_dictFind_of FW ho hd hk ?_)
 have QZ:(es.findIdx? λe=>knd.is k e.key)=aX.findIdx? λkv=>decide (kv.1=k):=by
  rw[<-hp.findIdx k];obtain ⟨l⟩:=es;simp
 have OC:(es.findIdx? λe=>knd.is k e.key)=none:=by
  rw[QZ,List.findIdx?_eq_none_iff]
  intro x hx
  exact decide_eq_false λe=>hf (List.mem_map.mpr ⟨x,hx,e⟩)
 rw[OC]
 refine wpAny_updateDictKeys (hz:=Ll) ho hd (hQ _ ⟨_,_,ep+1,Heap.get?_update_self _ ho (Obj.isFreed_of_dict (Obj.data_mapDictKeys hd _)),
   hc.mapDictKeys _,Obj.data_mapDictKeys hd _,hk.push FW _,?_,?_⟩ (Heap.SameBut.update ..))
 ·have:=hp.append FW (knd.hash k) v
  obtain ⟨l⟩:=es
  simpa using this
 ·rw[List.map_append,List.nodup_append]
  refine⟨hn,by simp,?_⟩
  intro x hx y hy
  simp at hy
  subst hy
  exact λe=>hf (e▸hx)
theorem FX{α β:Type}{l r:List (α×β)}{p:α×β}{i:Nat}(hn:((l++r).map (·.1)).Nodup)(hx:r[i]? =some p):p.1∉(l++r.take i).map (·.1):=by
 obtain ⟨hi,e⟩:=List.getElem?_eq_some_iff.mp hx
 have e2:l++r=(l++r.take i)++p::r.drop (i+1):=by rw[List.append_assoc,<-e,<-List.drop_eq_getElem_cons hi,List.take_append_drop]
 rw[e2,List.map_append,List.nodup_append] at hn
 exact λm=>hn.2.2 _ m _ List.mem_cons_self rfl
theorem size_of{es:Array DictEntry}{aX:List (K×Value)}(hp:Pairs knd es.toList aX):es.size=aX.length:=Array.length_toList.symm.trans hp.length
theorem Jl{es:Array DictEntry}{more:List (K×Value)}(hp:Pairs knd es.toList more)(hk:KeysOf knd es){i:Nat}(hi:i<es.size):∃p,more[i]? =some p/\knd.is p.1 es[i].key=true/\es[i].val=p.2/\es[i].hash=knd.hash p.1:=by
 have lL:i<more.length:=size_of hp▸hi
 have hx:more[i]? =some more[i]:=List.getElem?_eq_getElem lL
 have q:=hp.get? (e:=es[i]) (by rw[Array.getElem?_toList,Array.getElem?_eq_getElem hi]) hx
 obtain ⟨k',q1,q2⟩:=hk es[i] (Array.getElem_mem hi)
 obtain rfl:=knd.inj _ _ _ q1 q.1
 exact⟨_,hx,q.1,q.2,q2⟩
theorem kept{d a:Addr}{h h':Heap}(dC:d≠a)(hs:Heap.SameBut d h h'){o:Obj}(e:h.get? a=some o):h'.get? a=some o:=(hs.2 a (Ne.symm dC)).trans e
theorem zm{d a:Addr}{aX more:List (K×Value)}{Q:Unit->Shared->Prop}(dC:d≠a)(hs:(a == sysModules)=false)(h0:aX≠[])(hm:s.heap.DictOf knd d aX)(ha:s.heap.DictOf knd a more)(hn:((aX++more).map (·.1)).Nodup)(eZ:aX.length+more.length<=1000)
  (hQ:∀h',h'.DictOf knd d (aX++more)->Heap.SameBut d s.heap h'->Q () {s with heap:=h'}):
  wpAny (model prog w) A (mergeMapping d (.ref a) false) Q E s:=by
 have hT:s.TypeIs (.ref a) "dict":=ha.typeIs
 obtain ⟨oa,es,ep,zG,_,vT,SX,PC,_⟩:=ha
 have hsz2:=size_of PC
 have hd:∃od DE Hr,s.heap.get? d=some od/\od.data=.dict DE Hr/\DE.isEmpty=false:=by
  obtain ⟨od,DE,Hr,zT,_,Hs,_,SY,_⟩:=hm
  refine⟨od,DE,Hr,zT,Hs,?_⟩
  rw[Array.isEmpty_eq_false_iff,<-Array.size_pos_iff,size_of SY]
  exact List.length_pos_iff.mpr h0
 obtain ⟨od,DE,Hr,zT,Hs,Lm⟩:=hd
 have e1:(some (Value.builtin "dict.__iter__") == some (Value.builtin "dict.__iter__"))=true:=by decide
 unfold mergeMapping
 refine wpAny_bind (wpAny_isInstance (T:="dict") (U:="dict") (b:=true) hT (by rw[isSubtype_type];kernel_rfl) ?_)
 rw[if_pos rfl]
 refine wpAny_bind (wpAny_specialOf hT PySem.F.slot_dict_iter.lookup ?_)
 refine wpAny_bind (wpAny_pure ?_)
 rw[e1]
 dsimp only
 simp only [hs,Bool.false_eq_true,if_false]
 refine wpAny_bind (wpAny_dictEntries zT Hs ?_)
 simp only [Lm,Bool.false_eq_true,if_false]
 clear zT Hs Lm hT e1 h0 hs
 refine wpAny_bind (wpAny_dictEntries zG vT ?_)
 refine wpAny_bind (wpAny_dictEpoch zG vT ?_)
 rw[List.range_eq_range']
 refine wpAny_bind (ux (n:=es.size) (λi s'=>∃h',s'={s with heap:=h'}/\h'.DictOf knd d (aX++more.take i)/\Heap.SameBut d s.heap h') (λi s' hi x=> ?_) (λs' x=> ?_) es.size 0 s (Nat.zero_add _) ⟨s.heap,rfl,by rw[List.take_zero,List.append_nil];exact hm,Heap.SameBut.refl _ _⟩)
 ·obtain ⟨h',rfl,uy,Hu⟩:=x
  clear hm
  have Ln:=kept dC Hu zG
  refine wpAny_bind (wpAny_dictEntries Ln vT ?_)
  obtain ⟨p,hx,g1,g2,g3⟩:=Jl PC SX hi
  rw[Array.getElem?_eq_getElem hi]
  dsimp only
  rw[g3,g2]
  have hl:(aX++more.take i).length<=sizeLine:=by
   rw[List.length_append,List.length_take,sizeLine_eq]
   exact Nat.le_trans (Nat.add_le_add_left (Nat.min_le_right _ _) _) (Nat.le_trans eZ (by decide))
  refine wpAny_bind (wpAny_holding (DD (s:={s with heap:=h'}) g1 uy (FX hn hx) (λiq Q0 Lo=> ?_) hl))
  refine wpAny_bind (wpAny_dictEpoch (kept dC Lo Ln) vT ?_)
  simp only [bne_self_eq_false,Bool.false_eq_true,if_false]
  refine wpAny_pure ⟨rfl,iq,rfl,?_,Hu.trans Lo⟩
  rw[List.take_add_one,hx,<-List.append_assoc]
  exact Q0
 ·obtain ⟨h',rfl,uy,Hu⟩:=x
  rw[hsz2,List.take_length] at uy
  exact wpAny_pure (hQ h' uy Hu)
noncomputable def Puts(prog:Program)(w:World)(A:Around)(E:Value->Shared->Prop)(d:Addr)(Q:Shared->Prop):List (Sem Value×Sem Value)->Shared->Prop
 |[],s=>Q s
 |(k,v)::rest,s=>wpAny (model prog w) A k (λkv c8=>wpAny (model prog w) A v (λvv jH=>wpAny (model prog w) A (dictSet d kv vv) (λO iD=>Puts prog w A E d Q rest iD) E jH) E c8) E s
theorem xa{pairs:List (Sem Value×Sem Value)}{Q:Addr->Shared->Prop}(hlen:¬pairs.length<=15)(h:Puts prog w A E s.heap.objs.size (λs'=>Q s.heap.objs.size s') pairs {s with heap:=s.heap.push {cls:=.type "dict",data:=.dict #[]}}):
  wpAny (model prog w) A (subDict pairs) Q E s:=by
 unfold subDict
 refine wpAny_bind (wpAny_alloc ?_)
 refine wpAny_bind (wpAny_holding ?_)
 rw[if_neg hlen]
 refine wpAny_bind (wpAny_rule ?_)
 have go:∀(l:List (Sem Value×Sem Value))(s':Shared),Puts prog w A E s.heap.objs.size (λs'=>Q s.heap.objs.size s') l s'->
   wpAny (model prog w) A (forIn l PUnit.unit λ(x:Sem Value×Sem Value) (O:PUnit)=>(do let kv <-x.1;let vv <-holding [kv] x.2;holding [kv,vv] (dictSet s.heap.objs.size kv vv);pure (ForInStep.yield PUnit.unit):Sem (ForInStep PUnit))) (λO s'=>Q s.heap.objs.size s') E s':=by
  intro l
  induction l with
  |nil=>intro s' h';rw[List.forIn_nil];exact wpAny_pure h'
  |cons x l ih=>
   intro s' h'
   obtain ⟨k,v⟩:=x
   rw[List.forIn_cons]
   refine wpAny_bind (wpAny_bind (wpAny_mono h' (λkv c8 FV=> ?_) λO O e=>e))
   refine wpAny_bind (wpAny_holding (wpAny_mono FV (λvv jH cH=> ?_) λO O e=>e))
   refine wpAny_bind (wpAny_holding (wpAny_mono cH (λO iD mP=> ?_) λO O e=>e))
   exact wpAny_pure (ih iD mP)
 exact wpAny_bind (wpAny_mono (go pairs _ h) (λO s' h'=>wpAny_pure (wpAny_pure h')) λO O e=>e)
theorem gather(main:Option Addr)(f:(Option (Sem Value)×Sem Value)->(Option Addr×List (Sem Value×Sem Value))->Sem (ForInStep (Option Addr×List (Sem Value×Sem Value))))
  (hf:∀(p:Sem Value×Sem Value) (run:List (Sem Value×Sem Value)),run.length+1<17->f (some p.1,p.2) (main,run)=pure (.yield (main,run++[p]))):
  ∀(items run:List (Sem Value×Sem Value))(more:List (Option (Sem Value)×Sem Value)),run.length+items.length<17->forIn (items.map (λp=>(some p.1,p.2))++more) (main,run) f=forIn more (main,run++items) f
 |[],run,more,_=>by simp
 |p::rest,run,more,h=>by
  rw[List.map_cons,List.cons_append,List.forIn_cons,hf p run (by simp at h;omega),pure_bind]
  have:=gather main f hf rest (run++[p]) more (by simp at h⊢;omega)
  simpa using this
theorem xc{l₁ l₂:List (Sem Value×Sem Value)}{p:Sem Value×Sem Value}{Q:Value->Shared->Prop}(h1:l₁.length=16)(h2:l₂.length<17)(h0:l₂≠[])
  (h:wpAny (model prog w) A (subDict (l₁++[p])) (λd c8=>wpAny (model prog w) A (subDict l₂) (λa jH=>wpAny (model prog w) A (mergeMapping d (.ref a) false) (λO iD=>Q (.ref d) iD) (λO O=>False) jH) E c8) E s):
  wpAny (model prog w) A (dictDisplay ((l₁++p::l₂).map λp=>(some p.1,p.2))) Q E s:=by
 unfold dictDisplay
 dsimp only
 have hl:(l₁++p::l₂).map (λp=>((some p.1,p.2):Option (Sem Value)×Sem Value))=l₁.map (λp=>(some p.1,p.2))++((some p.1,p.2)::(l₂.map (λp=>(some p.1,p.2))++[])):=by simp
 rw[hl,gather none _ (λp run h=>by
  have dC:((run++[(p.1,p.2)]).length == 17)=false:=by simp;omega
  simp only [dC,Bool.false_eq_true,if_false]) l₁ [] _ (by simp;omega)]
 rw[List.forIn_cons]
 have xd:(([]++l₁++[(p.1,p.2)]).length == 17)=true:=by simp [h1]
 have e1:([]++l₁++[(p.1,p.2)]).isEmpty=false:=by simp
 simp only [xd,e1,Bool.false_eq_true,if_true,if_false]
 have e0:[]++l₁++[(p.1,p.2)]=l₁++[p]:=by simp
 rw[e0]
 refine wpAny_bind (wpAny_bind (wpAny_bind (wpAny_bind (wpAny_mono h (λd c8 hd=>wpAny_pure (wpAny_pure ?_)) λO O e=>e))))
 dsimp only
 rw[gather (some d) _ (λp run h=>by
  have dC:((run++[(p.1,p.2)]).length == 17)=false:=by simp;omega
  simp only [dC,Bool.false_eq_true,if_false]) l₂ [] [] (by simpa using h2),List.forIn_nil]
 refine wpAny_pure ?_
 have e2:(([]:List (Sem Value×Sem Value))++l₂).isEmpty=false:=by
  cases l₂ with
  |nil=>exact absurd rfl h0
  |cons _ _=>rfl
 simp only [e2,Bool.false_eq_true,if_false]
 rw[List.nil_append]
 refine wpAny_bind (wpAny_bind (wpAny_holding (wpAny_mono hd (λa jH ha=> ?_) λO O e=>e)))
 refine wpAny_bind (wpAny_onRaise (wpAny_holding (wpAny_mono ha (λO iD mP=> ?_) λO O x=>x.elim)))
 exact wpAny_pure (wpAny_pure mP)
end
end DC
end
namespace FR
open PySem PySem.W PySem.Calls PyProof.Rows PySem.SeqAt
section
variable{c:Cx}{β:Type}{E:Value->Shared->Prop}{K:fv c β}{J:aD}{Z:af}{P az P':Pt}{d:Addr}{ks:List Int}{ps:List PV}
theorem Fo.cons{cf:Nat->List PV->af->aF PV}{gl:Nat->PV}{m:ME}{ms:bZ}{k:List PV->af->aF β}(F:Fo E K P (FR.bp (bw cf gl (.cons m ms) J Z) k)):
  Fo E K P (FR.bp (ai cf gl m J Z) λv Z=>FR.bp (bw cf gl ms J Z) λvs Z=>k (v::vs) Z):=by
 have F:Fo E K P (FR.bp (FR.ay (ai cf gl m J Z) λv Z=>FR.ay (bw cf gl ms J Z) λvs Z=>av (v::vs) Z) k):=F
 revert F
 cases ai cf gl m J Z with
 |none=>exact id
 |some r=>
  obtain ⟨r,ag⟩:=r
  cases r with
  |error e=>exact id
  |ok v=>
   show Fo E K P (FR.bp (FR.ay (bw cf gl ms J ag) λvs Z=>av (v::vs) Z) k)->Fo E K P (FR.bp (bw cf gl ms J ag) λvs Z=>k (v::vs) Z)
   cases bw cf gl ms J ag with
   |none=>exact id
   |some r=>
    obtain ⟨r,ag⟩:=r
    cases r with
    |error e=>exact id
    |ok vs=>exact id
theorem Fo.Q1{γ:Type}{q:Bool}{m:aF γ}{k:γ->af->aF β}(F:Fo E K P (FR.bp m λv Z=>aJ q (k v Z))):q=true:=by
 cases q with
 |true=>rfl
 |false=>
  cases m with
  |none=>exact F.elim
  |some r=>
   obtain ⟨r,ag⟩:=r
   cases r with
   |error e=>exact F.elim
   |ok v=>exact F.elim
structure gK(c:Cx)(az P:Pt)(d:Addr)(ks:List Int)(ps:List PV):Prop where
 new:iY c az d
 out:d∉P.Y
 D:∃aX,P.s.heap.DictOf (intKind c.prog c.w) d aX/\aX.map (·.1)=ks/\cy c P ps (aX.map (·.2))
theorem gK.obj(X:gK c az P d ks ps):∃o,P.s.heap.get? d=some o/\o.cls=.type "dict":=X.D.elim λO D=>(DictOf.obj D.1).imp λO y=>⟨y.1,y.2.1.1⟩
theorem gK.to(X:gK c az P d ks ps)(I:Inv c J Z P)(A:To c P P'):gK c az P' d ks ps:=
 X.obj.elim λo y=>
  have q:=A.keep d o y.1 X.out X.new.f λz=>X.new.l (c_ z)
  ⟨X.new,q.1,X.D.imp λaX D=>⟨D.1.at λo' e=>bF y.1 e▸q.2,D.2.1,D.2.2.to I A⟩⟩
theorem gK.write{h':Heap}{t:Nat}(X:gK c az P d ks ps)(I:Inv c J Z P)(A:To c az P)(hs:Heap.SameBut d P.s.heap h'):Inv c J Z (P.at P.Y h' t)/\To c az (P.at P.Y h' t)/\Later P.s.heap P.Y h' P.Y:=
 I.foreign (W:=[d]) A (λa m=>c_ m▸X.new) (λa m=>c_ m▸X.out) (λa m o e s=>X.obj.elim λO y=>s.d (bF y.1 (c_ m▸e)▸y.2)) λa o n e=>(hs.2 a λq=>n (List.mem_singleton.mpr q)).trans e
theorem gK.add(X:gK c az P d ks ps)(I:Inv c J Z P)(A:To c az P):Inv c J (Z++[.dict .int ((ks.map Key.int).zip ps)]) ⟨P.Y++[d],P.s⟩/\To c az ⟨P.Y++[d],P.s⟩:=by
 have app:∀{a},a∉P.Y->a≠d->a∉P.Y++[d]:=λx y z=>(List.mem_append.mp z).elim x λz=>y (c_ z)
 have la:Later P.s.heap P.Y P.s.heap (P.Y++[d]):=.lM (λO O e=>e) _
 have M:MR c.toBs P.s.heap (P.Y++[d]) d (.dict .int ((ks.map Key.int).zip ps)):=by
  obtain ⟨aX,D,e,V⟩:=X.D
  have hl:ps.length=aX.length:=(aH.length V).symm.trans (List.length_map _)
  subst e
  refine⟨aX,D,?_,?_⟩
  ·rw[List.map_fst_zip (by rw[List.length_map,List.length_map,hl];exact Nat.le_refl _),List.map_map];rfl
  ·rw[List.map_snd_zip (by rw[List.length_map,List.length_map,hl];exact Nat.le_refl _)];exact aH.bc la V
 refine⟨⟨I.so.add X.out X.new.h M,I.kc,λa m=>(List.mem_append.mp m).elim (I.sep a) λm=>c_ m▸⟨X.new.f,X.new.l⟩,I.ns,I.aa.imp λm=>And.imp_right λhl i x p hx hp=>(hl i x p hx hp).imp λv=>And.imp_right (VR.bc la)⟩,
  A.pre.elim λν e=>⟨ν++[d],by rw[<-List.append_assoc,<-e]⟩,λa o e x y z=>let q:=A.keep a o e x y z;⟨app q.1 λw=>aQ X.new.n (w▸e),q.2⟩,A.ns,λa x n=>app (A.off a x n) λw=>x.elim (λx=>X.new.f (w▸x)) λx=>X.new.l (w▸c_ x),A.same⟩
theorem gK.start(I:Inv c J Z P)(A:To c az P)(h0:az.s.heap.get? P.s.heap.objs.size=none):let P':=P.at P.Y (P.s.heap.push {cls:=.type "dict",data:=.dict #[]}) P.s.toks
  Inv c J Z P'/\To c az P'/\gK c az P' P.s.heap.objs.size [] []:=by
 have n:=I.new (cz P.s.heap)
 have y:=I.sub (t:=P.s.toks) (fY (h:=P.s.heap) (o:={cls:=.type "dict",data:=.dict #[]}))
 exact⟨y.1,A.trans y.2,⟨h0,n.1,n.2.2.1,n.2.2.2⟩,n.2.1,[],Heap.DictOf.new P.s.heap,rfl,a_⟩
end
theorem zU{e:PySem.Expr}{i:Int}{env:Env}{A:Around}{M:Model}{s:Shared}{Q:Value->Shared->Prop}{E:Value->Shared->Prop}(h:∃q p,e=.Constant (.int i) q p)(hq:∀t,Q (.int i t) {s with toks:=s.toks+1}):wpAny M A (eval e env) Q E s:=
 h.elim λO h=>h.elim λO h=>h▸wpAny_Constant_int (hq _)
structure Pr(G:Gx) where
 k:PySem.Expr
 i:Int
 e:PySem.Expr
 m:ME
 hk:∃q p,k=.Constant (.int i) q p
 S:aT G e m
noncomputable def xe{G:Gx}:List (Pr G)->bZ
 |[]=>.nil
 |p::l=>.cons p.m (xe l)
noncomputable def jO{G:Gx}(pos:Pos)(l:List (Pr G)):List (Sem Value×Sem Value):=l.map λp=>(eval p.k G.env,do let x <-eval p.e G.env;standAt pos;pure x)
theorem DF{G:Gx}(pos:Pos)(l:List (Pr G)):(evalEachOpt (l.map λp=>some p.k) G.env).zip ((evalEach (l.map λp=>p.e) G.env).map λv=>do let x <-v;standAt pos;pure x)=(jO pos l).map λp=>(some p.1,p.2):=by
 induction l with
 |nil=>rfl
 |cons p l ih=>exact congrArg _ ih
section
variable{G:Gx}{β:Type}{E:Value->Shared->Prop}{K:fv G.c β}{J:aD}{az:Pt}{d:Addr}
theorem stored_new{acc:List (Int×Value)}{i:Int}{v:Value}(h:i∉acc.map (·.1)):stored acc i v=acc++[(i,v)]:=by
 unfold stored
 rw[if_neg]
 exact λq=>(List.any_eq_true.mp q).elim λx q=>h (List.mem_map.mpr ⟨x,q.1,bV q.2⟩)
theorem FY{Q:Shared->Prop}{pos:Pos}{l₂:List (Pr G)}(l:List (Pr G)):∀{Z:af}{P:Pt}{k:List PV->af->aF β}{ks:List Int}{ps:List PV},Inv G.c J Z P->To G.c az P->gK G.c az P d ks ps->(ks++l.map (·.i)).Nodup->ks.length+l.length<=100->
  Fo E K az (bp (bw G.cf G.gl (xe (l++l₂)) J Z) λqs Z=>k (ps++qs) Z)->
  (∀ag P' PD,Inv G.c J ag P'->To G.c az P'->gK G.c az P' d (ks++l.map (·.i)) PD->Fo E K az (bp (bw G.cf G.gl (xe l₂) J ag) λqs Z=>k (PD++qs) Z)->Q P'.s)->DC.Puts G.c.prog G.c.w G.A E d Q (jO pos l) P.s:=by
 induction l with
 |nil=>exact λ{Z P k ks ps} I A X O O F hq=>hq Z P ps I A ((List.append_nil ks).symm▸X) F
 |cons p l ih=>
  intro Z P k ks ps I A X nd hl F hq
  refine zU p.hk λt=>wpAny_bind ?_
  refine p.S J Z (P.tok _) _ E (I.sub λO O e=>e).1 ((Fo.cons F).bp λv cX aW bg a fX aN V=> ?_)
  have B:=A.trans (.trans .refl fX)
  have j9:=X.to I (.trans .refl fX)
  refine wpAny_bind (wpAny_standAt (wpAny_pure ?_))
  obtain ⟨aX,D,e,W⟩:=j9.D
  have fr:p.i∉aX.map (·.1):=λm=>(List.nodup_append.mp nd).2.2 _ (e▸m) _ cR rfl
  have eZ:aX.length<=sizeLine:=by rw[sizeLine_eq,<-List.length_map (f:=(·.1)),e];exact bJ (bJ (Nat.le_add_right _ _) hl) (by decide)
  refine wpAny_dictSet_pairs (isInt_self p.i t) D (λcH BF OD=> ?_) eZ
  rw[stored_new fr] at BF
  obtain ⟨bU,cY,qQ⟩:=j9.write (t:=bg.s.toks+1) aN B OD
  have e3:(ks++[p.i])++l.map (·.i)=ks++(p::l).map (·.i):=List.append_assoc ..
  refine ih (P:=bg.at bg.Y cH _) (k:=k) (ks:=ks++[p.i]) (ps:=ps++[v]) bU cY ⟨X.new,j9.out,_,BF,by rw[List.map_append,e];rfl,by rw[List.map_append];exact aH.append (aH.bc qQ W) (aH.cons (VR.bc qQ V) aH.nil)⟩ (e3▸nd) ?_ ?_ (e3▸hq)
  ·rw[List.length_append,Nat.add_assoc,Nat.add_comm [p.i].length];exact hl
  ·simp only [List.append_assoc];exact aW
theorem DG{Q:List (Value×Value)->Shared->Prop}{pos:Pos}(l:List (Pr G)):∀{Z:af}{P:Pt}{k:List PV->af->aF β},Inv G.c J Z P->Fo E K az (bp (bw G.cf G.gl (xe l) J Z) k)->
  (∀ag P' ps vl aX,Inv G.c J ag P'->To G.c P P'->Carries (intKind G.c.prog G.c.w) vl aX->aX.map (·.1)=l.map (·.i)->cy G.c P' ps (aX.map (·.2))->Fo E K az (k ps ag)->Q vl P'.s)->G.c.W G.A (evalPairs (jO pos l)) Q E P.s:=by
 induction l generalizing Q with
 |nil=>exact λ{Z P k} I F hq=>evalPairs_nil (hq Z P [] [] [] I .refl a_ rfl a_ F)
 |cons p l ih=>
  intro Z P k I F hq
  refine evalPairs_cons (zU p.hk λt=>wpAny_bind ?_)
  have fG:=I.sub (t:=P.s.toks+1) λO O e=>e
  refine p.S J Z (P.tok _) _ E fG.1 ((Fo.cons F).bp λv cX aW bg a fX aN V=> ?_)
  refine wpAny_bind (wpAny_standAt (wpAny_pure ?_))
  exact ih aN aW λag P' ps vl aX I' A' C e W F'=>hq ag P' (v::ps) _ ((p.i,a)::aX) I' (fG.2.trans (fX.trans A')) ⟨isInt_self p.i t,rfl,C⟩ (congrArg (p.i:: ·) e) ⟨V.to aN A',W⟩ F'
noncomputable def dL(ks:List Int)(vs:List PV)(Z:af):aF PV:=aJ (iV ks) (aJ (decide (vs.length=ks.length)) (some (.ok (.ref Z.length),Z++[.dict .int ((ks.map Key.int).zip vs)])))
theorem DH(l:List (Pr G)){pos:Pos}:aT G (.Dict (l.map λp=>some p.k) (l.map λp=>p.e) pos) (.kN (l.map (·.i)) (xe l)):=by
 intro J Z P Q E I F
 have F:Fo E (bT G.c J (Vl G.c) Q) P (bp (bw G.cf G.gl (xe l) J Z) (dL (l.map (·.i)))):=F
 have hk:=aB F.Q1
 have h1:=bV (aB hk.1).1
 have h2:=bV (aB hk.1).2
 have nd:=bV hk.2
 rw[List.length_map] at h1 h2
 obtain ⟨l₁,p,l₂,e,r8⟩:∃l₁ p l₂,l=l₁++p::l₂/\l₁.length=16:=
  ⟨l.take 16,l[16]'(Nat.lt_trans (by decide) h1),l.drop 17,by rw[<-List.drop_eq_getElem_cons,List.take_append_drop],by rw[List.length_take];exact Nat.min_eq_left (Nat.le_of_lt (Nat.lt_trans (by decide) h1))⟩
 have h3:l.length=16+(l₂.length+1):=by rw[e,List.length_append,r8];rfl
 rw[arm_eval_Dict,DF]
 refine wpAny_bind (wpAny_standAt ?_)
 have ne2:jO pos l₂≠[]:=by
  cases l₂ with
  |nil=>rw[h3] at h1;exact absurd h1 (Nat.lt_irrefl 17)
  |cons _ _=>exact List.cons_ne_nil _ _
 have l2:l₂.length<=15:=by omega
 have PE:(jO pos l₂).length<=15:=by rw[jO,List.length_map];exact l2
 have e4:(l₁++[p])++l₂=l:=by rw[e,List.append_assoc];rfl
 have S1:(jO pos l₁).length=16:=by rw[jO,List.length_map];exact r8
 have e5:jO pos l=jO pos l₁++(eval p.k G.env,do let x <-eval p.e G.env;standAt pos;pure x)::jO pos l₂:=by rw[e];exact List.map_append
 have e6:jO pos l₁++[(eval p.k G.env,do let x <-eval p.e G.env;standAt pos;pure x)]=jO pos (l₁++[p]):=by rw[jO,jO,List.map_append];rfl
 have e7:(l₁++[p]).map (·.i)++l₂.map (·.i)=l.map (·.i):=by rw[<-List.map_append,e4]
 rw[e5]
 refine DC.xc S1 (Nat.lt_of_le_of_lt PE (by decide)) ne2 ?_
 rw[e6]
 refine DC.xa (by rw[jO,List.length_map,List.length_append,r8];exact Nat.not_succ_le_self 15∘Nat.le_of_succ_le) ?_
 have y:=gK.start I .refl (cz P.s.heap)
 have S2:(([]:List Int)++(l₁++[p]).map (·.i)).Nodup:=(List.nodup_append.mp (e7▸nd)).1
 refine FY (az:=P) (l₂:=l₂) (l₁++[p]) (k:=dL (l.map (·.i))) (ps:=[]) (P:=P.at P.Y _ P.s.toks) y.1 y.2.1 y.2.2 S2 (by rw[List.length_append,r8];exact Nat.le_of_ble_eq_true rfl) (by rw[e4];exact F) λcX bg OE aN fX j9 aW=> ?_
 obtain ⟨od,zT,VM⟩:=j9.obj
 have dC:P.s.heap.objs.size≠bg.s.heap.objs.size:=λe=>aQ (cz bg.s.heap) (e▸zT)
 have BG:=gK.start aN .refl (cz bg.s.heap)
 refine wpAny_subDict (knd:=intKind G.c.prog G.c.w) PE ?_
 refine DG (az:=P) l₂ (P:=bg.at bg.Y _ bg.s.toks) BG.1 aW λdF cv OF vl r9 bU cY C qP Fh bY=> ?_
 have Lp:=BG.2.2.to BG.1 cY
 have Jm:=BG.2.1.trans cY
 have BF:cv.s.heap.DictOf (intKind G.c.prog G.c.w) bg.s.heap.objs.size []:=Lp.D.elim λaX D=>by
  cases aX with
  |nil=>exact D.1
  |cons _ _=>exact nomatch D.2.1
 refine⟨r9,C,BF,λmP Lq OG=> ?_⟩
 rw[merged_nil_of_nodup _ (qP▸(List.nodup_append.mp (e7▸nd)).2.1)] at Lq
 obtain ⟨eG,dy,Bq⟩:=Lp.write (t:=cv.s.toks+vl.length) bU Jm OG
 have BH:=j9.to aN dy
 obtain ⟨og,Q2,qO,Fg⟩:=BH.D
 have e8:(og++r9).map (·.1)=l.map (·.i):=by rw[List.map_append,qO,qP];exact e7
 have S3:(bg.s.heap.objs.size == sysModules)=false:=beq_eq_false_iff_ne.mpr λq=>G.c.sys.elim λO e=>aQ (cz bg.s.heap) (aN.kc _ _ (q▸e))
 have hlen:og.length+r9.length<=1000:=by
  have:(og++r9).length=l.length:=by rw[<-List.length_map (f:=(·.1)),e8,List.length_map]
  rw[<-List.length_append,this]
  exact Nat.le_of_lt (Nat.lt_trans h2 (by decide))
 have n1:og.length=17:=by rw[<-List.length_map (f:=(·.1)),qO,List.nil_append,List.length_map,List.length_append,r8];rfl
 have ne1:og≠[]:=λq=>by rw[q] at n1;exact nomatch n1
 refine DC.zm (knd:=intKind G.c.prog G.c.w) (s:=(cv.at cv.Y mP (cv.s.toks+vl.length)).s) dC S3 ne1 Q2 Lq (e8▸nd) hlen λi3 Q3 OH=> ?_
 obtain ⟨tG,FN,Lr⟩:=BH.write (t:=cv.s.toks+vl.length) eG (fX.trans dy) OH
 have Q4:gK G.c P (cv.at cv.Y i3 (cv.s.toks+vl.length)) P.s.heap.objs.size (l.map (·.i)) (OE++OF):=⟨BH.new,BH.out,_,Q3,e8,by rw[List.map_append];exact aH.append (aH.bc Lr Fg) (aH.bc Lr (aH.bc Bq Fh))⟩
 exact bY.om.2.om.2.ok (Q4.add tG FN) (VR.mD (by rw[<-tG.so.ml];exact List.getElem?_concat_length))
end
end FR
section
set_option maxRecDepth 100000
namespace PF
open PySem PySem.W PySem.Calls PyProof.Rows PySem.SeqAt
open PySem.AutoSeq1 (wpAny_loadPart')
theorem tJ:typeLookup (.type "bytes") "__len__"=pure (some (.builtin "bytes.__len__")):=by rw[typeLookup_type,builtinLookup_eq_fast];kernel_rfl
noncomputable def xf(b:Array UInt8)(i:Nat)(v:Value):Prop:=∃c u,b[i]? =some c/\v=.int (c.toNat:Int) u
section
variable{prog:Program}{w:World}{A:Around}{E:Value->Shared->Prop}{s:Shared}
theorem nK{Q:List Value->Shared->Prop}(hh:A.handled=none)(x:Array UInt8)(t:Tok)
  (hQ:∀s' acc,(∀b o,s.heap.get? b=some o->s'.heap.get? b=some o)->s'.gens=s.gens->s'.drawn=s.drawn->s'.os=s.os->ItemsOf (xf x) acc x.size->Q acc.toList s') (hn:x.size<=sizeLine:=by size_fits):
  wpAny (model prog w) A (collect (.bytes x t)) Q E s:=by
 unfold collect
 refine wpAny_bind (wpAny_runValue (codeAny_builtin F.entry_proto_collect ?_))
 rw[Around.under_plainId F.plain_proto_collect _]
 show wpAny _ A.in1 (newList [] >>= λl=>again (.builtin "list.__iadd__" ⟨[l,.bytes x t],[]⟩)) _ _ s
 refine wpAny_bind (wpAny_newObj_type ?_)
 refine wpAny_pure ⟨plainId_quiet F.plain_list_iadd _,codeAny_builtin F.entry_list_iadd ?_⟩
 rw[Around.under_plainId F.plain_list_iadd _]
 show wpAny _ A.in1 (Builtin.List.listExtendWith (.ref s.heap.objs.size) (.bytes x t) (.ref s.heap.objs.size)) _ _ _
 unfold Builtin.List.listExtendWith
 refine wpAny_bind (wpAny_typeOf (T:="bytes") (v:=.bytes x t) rfl ?_)
 have h1:Builtin.List.listSameRef (.ref s.heap.objs.size) (.bytes x t)=false:=rfl
 have h2:(Value.type "bytes" == Value.type "list")=false:=by decide
 have h3:(Value.type "bytes" == Value.type "tuple")=false:=by decide
 simp only [h1,h2,h3,Bool.or_false,Bool.false_eq_true,if_false]
 refine wpAny_bind (KBw.pyIter_bytes ?_)
 generalize vS:({cls:=.type "bytes_iterator",data:=.fields #[.bytes x t,.int 0 0]}:Obj)=o
 refine wpAny_bind (wpAny_holding ?_)
 unfold Builtin.List.listLengthHint
 refine wpAny_bind (wpAny_specialOf (T:="bytes") (v:=.bytes x t) rfl tJ ?_)
 wp_delta
 refine wpAny_bind (wpAny_isInstance (T:="bytes") (v:=.bytes x t) (b:=true) rfl (by rw[isSubtype_type];kernel_rfl) ?_)
 show wpAny _ A.in1 (typeOf (Value.bytes x t) >>= _) _ _ _
 refine wpAny_bind (wpAny_typeOf (T:="bytes") (v:=.bytes x t) rfl ?_)
 refine wpAny_pure ?_
 rw[if_neg (by decide)]
 generalize hH:s.heap.push {cls:=.type "list",data:=.seq ([]:List Value).toArray}=H at⊢
 have Lu:H.objs.size=s.heap.objs.size+1:=by rw[<-hH,Heap.size_push]
 have S4:s.heap.objs.size∉[H.objs.size]:=λhm=>by rw[List.mem_singleton.mp hm] at Lu;exact absurd Lu (Nat.ne_of_lt (Nat.lt_succ_self _))
 have hS:(H.push o).get? s.heap.objs.size=some {cls:=.type "list",data:=.seq ([]:List Value).toArray}:=Heap.get?_push_of_some _ (hH▸Heap.get?_push_size _ rfl)
 refine wpAny_pure ⟨plainId_quiet F.plain_extend_loop _,codeAny_extend_loopS ((KBw.walks (A:=A.in1) (show A.in1.handled=none from hh) H.objs.size x t).toS) hn _ S4 _ x.size 0 _ _ _ rfl (Nat.zero_le _) ⟨o,Heap.get?_push_size _ (by subst vS;rfl),by subst vS;exact rfl,by subst vS;rfl⟩ hS (ItemsOf.nil _) λs' Q5 c' hm S5 mS=> ?_⟩
 show wpAny _ A (load s.heap.objs.size >>= _) _ _ s'
 refine wpAny_bind (wpAny_load S5 ?_)
 refine wpAny_pure (hQ s' Q5 (λb ob e=>hm.heap b ob (λhb=> ?_) (Heap.get?_push_of_some _ (hH▸Heap.get?_push_of_some _ e))) hm.gens hm.drawn hm.os mS)
 have dv:=Heap.lt_size e
 rcases List.mem_cons.mp hb with h | h
 ·exact absurd dv (h▸Nat.lt_irrefl _)
 ·rw[List.mem_singleton.mp h,Lu] at dv;exact absurd dv (Nat.not_lt.mpr (Nat.le_succ _))
end
theorem lV(x:Array UInt8)(t:Tok)(eZ:x.size<=sizeLine:=by size_fits):
  Meets (Builtin.«tuple.__new__» ⟨[.type "tuple",.bytes x t],[]⟩)
   (λA R s=>A.handled=none/\∀(s':Shared) (acc:Array Value),(∀b o,s.heap.get? b=some o->s'.heap.get? b=some o)->s'.gens=s.gens->s'.drawn=s.drawn->s'.os=s.os->ItemsOf (xf x) acc x.size->
    R (.ok (.ret (.ref s'.heap.objs.size))) {s' with heap:=s'.heap.push {cls:=.type "tuple",data:=.seq acc}}):=
 .of_wp λprog w A R s h=>by
  obtain ⟨hh,h⟩:=h
  have QN:=sub_tuple_self
  have Vu:=init_tuple_lookup
  have VN:=madeHere_tuple
  have hT:s.TypeIs (.bytes x t) "bytes":=rfl
  have S6:A.in1.handled=none:=hh
  wp_walk using wpAny_typeOf hT,nK (hn:=eZ) S6 x t
  intro s' acc hk hg hd wC mS
  show wpAny _ _ (Builtin.Tuple.tupleExact acc.toList.toArray >>= λv=>ret v) _ _ _
  unfold Builtin.Tuple.tupleExact
  refine wpAny_bind (wpAny_newObj_type ?_ (show acc.toList.toArray.size<=sizeLine by simp only [Array.toArray_toList];rw[mS.1];exact eZ))
  refine wpAny_pure ⟨_,rfl,?_⟩
  have e:acc.toList.toArray=acc:=by simp
  rw[e]
  exact h s' acc hk hg hd wC mS
section
variable{prog:Program}{w:World}{A:Around}{E:Value->Shared->Prop}{s:Shared}
theorem qR{Q:Value->Shared->Prop}(hh:A.handled=none)(x:Array UInt8)(t:Tok)
  (h:∀(h':Heap) (tk:Nat) (acc:Array Value),(∀b o,s.heap.get? b=some o->h'.get? b=some o)->ItemsOf (xf x) acc x.size->Q (.ref h'.objs.size) {s with heap:=h'.push {cls:=.type "tuple",data:=.seq acc},toks:=tk})
  (eZ:x.size<=sizeLine:=by size_fits):
  wpAny (model prog w) A (call (.type "tuple") [.bytes x t]) Q E s:=by
 refine callType_new F.called_tuple (by decide) (F.typeCall_tuple_1 _) (F.newCall_tuple_1 _) (λobj=>F.args_object_init_2 obj _) F.entry_tuple_new
  (lV x t eZ) ⟨hh,λs' acc hk hg hd wC mS=>⟨⟨_,Heap.get?_push_size _ rfl,rfl⟩,?_⟩⟩
 obtain ⟨h',g',d',w8,S7⟩:=s'
 have e1:g'=s.gens:=hg
 have e2:d'=s.drawn:=hd
 have e3:S7=s.os:=wC
 subst e1 e2 e3
 exact h h' w8 acc hk mS
end
end PF
end
namespace FR
theorem DI(x:Int)(ms:List Int):ms.Pairwise (· <= ·)->∃rs:List Int,tc (.int x) (ms.map .int)=some (rs.map .int)/\rs.Perm (x::ms)/\rs.Pairwise (· <= ·):=by
 induction ms with
 |nil=>exact λO=>⟨[x],rfl,List.Perm.refl _,List.pairwise_singleton ..⟩
 |cons y r ih=>
  intro h
  have h:=List.pairwise_cons.mp h
  show ∃rs:List Int,(bif decide (x<y) then some (PV.int x::PV.int y::r.map .int) else (tc (.int x) (r.map .int)).bind λl=>some (PV.int y::l))=some (rs.map .int)/\_
  cases q:decide (x<y) with
  |true=>
   have hc:=Int.le_of_lt (bV q)
   exact⟨x::y::r,rfl,List.Perm.refl _,List.pairwise_cons.mpr ⟨λa ha=>(List.mem_cons.mp ha).elim (λe=>e▸hc) λha=>Int.le_trans hc (h.1 a ha),List.pairwise_cons.mpr h⟩⟩
  |false=>
   have hc:=Int.not_lt.mp (of_decide_eq_false q)
   obtain ⟨rs,e,p,q⟩:=ih h.2
   rw[e]
   exact⟨y::rs,rfl,(p.cons y).trans (List.Perm.swap x y r),List.pairwise_cons.mpr ⟨λa ha=>(List.mem_cons.mp (p.mem_iff.mp ha)).elim (λe=>e▸hc) (h.1 a),q⟩⟩
theorem BI(ns:List Int):∃rs:List Int,gV (ns.map .int)=some (rs.map .int)/\rs.Perm ns/\rs.Pairwise (· <= ·):=by
 induction ns with
 |nil=>exact⟨[],rfl,List.Perm.refl _,List.Pairwise.nil⟩
 |cons x r ih=>
  obtain ⟨ms,e,p,q⟩:=ih
  obtain ⟨rs,e',p',q'⟩:=DI x ms q
  exact⟨rs,(congrArg (λo=>Option.bind o (tc (.int x))) e).trans e',p'.trans (p.cons x),q'⟩
theorem FZ{ns rs:List Int}(p:rs.Perm ns)(q:rs.Pairwise (· <= ·)):gV (ns.map .int)=some (rs.map .int):=by
 obtain ⟨ms,e,p',q'⟩:=BI ns
 rw[e,List.Perm.eq_of_pairwise (λO O O O=>Int.le_antisymm) q' q (p'.trans p.symm)]
end FR
namespace Lw
open PySem PySem.W PySem.Calls PyProof.Rows PySem.SeqAt
variable{prog:Program}{w:World}{A:Around}{E:Value->Shared->Prop}{s:Shared}
theorem BJ{h:Heap}{vs:List Value}{out:Array Value}:∃n,(sortedHeap (h.push (seqObj "list" vs.toArray 0)) h.objs.size vs out).get? h.objs.size=some (seqObj "list" out n):=by
 have e0:(h.push (seqObj "list" vs.toArray 0)).get? h.objs.size=some (seqObj "list" vs.toArray 0):=Heap.get?_push_size _ rfl
 have e1:=get?_update_seq e0 (λO=> #[])
 have e2:=get?_update_seq (Heap.get?_push_of_some (seqObj "list" #[] 0) (Heap.get?_push_of_some (seqObj "tuple" vs.toArray 0) e1)) (λO=>out)
 exact⟨_,e2⟩
theorem zo{h:Heap}{vs:List Value}{out:Array Value}{a:Addr}{o:Obj}(e:h.get? a=some o):(sortedHeap (h.push (seqObj "list" vs.toArray 0)) h.objs.size vs out).get? a=some o:=by
 have dC:h.objs.size≠a:=λq=>absurd (Heap.lt_size e) (q▸Nat.lt_irrefl _)
 unfold sortedHeap
 rw[PySem.Heap.get?_update_other _ _ dC]
 refine Heap.get?_push_of_some _ (Heap.get?_push_of_some _ ?_)
 rw[PySem.Heap.get?_update_other _ _ dC]
 exact Heap.get?_push_of_some _ e
end Lw
namespace DJ
open PySem PySem.W PySem.Calls PyProof.Rows PySem.SeqAt
variable{prog:Program}{w:World}{A:Around}{E:Value->Shared->Prop}{s:Shared}
theorem Jn{lt:Nat->Nat->Option Bool}{ask:Nat->Nat->(Bool->Shared->Prop)->Shared->Prop}(Q6:∀i j b C,lt i j=some b->C b s->ask i j C s){α:Type}{G:α->Shared->Prop}:
  ∀(t:KasT α)(a:α),FR.AK lt t=some a->G a s->t.kasWp ask G s:=by
 intro t
 induction t with
 |ret a=>exact λa' h g=>by cases h;exact g
 |ask i j k ih=>exact λa' h g=>FR.bm h λb hb h=>Q6 i j b _ hb (ih b a' h g)
theorem vk{a:Addr}{vs out:List Value}{n:Nat}{P:PySem.Fin->Shared->Prop}(ho:s.heap.get? a=some (seqObj "list" vs.toArray n))(k6:vs.length<64)
  (h1:vs.length<2->out=vs)
  (hk:∀(h':Heap),2<=vs.length->(∀b o,b≠a->s.heap.get? b=some o->h'.get? b=some o)->wpAny (model prog w) A (keyKind' vs.toArray) (λκ s'=>s'={s with heap:=h'}/\(kas_sort vs.length).kasWp (kas_ask prog w A κ vs) (λp rV=>rV={s with heap:=h'}/\p.toList.map (λi=>vs.getD i Value.none)=out) s') (λO O=>False) {s with heap:=h'})
  (h:P (.done (.ret .none)) {s with heap:=sortedHeap s.heap a vs out.toArray}):
  wpAny (model prog w) A (Builtin.«list.sort» ⟨[.ref a],[]⟩) P E s:=by
 have ha:a<s.heap.objs.size:=Heap.lt_size ho
 have eZ:vs.toArray.size<=sizeLine:=by rw[List.size_toArray,sizeLine_eq];exact Nat.le_of_lt (Nat.lt_trans k6 (by decide))
 obtain ⟨e1,PG⟩:∃e1,(s.heap.update a (Obj.mapSeq λO=>(#[]:Array Value))).get? a=some (seqObj "list" #[] e1):=⟨_,get?_update_seq ho λO=> #[]⟩
 rw[list_sort_plain]
 refine wpAny_bind (listItems_at ho rfl ?_)
 refine wpAny_bind (listUpdate_at ho rfl ?_ eZ (Nat.zero_le _))
 refine wpAny_bind (seqEpoch_at PG rfl ?_)
 refine wpAny_bind (wpAny_newTuple ?_ eZ)
 refine wpAny_bind (wpAny_newList ?_ (Nat.zero_le _))
 refine wpAny_holding ?_
 have Hv:(((s.heap.update a (Obj.mapSeq λO=> #[])).push (seqObj "tuple" vs.toArray 0)).push (seqObj "list" #[] 0)).get? a=some (seqObj "list" #[] e1):=by
  rw[Heap.get?_push_ne _ _ _ (by rw[size_push',Heap.size_update];exact Nat.ne_of_lt (Nat.lt_succ_of_lt ha)),Heap.get?_push_ne _ _ _ (by rw[Heap.size_update];exact Nat.ne_of_lt ha)]
  exact PG
 show wpAny (model prog w) A _ P E {s with heap:=((s.heap.update a (Obj.mapSeq λO=>(#[]:Array Value))).push (seqObj "tuple" vs.toArray 0)).push (seqObj "list" #[] 0)}
 dsimp only
 by_cases h2:vs.toArray.size<2
 ·rw[if_pos h2,if_pos h2]
  refine wpAny_bind (wpAny_pure ?_)
  rw[StateT.run_pure]
  refine wpAny_bind (wpAny_pure ?_)
  dsimp only
  have e:(arrOf (SortSt.mk' general' (vs.toArray.zip vs.toArray) #[] 7 none)).map (·.2)=vs.toArray:=by
   show (vs.toArray.zip vs.toArray).map (·.2)=vs.toArray
   exact Array.map_snd_zip (Nat.le_refl _)
  rw[e]
  refine wpAny_bind (seqEpoch_at Hv rfl ?_)
  refine wpAny_bind (listUpdate_at Hv rfl ?_ (hsz2:=Nat.le_succ_of_le eZ))
  simp only [bne_self_eq_false,Bool.false_eq_true,if_false]
  refine wpAny_pure ?_
  rw[h1 h2] at h
  exact h
 ·rw[if_neg h2,if_neg h2]
  have cj:2<=vs.length:=Nat.le_of_not_lt h2
  refine wpAny_bind (wpAny_mono (hk _ cj λb o hb q=> ?_) (λκ s0 hk=> ?_) λO O x=>x.elim)
  ·exact Heap.get?_push_of_some _ (Heap.get?_push_of_some _ (by rw[Heap.get?_update_ne _ _ _ _ hb];exact q))
  ·obtain ⟨rfl,hk⟩:=hk
   refine wpAny_bind (wpAny_mono (kat_run (Q:=λfw s'=>∃p:Array Nat,p.size=vs.length/\arrOf fw=p.map (kas_item (vs.toArray.zip vs.toArray))/\failedOf fw=none/\s'=_/\p.toList.map (λi=>vs.getD i Value.none)=out)
    rfl cj k6 (λp' fw s' a1 a2 a3 a4=>⟨p',a1,a2,a3,a4⟩) hk) ?_ λO O e=>e)
   rintro ⟨⟨⟩,fw⟩ s' ⟨p,hp,S9,hf,rfl,oh⟩
   dsimp only
   have vS:=kat_snds rfl S9
   rw[vS,oh]
   have Dh:out.length=vs.length:=by rw[<-oh,List.length_map,Array.length_toList,hp]
   refine wpAny_bind (seqEpoch_at Hv rfl ?_)
   refine wpAny_bind (listUpdate_at Hv rfl ?_ (Nat.zero_le _) (by rw[List.size_toArray,Dh,<-List.size_toArray];exact Nat.le_succ_of_le eZ))
   rw[hf]
   simp only [bne_self_eq_false,Bool.false_eq_true,if_false]
   exact wpAny_pure h
theorem uz{va:Value}{Q:Value->Shared->Prop}{R:List Value->Prop}
  (xg:∀{A':Around} {E':Value->Shared->Prop} {Q':List Value->Shared->Prop},A'.handled=A.handled->(∀(h':Heap) (t':Nat) (vs:List Value),(∀a o,s.heap.get? a=some o->h'.get? a=some o)->R vs->Q' vs {s with heap:=h',toks:=t'})->wpAny (model prog w) A' (collect va) Q' E' s)
  (hR:∀vs,R vs->vs.length<64)
  (h:∀(h':Heap) (t':Nat) (vs:List Value),(∀a o,s.heap.get? a=some o->h'.get? a=some o)->R vs->
   wpAny (model prog w) A.in1.in1 (Builtin.«list.sort» ⟨[.ref h'.objs.size],[]⟩) (λf s'=>f=.done (.ret .none)/\Q (.ref h'.objs.size) s') E {s with heap:=h'.push (seqObj "list" vs.toArray 0),toks:=t'}):
  wpAny (model prog w) A (call (.builtin "sorted") [va]) Q E s:=by
 refine Calls.call_function_entry kind_sorted plain_sorted entry_sorted (args_sorted1 _) ?_
 unfold Builtin.«sorted»
 refine wpAny_bind (m:=checkCount "sorted" 1 1 _) (wpAny_pure ?_)
 refine wpAny_bind (xg rfl λh' t' vs k r=> ?_)
 refine wpAny_bind (wpAny_newList ?_ (by rw[sizeLine_eq];exact Nat.le_of_lt (Nat.lt_trans (hR vs r) (by decide))))
 have Ta:(h'.push (seqObj "list" vs.toArray 0)).get? h'.objs.size=some (seqObj "list" vs.toArray 0):=Heap.get?_push_size _ rfl
 show wpAny _ _ _ _ _ {s with heap:=h'.push (seqObj "list" vs.toArray 0),toks:=t'}
 refine wpAny_bind (wpAny_holding (wpAny_call_entry slot_list_sort ⟨_,Ta,rfl⟩ entry_list_sort (wpAny_mono (h h' t' vs k r) (λf s' x=> ?_) λO O e=>e) (args_list_sort _)))
 obtain ⟨rfl,x⟩:=x
 exact⟨_,rfl,wpAny_pure ⟨_,rfl,x⟩⟩
end DJ
namespace FR
open PySem PySem.W PySem.Calls PyProof.Rows PySem.SeqAt
theorem F6(a:List Nat):∀b:List Nat,vq a b=decide (a<b):=by
 induction a with
 |nil=>exact λb=>by cases b with
  |nil=>exact(decide_eq_false (List.lt_irrefl _)).symm
  |cons b bs=>exact(decide_eq_true (List.nil_lt_cons ..)).symm
 |cons a as ih=>exact λb=>by cases b with
  |nil=>exact(decide_eq_false (List.not_lt_nil _)).symm
  |cons b bs=>
   show (if a=b then vq as bs else decide (a<b))=_
   by_cases h:a=b
   ·rw[if_pos h,ih bs]
    exact decide_eq_decide.mpr ⟨λx=>List.cons_lt_cons_iff.mpr (.inr ⟨h,x⟩),λx=>(List.cons_lt_cons_iff.mp x).elim (λx=>absurd (h▸x) (Nat.lt_irrefl _)) And.right⟩
   ·rw[if_neg h]
    exact decide_eq_decide.mpr ⟨λx=>List.cons_lt_cons_iff.mpr (.inl x),λx=>(List.cons_lt_cons_iff.mp x).elim id λx=>absurd x.1 h⟩
section
variable{b:Bs}{prog:Program}{w:World}{A:Around}{E:Value->Shared->Prop}{s:Shared}{Y:List Addr}{Q:Bool->Shared->Prop}
theorem DK{p q:PV}{v u:Value}{r fl:Bool}(V:VR b s.heap Y p v)(W:VR b s.heap Y q u)(h:Pc p q=some r)(hq:Q r s):wpAny (model prog w) A (oneLt' fl v u) Q E s:=by
 cases p with
 |int i=>
  refine bm h λj e h=> ?_
  cases fV e;cases h
  refine VR.jF (M:=λv=>wpAny (model prog w) A (oneLt' fl v u) Q E s) V λt=>VR.jF (M:=λu=>wpAny (model prog w) A (oneLt' fl (.int i t) u) Q E s) W λt'=> ?_
  cases fl with
  |true=>exact oneLt_int hq
  |false=>exact kat_one _ _ (lt_int (show PySem.W.BoolBack Q _ s from hq))
 |str i=>
  refine bm h λj e h=> ?_
  cases nX e;cases h
  rw[F6] at hq
  refine VR.th (M:=λv=>wpAny (model prog w) A (oneLt' fl v u) Q E s) V λt=>VR.th (M:=λu=>wpAny (model prog w) A (oneLt' fl (.str ⟨i.toArray⟩ t) u) Q E s) W λt'=> ?_
  cases fl with
  |true=>exact oneLt_str hq
  |false=>exact kat_one _ _ (lt_str hq)
 |_=>exact(aQ rfl h).elim
theorem DL(hu:A.units<=4000)(l:List PV):∀{k:List PV}{xs ys:List Value}{r fin:Bool}{i:Nat},aH b s.heap Y l xs->aH b s.heap Y k ys->Kn l k=some r->fin=decide (l.length<k.length)->Q r s->KatLex prog w A true fin Q (xs.zip ys) i s:=by
 induction l with
 |nil=>
  intro k xs ys r fin i V W h hf hq
  refine aH.elim0 (M:=λxs=>KatLex prog w A true fin Q (xs.zip ys) i s) V ?_
  subst hf
  cases k with
  |nil=>cases h;exact hq
  |cons _ _=>cases h;exact hq
 |cons p l ih=>
  intro k xs ys r fin i V W h hf hq
  refine aH.cZ (M:=λxs=>KatLex prog w A true fin Q (xs.zip ys) i s) V λv vs V1 V2=> ?_
  cases k with
  |nil=>cases h;subst hf;exact aH.elim0 (M:=λys=>KatLex prog w A true _ Q ((v::vs).zip ys) i s) W hq
  |cons q k=>
   refine aH.cZ (M:=λys=>KatLex prog w A true fin Q ((v::vs).zip ys) i s) W λu us W1 W2=>bm h λx e h=> ?_
   refine kat_cons ((D.at 6 A v u x (bJ (Nat.add_le_add_right hu 6) (by decide)) (pe 6 p q v u x V1 W1 e)).1 prog w _ _ ?_)
   cases x with
   |true=>exact kat_yes (ih V2 W2 h (hf.trans (decide_eq_decide.mpr Nat.succ_lt_succ_iff)) hq)
   |false=>exact kat_no (DK V1 W1 h hq)
theorem qS{l:List PV}:∀{vs:List Value}{i:Nat},aH b s.heap Y l vs->VR b s.heap Y (l.getD i .none) (vs.getD i Value.none):=by
 induction l with
 |nil=>exact λ{vs i} V=>aH.elim0 (M:=λvs=>VR b s.heap Y (([]:List PV).getD i .none) (vs.getD i Value.none)) V (by rw[List.getD_nil,List.getD_nil];exact VR.vA)
 |cons p l ih=>
  intro vs i V
  refine aH.cZ (M:=λvs=>VR b s.heap Y ((p::l).getD i .none) (vs.getD i Value.none)) V λv vs V1 V2=> ?_
  cases i with
  |zero=>exact V1
  |succ i=>exact ih V2
theorem DM{l:List PV}:∀{i:Nat},l.all nM=true->l.getD i .none=.none\/nM (l.getD i .none)=true:=by
 induction l with
 |nil=>exact λO=>.inl List.getD_nil
 |cons p l ih=>
  intro i h
  cases i with
  |zero=>exact .inr (aB h).1
  |succ i=>exact ih (aB h).2
theorem DN(hu:A.units<=4000){l:List PV}{vs:List Value}(V:aH b s.heap Y l vs)(hI:l.all nM=true){i j:Nat}{x:Bool}{C:Bool->Shared->Prop}(h:vt l i j=some x)(hc:C x s):kas_ask prog w A (tuples' true) vs i j C s:=by
 have V1:=qS (i:=i) V
 have V2:=qS (i:=j) V
 have hi:=DM (i:=i) hI
 have h:Ko (l.getD i .none) (l.getD j .none)=some x:=h
 show wpAny (model prog w) A (keyLt' (tuples' true) (vs.getD i Value.none) (vs.getD j Value.none)) C (λO O=>False) s
 revert V1 V2 hi h
 generalize l.getD i .none=p
 generalize l.getD j .none=q
 generalize vs.getD i Value.none=v
 generalize vs.getD j Value.none=u
 intro V1 V2 hi h
 cases p with
 |ah m=>
  refine bm h λm' e h=> ?_
  cases eA e
  refine VR.eF (M:=λv=>wpAny (model prog w) A (keyLt' (tuples' true) v u) C (λO O=>False) s) V1 λa xs n g W1=>VR.eF (M:=λu=>wpAny (model prog w) A (keyLt' (tuples' true) (.ref a) u) C (λO O=>False) s) V2 λa' ys n' g' W2=> ?_
  refine kat_lt g rfl g' rfl (DL hu m W1 W2 h ?_ hc)
  rw[<-W1.length,<-W2.length]
  rfl
 |int a=>exact hi.elim nofun nofun
 |_=>exact(aQ rfl h).elim
theorem DO{M:Model}{h:Heap}{i:Int}{t:Tok}:Looks M h (typeOf (.int i t)) (.type "int"):=Looks.of_pure rfl
theorem BK{l:List PV}:∀{vs:List Value},aH b s.heap Y l vs->l.all nM=true->∃fs,KatTups s.heap vs fs/\fs.length=vs.length/\∀v∈fs,∃i t,v=Value.int i t:=by
 induction l with
 |nil=>exact λ{vs} V O=>aH.elim0 (M:=λvs=>∃fs,KatTups s.heap vs fs/\fs.length=vs.length/\∀v∈fs,∃i t,v=Value.int i t) V ⟨[],.nil,rfl,λO m=>absurd m List.not_mem_nil⟩
 |cons p l ih=>
  intro vs V h
  refine aH.cZ (M:=λvs=>∃fs,KatTups s.heap vs fs/\fs.length=vs.length/\∀v∈fs,∃i t,v=Value.int i t) V λv vs V1 V2=> ?_
  have h:=aB h
  refine(ih V2 h.2).elim λfs k=> ?_
  have h:=h.1
  cases p with
  |ah m=>
   refine VR.eF (M:=λv=>∃fs,KatTups s.heap (v::vs) fs/\fs.length=(v::vs).length/\∀v∈fs,∃i t,v=Value.int i t) V1 λa xs n g W=> ?_
   cases m with
   |nil=>exact nomatch h
   |cons q m=>
    cases q with
    |int i=>
     obtain ⟨u,eu,U⟩:=aH.get (i:=0) W rfl
     obtain ⟨t,rfl⟩:=(show ∃t,u=.int i t from U)
     exact⟨.int i t::fs,.cons g rfl rfl (Array.getElem?_toList▸eu) k.1,congrArg (· +1) k.2.1,λv hv=>(List.mem_cons.mp hv).elim (λe=>⟨i,t,e⟩) (k.2.2 v)⟩
    |_=>exact nomatch h
  |_=>exact nomatch h
end
theorem qc{b:Bs}{h:Heap}{Y:List Addr}{ws:List Value}{ms:List Int}(x:IntsAre ws ms):aH b h Y (ms.map .int) ws:=by
 induction x with
 |nil=>exact aH.nil
 |cons n t _ ih=>exact aH.cons (VR.mC n t) ih
theorem zp{b:Bs}{h:Heap}{Y:List Addr}{ms:List Int}:∀{ws:List Value},aH b h Y (ms.map .int) ws->IntsAre ws ms:=by
 induction ms with
 |nil=>exact λ{ws} x=>aH.elim0 (M:=λws=>IntsAre ws []) x .nil
 |cons m ms ih=>exact λ{ws} x=>aH.cZ (M:=λws=>IntsAre ws (m::ms)) x λv vs y z=>VR.jF (M:=λv=>IntsAre (v::vs) (m::ms)) y λt=>.cons m t (ih z)
theorem qe{vs:List Value}{ns:List Int}(h:IntsAre vs ns):vs.length=ns.length:=by
 induction h with
 |nil=>rfl
 |cons n t _ ih=>exact congrArg (· +1) ih
theorem ints_map{l:List PV}:∀{ns:List Int},ints? l=some ns->l=ns.map .int:=by
 induction l with
 |nil=>exact λ{ns} e=>by cases e;rfl
 |cons p l ih=>exact λ{ns} e=>bm e λx e1 e=>bm e λm e2 e=>Option.some.inj e▸fV e1▸congrArg (PV.int x:: ·) (ih e2)
theorem BL{es:List (Key×PV)}:∀{ks:List Int}{aX:List (Int×Value)},intKeys es=some ks->es.map (·.1)=aX.map (λx=>Key.int x.1)->ks=aX.map (·.1):=by
 induction es with
 |nil=>
  intro ks aX h e
  cases aX with
  |nil=>cases h;rfl
  |cons _ _=>exact nomatch e
 |cons p es ih=>
  intro ks aX h e
  cases aX with
  |nil=>exact nomatch e
  |cons x aX=>
   have e:=List.cons.inj e
   refine bm h λi e1 h=>bm h λl e2 h=> ?_
   cases h
   have e3:i=x.1:=Option.some.inj (e1.symm.trans (congrArg G9 e.1))
   rw[ih e2 e.2,e3]
   rfl
section
variable{c:Cx}{A:Around}{J:aD}{Z:af}{P:Pt}{E:Value->Shared->Prop}{Q:Value->Shared->Prop}
theorem xh{h':Heap}{t:Nat}{vs:List Value}{out:Array Value}{l:List PV}(I:Inv c J Z P)(k:Sub P.s.heap h')(F:Fo E (bT c J (Vl c) Q) P (some (.ok (.ref Z.length),Z++[.list l])))(V:aH c.toBs P.s.heap P.Y l out.toList):
  Q (.ref h'.objs.size) {P.s with heap:=sortedHeap (h'.push (seqObj "list" vs.toArray 0)) h'.objs.size vs out,toks:=t}:=by
 have Lx:P.s.heap.get? h'.objs.size=none:=by
  cases q:P.s.heap.get? h'.objs.size with
  |none=>rfl
  |some o=>exact absurd (Heap.lt_size (k _ _ q)) (Nat.lt_irrefl _)
 have k':Sub P.s.heap (sortedHeap (h'.push (seqObj "list" vs.toArray 0)) h'.objs.size vs out):=λa o e=>Lw.zo (k a o e)
 exact(Lw.BJ (h:=h') (vs:=vs) (out:=out)).elim λn g=>F.ok (I.push k' Lx ⟨out,n,g,aH.bc (.lM k' _) V⟩ (t:=t)) (VR.mD (nY I))
theorem k7{va:Value}{ns:List Int}{l:List PV}(I:Inv c J Z P)
  (xg:∀{A':Around} {E':Value->Shared->Prop} {Q':List Value->Shared->Prop},A'.handled=A.handled->(∀(h':Heap) (t':Nat) (vs:List Value),Sub P.s.heap h'->IntsAre vs ns->Q' vs {P.s with heap:=h',toks:=t'})->wpAny (model c.prog c.w) A' (collect va) Q' E' P.s)
  (k6:ns.length<64) (hs:gV (ns.map .int)=some l) (F:Fo E (bT c J (Vl c) Q) P (some (.ok (.ref Z.length),Z++[.list l]))):c.W A (call (.builtin "sorted") [va]) Q E P.s:=by
 refine DJ.uz xg (λvs hI=>qe hI▸k6) λh' t' vs k hI=>list_sort_tree (Heap.get?_push_size _ rfl) hI (qe hI▸k6) λout VO a1 a2 a3=>⟨rfl,?_⟩
 cases bF (FZ a2 a3) hs
 exact xh I k F (qc a1)
theorem zq{va:Value}{l out:List PV}{vs:List Value}(hu:A.units<=3900)(I:Inv c J Z P)
  (xg:∀{A':Around} {E':Value->Shared->Prop} {Q':List Value->Shared->Prop},l.length<64->(∀(h':Heap),Sub P.s.heap h'->Q' vs {P.s with heap:=h'})->wpAny (model c.prog c.w) A' (collect va) Q' E' P.s)
  (V:cy c P l vs) (hs:AL l=some out) (F:Fo E (bT c J (Vl c) Q) P (some (.ok (.ref Z.length),Z++[.list out]))):c.W A (call (.builtin "sorted") [va]) Q E P.s:=by
 have hI:=(mm hs).1
 have hs:=mm (mm hs).2
 have k6:=bV hs.1
 have hl:=aH.length V
 have key:∃vo:List Value,aH c.toBs P.s.heap P.Y out vo/\(vs.length<2->vo=vs)/\(2<=vs.length->∃p,AK (vt l) (kas_sort l.length)=some p/\p.toList.map (λi=>vs.getD i Value.none)=vo):=by
  have hs:=hs.2
  cases q:decide (l.length<2) with
  |true=>rw[q] at hs;cases hs;exact⟨vs,V,λO=>rfl,λz=>absurd (hl▸bV q) (Nat.not_lt.mpr z)⟩
  |false=>
   rw[q] at hs
   refine bm hs λp hp hs=> ?_
   cases hs
   refine⟨p.toList.map λi=>vs.getD i Value.none,?_,λz=>absurd (hl▸z) (of_decide_eq_false q),λO=>⟨p,hp,rfl⟩⟩
   induction p.toList with
   |nil=>exact aH.nil
   |cons i is ih=>exact aH.cons (qS (s:=P.s) V) ih
 refine key.elim λvo key=> ?_
 refine DJ.uz (R:=λus=>us=vs) (λO hq=>xg k6 λh' k=>hq h' _ vs k rfl) (λus e=>by rw[e,hl];exact k6) λh' t' us k e=> ?_
 subst e
 have Lx:∀a o,P.s.heap.get? a=some o->a≠h'.objs.size:=λa o e=>Nat.ne_of_lt (Heap.lt_size (k _ _ e))
 refine DJ.vk (out:=vo) (Heap.get?_push_size _ rfl) (hl▸k6) key.2.1 (λh2 cj kk=>(key.2.2 cj).elim λp hp=> ?_) ⟨rfl,xh I k F key.1⟩
 have V':aH c.toBs h2 P.Y l us:=aH.bc (.sub λa o e=>kk a o (Lx a o e) (Heap.get?_push_of_some _ (k a o e))) V
 obtain ⟨fs,kt,kl,ki⟩:=BK (s:={P.s with heap:=h2,toks:=t'}) V' hI
 refine kat_kind (T:=.type "int") kt (kl▸Nat.lt_of_lt_of_le (by decide) cj) (λv hv=>(ki v hv).elim λi z=>z.elim λt z=>z▸DO) rfl ⟨rfl,?_⟩
 rw[hl]
 exact DJ.Jn (lt:=vt l) (λi j x C hx hC=>DN (s:={P.s with heap:=h2,toks:=t'}) (bJ (Nat.add_le_add_right hu 2) (by decide)) V' hI hx hC) _ p hp.1 ⟨rfl,hp.2⟩
theorem sa{a:Addr}{T:String}{xs:Array Value}{n:Nat}{l:List PV}(hu:A.units<=3900)(I:Inv c J Z P)(hT:T="list"\/T="tuple")(g:P.s.heap.get? a=some ⟨.type T,none,.seq xs n,#[]⟩)(V:cy c P l xs.toList)(F:Fo E (bT c J (Vl c) Q) P (lift (AM Z l))):c.W A (call (.builtin "sorted") [.ref a]) Q E P.s:=by
 have col:∀{A':Around}{E':Value->Shared->Prop}{Q':List Value->Shared->Prop},l.length<64->(∀(h':Heap),Sub P.s.heap h'->Q' xs.toList {P.s with heap:=h'})->wpAny (model c.prog c.w) A' (collect (.ref a)) Q' E' P.s:=
  λk6 hq=>wpAny_collect_seq a hT g rfl rfl hq (by rw[V.size];exact dT (Nat.le_of_lt (Nat.lt_trans k6 (by decide))))
 refine F.lb λout ho F1=> ?_
 clear F
 have ho:(match ints? l with | some _=>aJ (decide (l.length<64)) (gV l) | .none=>AL l)=some out:=ho
 cases q:ints? l with
 |none=>rw[q] at ho;exact zq hu I col V ho F1
 |some ns=>
  rw[q] at ho
  have ho:=mm ho
  cases ints_map q
  exact k7 I (λO hq=>col (bV ho.1) λh' k=>hq h' _ _ k (zp V)) (List.length_map PV.int▸bV ho.1) ho.2 F1
theorem xi{prog:Program}{w:World}{aX:List (Int×Value)}:∀{l:List Value},l.length=aX.length->(∀(j:Nat) (v:Value),l[j]? =some v->∃k x,aX[j]? =some (k,x)/\(intKind prog w).is k v=true)->IntsAre l (aX.map (·.1)):=by
 induction aX with
 |nil=>exact λ{l} h O=>List.eq_nil_of_length_eq_zero h▸.nil
 |cons y aX ih=>
  intro l h hi
  cases l with
  |nil=>exact nomatch h
  |cons v l=>
   obtain ⟨k,x,e,q⟩:=hi 0 v rfl
   cases e
   obtain ⟨t,rfl⟩:=Value.isInt_shape q
   exact .cons _ t (ih (Nat.succ.inj h) λj v e=>hi (j+1) v e)
theorem xj(hh:A.handled=none)(hu:A.units<=3900){x:PV}{va:Value}(I:Inv c J Z P)(V:Vl c P x va)(F:Fo E (bT c J (Vl c) Q) P (lift (builtin .sorted x Z))):c.W A (call (.builtin "sorted") [va]) Q E P.s:=by
 cases x with
 |ah l=>exact VR.eF (M:=λva=>c.W A (call (.builtin "sorted") [va]) Q E P.s) V λa xs n g V=>sa hu I (.inr rfl) g V F
 |ref i=>
  refine F.lb λo q F=>Vl.ref (M:=λva=>c.W A (call (.builtin "sorted") [va]) Q E P.s) I V q λa ea M=> ?_
  cases o with
  |list l=>exact M.elim λxs M=>M.elim λn M=>sa hu I (.inl rfl) M.1 M.2 F
  |dict kk es=>
   refine F.lb λO qi F2=>F2.lb λks hk F3=> ?_
   have F4:=F3.lm
   refine F4.2.lb λl hs F5=> ?_
   clear F F2 F3
   cases kk with
   |ah ts=>exact(aQ rfl qi).elim
   |int=>
    obtain ⟨aX,D,e2,_⟩:=M
    cases BL hk e2
    have k6:=bV F4.1
    refine D.dictAt.elim λep kh=>k7 I (λha hq=>kdu_collect (kdl_dict (I.so.noSys (List.mem_of_getElem? ea))) (ha.trans hh) kh ?_ λh' tk acc k mS=>hq h' tk _ k (xi (by rw[Array.length_toList];exact mS.1) λj v e=>mS.2 j v (Array.getElem?_toList▸e))) k6 hs F5
    exact dT (Nat.le_of_lt (Nat.lt_trans (List.length_map (α:=Int×Value) (·.1)▸k6) (by decide)))
  |attrs r=>exact F.elim
 |_=>exact F.elim
end
theorem DP{b:Bs}{h:Heap}{Y:List Addr}{l:List UInt8}:∀{vs:List Value},vs.length=l.length->(∀(j:Nat) (v:Value),vs[j]? =some v->∃(c:UInt8) (u:Tok),l[j]? =some c/\v=Value.int ((c:UInt8).toNat:Int) u)->aH b h Y ((l.map (·.toNat)).map λ(n:Nat)=>PV.int n) vs:=by
 induction l with
 |nil=>exact λ{vs} hl O=>List.eq_nil_of_length_eq_zero hl▸aH.nil
 |cons c l ih=>
  intro vs hl H
  cases vs with
  |nil=>exact nomatch hl
  |cons v vs=>
   obtain ⟨c',u,e,rfl⟩:=H 0 v rfl
   cases e
   exact aH.cons (VR.mC _ u) (ih (Nat.succ.inj hl) λj v e=>H (j+1) v e)
theorem vm{c:Cx}{A:Around}{J:aD}{Z:af}{P:Pt}{E Q:Value->Shared->Prop}{x:PV}{va:Value}(hh:A.handled=none)(I:Inv c J Z P)(V:Vl c P x va)(F:Fo E (bT c J (Vl c) Q) P (lift (builtin .tuple x Z))):c.W A (call (.type "tuple") [va]) Q E P.s:=by
 cases x with
 |bytes l=>
  obtain ⟨y,t,rfl,e⟩:=(show ∃y t,va=.bytes y t/\y.toList.map (·.toNat)=l from V)
  have F:Fo E (bT c J (Vl c) Q) P (lift (aJ (aS l) (some (.ah (l.map λ(n:Nat)=>PV.int n),Z)))):=F
  have hl:y.size=l.length:=by rw[<-e,List.length_map,Array.length_toList]
  refine PF.qR hh y t (λh' tk acc k hI=> ?_) (dT (hl▸Nat.le_succ_of_le (eO F.lm.1)))
  have k':Sub P.s.heap (h'.push (mB acc 0)):=λa o e=>Heap.get?_push_of_some _ (k a o e)
  refine F.lm.2.ok (I.sub (t:=tk) k') (VR.qq (xs:=acc) (n:=0) (Heap.get?_push_size _ rfl) ?_)
  rw[<-e]
  refine DP (by rw[Array.length_toList,Array.length_toList];exact hI.1) λj v e=> ?_
  rw[Array.getElem?_toList] at e⊢
  exact hI.2 j v e
 |_=>exact F.elim
section
variable{G:Gx}{x:Str}{p pos:Pos}{e:PySem.Expr}{m:ME}
theorem BM(hk:G.env.kindOf x=some .globalImplicit)(hx:G.T.mg x=none)(hb:G.T.mb x=some (.builtin "sorted"))(hd:(x == ("__debug__":Str))=false)
  (hu:bh e=true) (S:aT G e m):aT G (.Call (.Name x p) [e] [] pos) (.aO .sorted m):=λO O O O O I F=>
 Call_ (dY I hk hx hb hd (callWith_builtin (bC (dU hu)) (cA (bC (dU hu)) (jY hu S I F λO O O O O aN V aW=>xj G.iw.hn G.hu aN V aW))))
theorem zr(hk:G.env.kindOf x=some .globalImplicit)(hx:G.T.mg x=none)(hb:G.T.mb x=some (.type "tuple"))(hd:(x == ("__debug__":Str))=false)
  (hu:bh e=true) (S:aT G e m):aT G (.Call (.Name x p) [e] [] pos) (.aO .tuple m):=λO O O O O I F=>
 Call_ (dY I hk hx hb hd (PyProof.Rows.callWith_type (bC (dU hu)) (cA (bC (dU hu)) (jY hu S I F λO O O O O aN V aW=>vm G.iw.hn aN V aW))))
end
inductive GV where
 |fn (i:Nat) | gl (i:Nat) | cls (c:Nat) | bi (s:String) | ty (s:String)
 deriving DecidableEq
structure Nm where
 aa:List Str
 glob:Str->Option GV
 scope:Scope
 top:Bool
noncomputable def uA(x:Str):Bool:= !(x == ("__debug__":Str))
noncomputable def Nm.qf(P:Nm)(x:Str)(g:GV):Bool:=decide (P.scope.names.lookup x=some .globalImplicit)&&(decide (P.glob x=some g)&&uA x)
theorem ff{M:Prop}(h:false=true):M:=nomatch h
noncomputable def anyS{α:Type}{p:α->Prop}(o:Option {q // p q})(f:α->Bool):Bool:=match o with
 |some a=>f a.1
 |none=>false
@[irreducible] noncomputable def oS{α:Type}{p:α->Prop}(o:Option {q // p q})(f:α->Bool):Bool:=anyS o f
theorem oS.e{α:Type}{p:α->Prop}{M:Prop}{o:Option {q // p q}}{f:α->Bool}(h:oS o f=true)(k:∀a,p a->f a=true->M):M:=by
 unfold oS at h
 cases o with
 |none=>exact ff h
 |some a=>exact k a.1 a.2 h
noncomputable def jR(e:PySem.Expr):Option {q:Str×Pos // e=.Name q.1 q.2}:=match e with
 |.Name x p=>some ⟨(x,p),rfl⟩
 |_=>none
noncomputable def xk(e:PySem.Expr):Option {q:List PySem.Expr×Nat×Pos // e=.Tuple q.1 q.2.1 q.2.2}:=match e with
 |.Tuple es k p=>some ⟨(es,k,p),rfl⟩
 |_=>none
noncomputable def dList(e:PySem.Expr):Option {q:List PySem.Expr×Pos // e=.List q.1 q.2}:=match e with
 |.List es p=>some ⟨(es,p),rfl⟩
 |_=>none
noncomputable def xl(e:PySem.Expr):Option {q:PySem.Const×Nat×Pos // e=.Constant q.1 q.2.1 q.2.2}:=match e with
 |.Constant c k p=>some ⟨(c,k,p),rfl⟩
 |_=>none
noncomputable def BN(e:PySem.Expr):Option {q:PySem.Expr×PySem.Expr×Pos // e=.Subscript q.1 q.2.1 q.2.2}:=match e with
 |.Subscript x y p=>some ⟨(x,y,p),rfl⟩
 |_=>none
noncomputable def sd(e:PySem.Expr):Option {q:PySem.Expr×Str×Pos // e=.Attribute q.1 q.2.1 q.2.2}:=match e with
 |.Attribute o x p=>some ⟨(o,x,p),rfl⟩
 |_=>none
noncomputable def Hw(e:PySem.Expr):Option {q:List (Option PySem.Expr)×List PySem.Expr×Pos // e=.Dict q.1 q.2.1 q.2.2}:=match e with
 |.Dict ks vs p=>some ⟨(ks,vs,p),rfl⟩
 |_=>none
noncomputable def Q7(e:PySem.Expr):Option {q:PySem.Expr×PySem.Operator×PySem.Expr×Pos // e=.BinOp q.1 q.2.1 q.2.2.1 q.2.2.2}:=match e with
 |.BinOp l o r p=>some ⟨(l,o,r,p),rfl⟩
 |_=>none
noncomputable def Q8(e:PySem.Expr):Option {q:PySem.Expr×List PySem.CmpOp×List PySem.Expr×Pos // e=.Compare q.1 q.2.1 q.2.2.1 q.2.2.2}:=match e with
 |.Compare l o r p=>some ⟨(l,o,r,p),rfl⟩
 |_=>none
noncomputable def vE(e:PySem.Expr):Option {q:PySem.BoolOp×List PySem.Expr×Pos // e=.BoolOp q.1 q.2.1 q.2.2}:=match e with
 |.BoolOp o es p=>some ⟨(o,es,p),rfl⟩
 |_=>none
noncomputable def Ly(e:PySem.Expr):Option {q:PySem.UnaryOp×PySem.Expr×Pos // e=.UnaryOp q.1 q.2.1 q.2.2}:=match e with
 |.UnaryOp o x p=>some ⟨(o,x,p),rfl⟩
 |_=>none
noncomputable def Tc(e:PySem.Expr):Option {q:PySem.Expr×PySem.Expr×PySem.Expr×Pos // e=.IfExp q.1 q.2.1 q.2.2.1 q.2.2.2}:=match e with
 |.IfExp t x y p=>some ⟨(t,x,y,p),rfl⟩
 |_=>none
noncomputable def Lz(e:PySem.Expr):Option {q:Option PySem.Expr×Option PySem.Expr×Option PySem.Expr×Pos // e=.Slice q.1 q.2.1 q.2.2.1 q.2.2.2}:=match e with
 |.Slice l u s p=>some ⟨(l,u,s,p),rfl⟩
 |_=>none
noncomputable def BO(e:PySem.Expr):Option {q:PySem.Expr×List PySem.Expr×List PySem.Keyword×Pos // e=.Call q.1 q.2.1 q.2.2.1 q.2.2.2}:=match e with
 |.Call f es kw p=>some ⟨(f,es,kw,p),rfl⟩
 |_=>none
noncomputable def Hx(e:PySem.Expr):Option {q:PySem.Expr×List PySem.Comprehension×Scope×Pos // e=.ListComp q.1 q.2.1 q.2.2.1 q.2.2.2}:=match e with
 |.ListComp x g sc p=>some ⟨(x,g,sc,p),rfl⟩
 |_=>none
noncomputable def one{α:Type}(l:List α):Option {x:α // l=[x]}:=match l with
 |[]=>none
 |x::r=>match r with
  |[]=>some ⟨x,rfl⟩
  |_::_=>none
noncomputable def nil?{α:Type}:List α->Bool
 |[]=>true
 |_::_=>false
theorem nil_inv{α:Type}{l:List α}(h:nil? l=true):l=[]:=by
 cases l with
 |nil=>rfl
 |cons _ _=>exact ff h
@[irreducible] noncomputable def f6(e:PySem.Expr)(f:Str->List PySem.Expr->Bool):Bool:=oS (BO e) λq=>oS (jR q.1) λr=>nil? q.2.2.1&&f r.1 q.2.1
@[elab_as_elim] theorem f6.e{M:PySem.Expr->Prop}{e:PySem.Expr}{f:Str->List PySem.Expr->Bool}(h:f6 e f=true)(k:∀x p es p',f x es=true->M (.Call (.Name x p) es [] p')):M e:=by
 unfold f6 at h
 exact oS.e h λq hq h=>oS.e h λr hr h=>hq▸hr▸nil_inv (aB h).1▸k _ _ _ _ (aB h).2
noncomputable def oi(o:PySem.Expr):Bool:=oS (jR o) (λO=>true)||(oS (sd o) (λO=>true)||(oS (BN o) (λO=>true)||oS (BO o) λq=>oS (sd q.1) λO=>true))
theorem mT{o:PySem.Expr}{name:Str}{env:Env}(h:oi o=true):attributeBase o name env (eval o env)=eval o env:=
 (Bool.or_eq_true_iff.mp h).elim (λh=>oS.e h λO q O=>q▸rfl) λh=>(Bool.or_eq_true_iff.mp h).elim (λh=>oS.e h λO q O=>q▸rfl) λh=>(Bool.or_eq_true_iff.mp h).elim (λh=>oS.e h λO q O=>q▸rfl) λh=>oS.e h λO q h=>oS.e h λO r O=>q▸r▸rfl
noncomputable def sf(k:PySem.Const):PV->Bool
 |.int j=>(match k with | .int i=>decide (i=j) | _=>false)
 |.str l=>(match k with | .str x=>decide (x.cps.toList=l) | _=>false)
 |.bool b'=>(match k with | .bool b=>decide (b=b') | _=>false)
 |.none=>(match k with | .none=>true | _=>false)
 |.bytes l=>(match k with | .bytes x=>decide (x.map (·.toNat)=l) | _=>false)
 |_=>false
theorem xm{G:Gx}{k:PySem.Const}{v:PV}(h:sf k v=true){q p}:aT G (.Constant k q p) (.k v):=by
 cases v with
 |int j=>cases k with
  |int i=>exact bV h▸CX
  |_=>exact ff h
 |str j=>cases k with
  |str i=>exact bV h▸CY
  |_=>exact ff h
 |bool j=>cases k with
  |bool i=>exact bV h▸Ba
  |_=>exact ff h
 |none=>cases k with
  |none=>exact Bb
  |_=>exact ff h
 |bytes j=>cases k with
  |bytes i=>exact bV h▸y9
  |_=>exact ff h
 |_=>exact ff h
noncomputable def oj(f:PySem.Expr->ME->Bool):List PySem.Expr->bZ->Bool
 |[],m=>(match m with | .nil=>true | _=>false)
 |e::es,m=>(match m with | .cons m ms=>bh e&&(f e m&&oj f es ms) | .nil=>false)
noncomputable def mU(f:PySem.Expr->ME->Bool):List PySem.Expr->bZ->Bool
 |[],_=>false
 |e::es,m=>(match m with
  |.nil=>false
  |.cons m ms=>f e m&&(match ms with | .nil=>nil? es | .cons _ _=>mU f es ms))
noncomputable def OI(l:List (Option PySem.Expr)):Option {q:PySem.Expr×List (Option PySem.Expr) // l=some q.1::q.2}:=match l with
 |[]=>none
 |k::l=>match k with
  |none=>none
  |some k=>some ⟨(k,l),rfl⟩
noncomputable def F7(f:PySem.Expr->ME->Bool):List PySem.Expr->bZ->List (Option PySem.Expr)->List Int->Bool
 |[],m,ks,is=>(match m with | .nil=>nil? ks&&nil? is | .cons _ _=>false)
 |e::es,m,ks,is=>(match m with
  |.nil=>false
  |.cons m ms=>oS (OI ks) λk=>(match is with | []=>false | i::is=>oS (xl k.1) (λq=>sf q.1 (.int i))&&(f e m&&F7 f es ms k.2 is)))
noncomputable def LA(l:List PySem.Comprehension):Option {q:Str×Pos×PySem.Expr×List PySem.Expr // l=[⟨.Name q.1 q.2.1,q.2.2.1,q.2.2.2,0⟩]}:=match l with
 |[]=>none
 |g::r=>match r with
  |_::_=>none
  |[]=>match g with
   |⟨t,it,ifs,n⟩=>match t with
    |.Name x p=>if h:n=0 then some ⟨(x,p,it,ifs),by rw[h]⟩ else none
    |_=>none
structure lW where
 e:Nm->PySem.Expr->ME->Bool
 t:Nm->PySem.Expr->ME->Bool
 o:Nm->Option PySem.Expr->fM->Bool
 i:Nm->Bool->PySem.Expr->MI->Bool
noncomputable def BP(C:lW)(P:Nm)(x:PySem.Expr)(y:Str)(iter:PySem.Expr)(ifs:List PySem.Expr)(scope:Scope)(a:ME)(it:MI)(c:fM):Bool:=
 (scope.names.all λz=> !(z.2 == .cell)&&(!(z.2 == .free)&&(!(z.2 == .local)||decide (scope.names.lookup z.1=some .local))))&&(decide (scope.kind=.function)&&(decide (scope.names.lookup y=some .local)&&(fZ iter&&
  (C.i P false iter it&&(C.e ⟨[y],P.glob,scope,false⟩ x a&&match c with
   |.no=>nil? ifs
   |.yes m=>oS (one ifs) λt=>C.t ⟨[y],P.glob,scope,false⟩ t m)))))
noncomputable def DQ(C:lW)(P:Nm)(e:PySem.Expr)(o:Cm)(a b:ME):Bool:=oS (Q8 e) λq=>oS (one q.2.2.1) λr=>decide (q.2.1=[wo o])&&(!behindInMarks (wo o) r&&(C.e P q.1 a&&C.e P r b))
noncomputable def Td:Bi->GV
 |.len=>.bi "len"
 |.sorted=>.bi "sorted"
 |.tuple=>.ty "tuple"
 |.list=>.ty "list"
noncomputable def Hy(C:lW)(P:Nm)(e:PySem.Expr)(m:ME):Bool:=match m with
 |.k v=>oS (xl e) λk=>sf k.1 v
 |.aa i=>oS (jR e) λx=>decide (P.aa[i]? =some x.1)&&uA x.1
 |.gl i=>oS (jR e) λx=>P.qf x.1 (.gl i)
 |.ah ms=>oS (xk e) λq=>oj (C.e P) q.1 ms
 |.list ms=>oS (dList e) λq=>oj (C.e P) q.1 ms
 |.dQ _=>oS (Hw e) λq=>nil? q.1&&nil? q.2.1
 |.bin o a b=>oS (Q7 e) λq=>decide (q.2.1=zO o)&&(C.e P q.1 a&&C.e P q.2.2.1 b)
 |.cmp o a b=>DQ C P e o a b
 |.and ms=>oS (vE e) λq=>decide (q.1=.And)&&mU (C.e P) q.2.1 ms
 |.or ms=>oS (vE e) λq=>decide (q.1=.Or)&&mU (C.e P) q.2.1 ms
 |.not a=>oS (Ly e) λq=>decide (q.1=.Not)&&C.e P q.2.1 a
 |.neg a=>oS (Ly e) λq=>decide (q.1=.USub)&&C.e P q.2.1 a
 |.ite c a b=>oS (Tc e) λq=>C.t P q.1 c&&(C.e P q.2.1 a&&C.e P q.2.2.1 b)
 |.aq a i=>oS (BN e) λq=>qF q.2.1&&(C.e P q.1 a&&C.e P q.2.1 i)
 |.slice a lo hi=>oS (BN e) λq=>oS (Lz q.2.1) λr=>decide (r.2.2.1=none)&&(C.e P q.1 a&&(C.o P r.1 lo&&C.o P r.2.1 hi))
 |.aC f ms=>f6 e λx es=>P.qf x (.fn f)&&oj (C.e P) es ms
 |.aO b a=>f6 e λx es=>P.qf x (Td b)&&oS (one es) λy=>bh y&&C.e P y a
 |.aU o k ms=>oS (BO e) λq=>oS (sd q.1) λr=>nil? q.2.2.1&&(decide (r.2.1=bif Nat.ble k 2 then qI k else ownName k)&&(oi r.1&&(decide (q.2.1.length<30)&&((r.2.2.endLine == q.2.2.2.line)&&(C.e P r.1 o&&oj (C.e P) q.2.1 ms)))))
 |.attr o=>oS (sd e) λr=>decide (r.2.1="rows")&&(oi r.1&&C.e P r.1 o)
 |.new c ms=>f6 e λx es=>P.top&&(decide (c<=1)&&(P.qf x (.cls c)&&oj (C.e P) es ms))
 |.comp a it c=>oS (Hx e) λq=>oS (LA q.2.1) λg=>BP C P q.1 g.1 g.2.2.1 g.2.2.2 q.2.2.1 a it c
 |.kN ks ms=>oS (Hw e) λq=>F7 (C.e P) q.2.1 ms q.1 ks
noncomputable def stepT(C:lW)(P:Nm)(e:PySem.Expr)(m:ME):Bool:=match m with
 |.cmp o a b=>DQ C P e o a b
 |.and ms=>oS (vE e) λq=>decide (q.1=.And)&&mU (C.t P) q.2.1 ms
 |.or ms=>oS (vE e) λq=>decide (q.1=.Or)&&mU (C.t P) q.2.1 ms
 |.not a=>oS (Ly e) λq=>decide (q.1=.Not)&&C.t P q.2.1 a
 |m=>kX e&&C.e P e m
noncomputable def OJ(C:lW)(P:Nm)(e:Option PySem.Expr)(m:fM):Bool:=match m with
 |.no=>decide (e=none)
 |.yes m=>(match e with | some e=>C.e P e m | none=>false)
noncomputable def stepI(C:lW)(P:Nm)(qT:Bool)(e:PySem.Expr)(m:MI):Bool:=match m with
 |.plain a=>C.e P e a
 |.enum a=>f6 e λx es=>qT&&(P.qf x (.ty "enumerate")&&oS (one es) λy=>bh y&&C.e P y a)
 |.gP a=>f6 e λx es=>P.qf x (.ty "range")&&oS (one es) λy=>bh y&&C.e P y a
 |.dA a b=>f6 e λx es=>P.qf x (.ty "range")&&(match es with | []=>false | y::es=>oS (one es) λz=>bh y&&(bh z&&(C.e P y a&&C.e P z b)))
noncomputable def oo:Nat->lW
 |0=>⟨λO O O=>false,λO O O=>false,λO O O=>false,λO O O O=>false⟩
 |n+1=>⟨Hy (oo n),stepT (oo n),OJ (oo n),stepI (oo n)⟩
structure Facts(G:Gx)(glob:Str->Option GV)(K:Frag):Prop where
 fn:∀x i,glob x=some (.fn i)->∃a,G.T.mg x=some (.ref a)/\lz G.cf G.c.toBs (.ref a) i G.n/\∃o fd,G.c.hc.get? a=some o/\o.data=.func fd
 gv:∀x i,glob x=some (.gl i)->∃v,G.T.mg x=some v/\VR G.c.toBs G.c.hc [] (G.gl i) v
 bi:∀x s,glob x=some (.bi s)->G.T.mg x=none/\G.T.mb x=some (.builtin s)
 ty:∀x s,glob x=some (.ty s)->G.T.mg x=none/\G.T.mb x=some (.type s)
 cl:∀x c,glob x=some (.cls c)->G.T.mg x=some (.ref (b9 c))
 X:K.In G.c.hc
 ok:∀c,c<=1->iC K c/\keepIn K (.ref (b9 c))=true
 own:∀c f m,ej c m=some f->c<=1/\lz G.cf G.c.toBs (.ref (eL f)) f G.n/\∃o fd,G.c.hc.get? (eL f)=some o/\o.data=.func fd
 uo:∀c,c<=1->∃f,lJ c=some f/\lz G.cf G.c.toBs (.ref (eL f)) f G.n
 ex:By G.c.toBs
 DR:n9 G.c.toBs
structure iF(P:Nm)(K:Frag)(G:Gx):Prop where
 aa:G.c.locs=P.aa
 sc:G.env.scope=P.scope
 top:P.top=true->4<=G.k
 F:Facts G P.glob K
theorem not_of{a:Bool}(h:(!a)=true):a=false:=Bool.not_eq_true' a▸h
theorem dec{p:Prop}{_:Decidable p}{b:Bool}(h:(decide p&&b)=true):p/\b=true:=⟨bV (aB h).1,(aB h).2⟩
section
variable{G:Gx}{P:Nm}{K:Frag}{C:lW}{f:PySem.Expr->ME->Bool}
structure Te(G:Gx)(P:Nm)(x:Str)(g:GV):Prop where
 k:G.env.kindOf x=some .globalImplicit
 g:P.glob x=some g
 d:(x == ("__debug__":Str))=false
theorem iF.g(N:iF P K G){x:Str}{g:GV}(h:P.qf x g=true):Te G P x g:=⟨(congrArg (λs:Scope=>s.names.lookup x) N.sc).trans (dec h).1,(dec (dec h).2).1,not_of (dec (dec h).2).2⟩
theorem gB(hf:∀e m,f e m=true->aT G e m)(es:List PySem.Expr):∀{ms:bZ},oj f es ms=true->iZ G es ms/\es.all bh=true/\ms.len=es.length:=by
 induction es with
 |nil=>
  intro ms h
  cases ms with
  |nil=>exact⟨Fp,rfl,rfl⟩
  |cons _ _=>exact ff h
 |cons e es ih=>
  intro ms h
  cases ms with
  |nil=>exact ff h
  |cons m ms=>
   have h1:=aB h
   have h2:=aB h1.2
   have i:=ih h2.2
   exact⟨CZ h1.1 (hf _ _ h2.1) i.1,Bool.and_eq_true_iff.mpr ⟨h1.1,i.2.1⟩,congrArg (· +1) i.2.2⟩
theorem jS{R:List PySem.Expr->bZ->Prop}(h1:∀e m,f e m=true->R [e] (.cons m .nil))(h2:∀e m e' es m' ms,f e m=true->R (e'::es) (.cons m' ms)->R (e::e'::es) (.cons m (.cons m' ms)))(es:List PySem.Expr):∀{ms:bZ},mU f es ms=true->R es ms:=by
 induction es with
 |nil=>exact λh=>ff h
 |cons e es ih=>
  intro ms h
  cases ms with
  |nil=>exact ff h
  |cons m ms=>
   have h:=aB h
   cases ms with
   |nil=>exact nil_inv h.2▸h1 e m h.1
   |cons m' ms=>
    cases es with
    |nil=>exact ff h.2
    |cons e' es=>exact h2 e m e' es m' ms h.1 (ih h.2)
theorem BQ(hf:∀e m,f e m=true->aT G e m)(es:List PySem.Expr):∀{ms:bZ}{ks:List (Option PySem.Expr)}{is:List Int},F7 f es ms ks is=true->∃l:List (Pr G),es=l.map (·.e)/\ms=xe l/\ks=l.map (λp=>some p.k)/\is=l.map (·.i):=by
 induction es with
 |nil=>
  intro ms ks is h
  cases ms with
  |nil=>exact⟨[],rfl,rfl,nil_inv (aB h).1,nil_inv (aB h).2⟩
  |cons _ _=>exact ff h
 |cons e es ih=>
  intro ms ks is h
  cases ms with
  |nil=>exact ff h
  |cons m ms=>
   refine oS.e h λq hq h=> ?_
   cases is with
   |nil=>exact ff h
   |cons i is=>
    have h:=aB h
    have h2:=aB h.2
    refine oS.e h.1 λr hr hc=>(ih h2.2).elim λl hl=> ?_
    have hk:∃a p,q.1=.Constant (.int i) a p:=by
     revert hc
     show sf r.1 (.int i)=true->_
     rw[hr]
     cases r.1 with
     |int j=>exact λhc=>⟨_,_,by rw[bV hc]⟩
     |_=>exact λhc=>ff hc
    exact⟨⟨q.1,i,e,m,hk,hf _ _ h2.1⟩::l,congrArg _ hl.1,congrArg _ hl.2.1,hq.trans (congrArg _ hl.2.2.1),congrArg _ hl.2.2.2⟩
structure Sound(K:Frag)(C:lW):Prop where
 e:∀{P:Nm}{G:Gx},iF P K G->∀{x:PySem.Expr}{y:ME},C.e P x y=true->aT G x y
 t:∀{P:Nm}{G:Gx},iF P K G->∀{x:PySem.Expr}{y:ME},C.t P x y=true->dK G x y
 o:∀{P:Nm}{G:Gx},iF P K G->∀{x:Option PySem.Expr}{y:fM},C.o P x y=true->qH G x y
 i:∀{P:Nm}{G:Gx},iF P K G->∀{qT:Bool}{target x:PySem.Expr}{y:MI},C.i P qT x y=true->(qT=true->∃es kk p,target=.Tuple es kk p)->iE G target x y
structure OK(G:Gx)(elt iter:PySem.Expr)(y:Str)(ifs:List PySem.Expr)(scope:Scope)(me:ME)(mi:MI)(mc:fM):Prop where
 cell:∀z∈scope.names,z.2≠ .cell
 free:∀z∈scope.names,z.2≠ .free
 names:∀z∈scope.names,z.2=.local->scope.names.lookup z.1=some .local
 kind:scope.kind=.function
 hx:scope.names.lookup y=some .local
 hp:fZ iter=true
 Si:∀py,iE G (.Name y py) iter mi
 B:r5 G scope y elt me ifs mc
theorem qg(S:Sound K C)(N:iF P K G){x iter:PySem.Expr}{y:Str}{ifs:List PySem.Expr}{scope:Scope}{a:ME}{it:MI}{c:fM}(h:BP C P x y iter ifs scope a it c=true):OK G x iter y ifs scope a it c:=by
 have h1:=aB h
 have h2:=dec h1.2
 have h3:=dec h2.2
 have h4:=aB h3.2
 have h5:=aB h4.2
 have h6:=aB h5.2
 have n:=List.all_eq_true.mp h1.1
 refine⟨λz hz e=> ?_,λz hz e=> ?_,λz hz e=> ?_,h2.1,h3.1,h4.1,λpy=>S.i N h5.1 nofun,λL hn env iw e=> ?_⟩
 ·have q:=(aB (n z hz)).1;rw[e] at q;exact ff q
 ·have q:=(aB (aB (n z hz)).2).1;rw[e] at q;exact ff q
 ·have q:=(aB (aB (n z hz)).2).2;rw[e] at q;exact bV q
 ·have N':iF ⟨[y],P.glob,scope,false⟩ K (G.comp L y hn env iw):=⟨rfl,e,nofun,N.F.fn,N.F.gv,N.F.bi,N.F.ty,N.F.cl,N.F.X,N.F.ok,N.F.own,N.F.uo,N.F.ex,N.F.DR⟩
  refine⟨S.e N' h6.1,?_⟩
  have h7:=h6.2
  cases c with
  |no=>exact nil_inv h7▸Ji
  |yes t=>exact oS.e h7 λq hq h=>hq▸FK (S.t N' h)
theorem zu(S:Sound K C)(N:iF P K G){e:PySem.Expr}{m:ME}(h:Hy C P e m=true):aT G e m:=by
 have Ee:∀e m,C.e P e m=true->aT G e m:=λe m q=>S.e N q
 cases m with
 |k v=>exact oS.e h λq x h=>x▸xm h
 |aa i=>exact oS.e h λq x h=>x▸IV (N.aa.symm▸(dec h).1) (not_of (dec h).2)
 |gl i=>exact oS.e h λq x h=>have g:=N.g h;(N.F.gv _ _ g.g).elim λv y=>x▸KH g.k y.1 g.d y.2
 |ah ms=>exact oS.e h λq x h=>x▸I0 (gB Ee _ h).1
 |list ms=>exact oS.e h λq x h=>x▸Fq (gB Ee _ h).1
 |dQ kk=>exact oS.e h λq x h=>x▸nil_inv (aB h).1▸nil_inv (aB h).2▸C2
 |bin o a b=>exact oS.e h λq x h=>x▸(dec h).1▸IW (Ee _ _ (aB (dec h).2).1) (Ee _ _ (aB (dec h).2).2)
 |cmp o a b=>exact oS.e h λq x h=>oS.e h λr y h=>have h2:=aB (dec h).2;x▸y▸(dec h).1▸IX (Ee _ _ (aB h2.2).1) (Ee _ _ (aB h2.2).2) (not_of h2.1)
 |and ms=>exact oS.e h λq x h=>x▸(dec h).1▸jS (R:=λes ms=>aT G (.BoolOp .And es _) (.and ms)) (λO O h=>za (Ee _ _ h)) (λO O O O O O h=>I7 (Ee _ _ h)) _ (dec h).2
 |or ms=>exact oS.e h λq x h=>x▸(dec h).1▸jS (R:=λes ms=>aT G (.BoolOp .Or es _) (.or ms)) (λO O h=>Be (Ee _ _ h)) (λO O O O O O h=>KD (Ee _ _ h)) _ (dec h).2
 |not a=>exact oS.e h λq x h=>x▸(dec h).1▸IY (Ee _ _ (dec h).2)
 |neg a=>exact oS.e h λq x h=>x▸(dec h).1▸IZ (Ee _ _ (dec h).2)
 |ite t a b=>exact oS.e h λq x h=>have h:=aB h;x▸I6 (S.t N h.1) (Ee _ _ (aB h.2).1) (Ee _ _ (aB h.2).2)
 |aq a i=>exact oS.e h λq x h=>have h:=aB h;x▸I3 h.1 (Ee _ _ (aB h.2).1) (Ee _ _ (aB h.2).2)
 |slice a lo hi=>exact oS.e h λq x h=>oS.e h λr y h=>have h2:=aB (dec h).2;x▸y▸(dec h).1▸C1 (Ee _ _ h2.1) (S.o N (aB h2.2).1) (S.o N (aB h2.2).2)
 |aC f ms=>exact f6.e (M:=λe=>aT G e (.aC f ms)) h λx p es p' h=>have h:=aB h;have g:=N.g h.1;have L:=gB Ee _ h.2;(N.F.fn _ _ g.g).elim λa y=>C6 g.k y.1 g.d L.2.1 L.1 y.2.1 y.2.2
 |aO bb a=>
  refine f6.e (M:=λe=>aT G e (.aO bb a)) h λx p es p' h=>oS.e (aB h).2 λy hy h'=> ?_
  have h1:=(aB h').1
  have h3:=Ee _ _ (aB h').2
  have g:=N.g (aB h).1
  rw[hy]
  cases bb with
  |len=>exact I9 g.k (N.F.bi _ _ g.g).1 (N.F.bi _ _ g.g).2 g.d h1 h3
  |sorted=>exact BM g.k (N.F.bi _ _ g.g).1 (N.F.bi _ _ g.g).2 g.d h1 h3
  |tuple=>exact zr g.k (N.F.ty _ _ g.g).1 (N.F.ty _ _ g.g).2 g.d h1 h3
  |list=>exact Bk g.k (N.F.ty _ _ g.g).1 (N.F.ty _ _ g.g).2 g.d h1 h3
 |aU o mm ms=>
  refine oS.e h λq x h=>oS.e h λr y h=> ?_
  have h1:=aB h
  have h2:=dec h1.2
  have h3:=aB h2.2
  have h4:=dec h3.2
  have h5:=aB h4.2
  have h6:=aB h5.2
  have L:=gB Ee _ h6.2
  rw[x,y,nil_inv h1.1]
  have e:=h2.1
  cases hb:Nat.ble mm 2 with
  |true=>rw[hb] at e;exact e▸zd (Nat.le_of_ble_eq_true hb) (mT h3.1) h4.1 h5.1 L.2.1 (Ee _ _ h6.1) L.1
  |false=>rw[hb] at e;exact e▸wM N.F.X (λcl f m' hf=>(N.F.ok cl (N.F.own cl f m' hf).1).1) (λcl f m' hf=>(N.F.own cl f m' hf).2) (Nat.lt_of_not_le λz=>absurd ((Nat.ble_eq_true_of_le z).symm.trans hb) Bool.noConfusion) (mT h3.1) h4.1 h5.1 L.2.1 (Ee _ _ h6.1) L.1
 |attr o=>exact oS.e h λq x h=>have h2:=aB (dec h).2;x▸(dec h).1▸FC N.F.X (λcl DS=>(N.F.ok cl DS).1) (Ee _ _ h2.2) (mT h2.1)
 |new cl ms=>
  exact f6.e (M:=λe=>aT G e (.new cl ms)) h λx p es p' h=>have h1:=aB h;have h2:=dec h1.2;have h3:=aB h2.2;have g:=N.g h3.1;have L:=gB Ee _ h3.2;have o:=N.F.ok cl h2.1
   (N.F.uo cl h2.1).elim λf hf=>Jb (N.top h1.1) N.F.X o.1 hf.1 hf.2 g.k (N.F.cl _ _ g.g) o.2 g.d L.2.1 L.1
 |comp a it cd=>exact oS.e h λq x h=>oS.e h λr y h=>have c:=qg S N h;x▸y▸FQ c.cell c.free c.names c.kind c.hx c.hp (c.Si _) c.B
 |kN ks ms=>exact oS.e h λq x h=>(BQ Ee _ h).elim λl y=>by rw[x,y.1,y.2.1,y.2.2.1,y.2.2.2];exact DH l
theorem zv(S:Sound K C)(N:iF P K G){e:PySem.Expr}{m:ME}(h:stepT C P e m=true):dK G e m:=by
 have Ee:∀e m,C.e P e m=true->aT G e m:=λe m q=>S.e N q
 have Et:∀e m,C.t P e m=true->dK G e m:=λe m q=>S.t N q
 have plain:∀{m:ME},(kX e&&C.e P e m)=true->dK G e m:=λq=>I5 (aB q).1 (Ee _ _ (aB q).2)
 cases m with
 |cmp o a b=>exact oS.e h λq x h=>oS.e h λr y h=>have h2:=aB (dec h).2;x▸y▸(dec h).1▸Fu (Ee _ _ (aB h2.2).1) (Ee _ _ (aB h2.2).2) (not_of h2.1)
 |and ms=>exact oS.e h λq x h=>x▸(dec h).1▸jS (R:=λes ms=>dK G (.BoolOp .And es _) (.and ms)) (λO O h=>wG (Et _ _ h)) (λO O O O O O h=>Fw (Et _ _ h)) _ (dec h).2
 |or ms=>exact oS.e h λq x h=>x▸(dec h).1▸jS (R:=λes ms=>dK G (.BoolOp .Or es _) (.or ms)) (λO O h=>zb (Et _ _ h)) (λO O O O O O h=>I8 (Et _ _ h)) _ (dec h).2
 |not a=>exact oS.e h λq x h=>x▸(dec h).1▸Fv (Et _ _ (dec h).2)
 |_=>exact plain h
theorem zw(S:Sound K C)(N:iF P K G){qT:Bool}{target e:PySem.Expr}{m:MI}(h:stepI C P qT e m=true)(ht:qT=true->∃es kk p,target=.Tuple es kk p):iE G target e m:=by
 cases m with
 |plain a=>exact Bt (S.e N h)
 |enum a=>exact f6.e (M:=λe=>iE G target e (.enum a)) h λx p es p' h=>have h:=aB h;have g:=N.g (aB h.2).1;oS.e (aB h.2).2 λy hy h'=>(ht h.1).elim λO t=>t.elim λO t=>t.elim λO t=>hy▸t▸Dl g.k (N.F.ty _ _ g.g).1 (N.F.ty _ _ g.g).2 g.d (aB h').1 (S.e N (aB h').2)
 |gP a=>exact f6.e (M:=λe=>iE G target e (.gP a)) h λx p es p' h=>have h:=aB h;have g:=N.g h.1;oS.e h.2 λy hy h'=>hy▸zk g.k (N.F.ty _ _ g.g).1 (N.F.ty _ _ g.g).2 g.d (aB h').1 (S.e N (aB h').2)
 |dA a b=>
  refine f6.e (M:=λe=>iE G target e (.dA a b)) h λx p es p' h=> ?_
  have h:=aB h
  have g:=N.g h.1
  have h1:=h.2
  cases es with
  |nil=>exact ff h1
  |cons y es=>exact oS.e h1 λz hz h'=>have h2:=aB h';have h3:=aB h2.2;have h4:=aB h3.2;hz▸zl g.k (N.F.ty _ _ g.g).1 (N.F.ty _ _ g.g).2 g.d h2.1 h3.1 (S.e N h4.1) (S.e N h4.2)
theorem DT(n:Nat):Sound K (oo n):=by
 induction n with
 |zero=>exact⟨λO O O h=>ff h,λO O O h=>ff h,λO O O h=>ff h,λO O O O O h=>ff h⟩
 |succ n S=>
  refine⟨λN O O h=>zu S N h,λN O O h=>zv S N h,λ{P G} N x y h=> ?_,λN O O O O h ht=>zw S N h ht⟩
  cases y with
  |no=>exact(bV h:x=none)▸I4
  |yes m=>cases x with
   |none=>exact ff h
   |some e=>exact Fs (S.e N h)
end
noncomputable def sg:PySem.Expr->Bool
 |.ListComp ..=>true
 |.SetComp ..=>true
 |.DictComp ..=>true
 |_=>false
theorem xn{e:PySem.Expr}(h:sg e=false)(t:Option PySem.Expr)(l:Nat)(env:Env):swapsWith e t l env=pure false:=by
 cases e<;>first | rfl | exact ff h.symm
noncomputable def mV(locs:List Str):List PySem.Expr->List Nat->Bool
 |[],is=>nil? is
 |e::es,is=>(match is with | []=>false | i::is=>oS (jR e) (λx=>decide (locs[i]? =some x.1))&&mV locs es is)
theorem xq{locs:List Str}(es:List PySem.Expr):∀{is:List Nat},mV locs es is=true->hU locs es is:=by
 induction es with
 |nil=>exact λh=>nil_inv h
 |cons e es ih=>
  intro is h
  cases is with
  |nil=>exact ff h
  |cons i is=>exact oS.e (aB h).1 λx hx h1=>⟨x.1,x.2,i,is,hx,rfl,bV h1,ih (aB h).2⟩
noncomputable def DU(locs:List Str)(e:PySem.Expr):jh->Bool
 |.one i=>oS (jR e) λx=>decide (locs[i]? =some x.1)
 |.many is=>oS (xk e) λq=>mV locs q.1 is
theorem LB{locs:List Str}{e:PySem.Expr}{t:jh}(h:DU locs e t=true):vD locs e t:=by
 cases t with
 |one i=>exact oS.e h λx hx h=>⟨x.1,x.2,hx,bV h⟩
 |many is=>exact oS.e h λq hx h=>⟨q.1,q.2.1,q.2.2,hx,xq _ h⟩
noncomputable def xr(k:PySem.Const):PV->Bool
 |.none=>(match k with | .none=>true | _=>false)
 |.bool b'=>(match k with | .bool b=>decide (b=b') | _=>false)
 |_=>false
theorem F8{k:PySem.Const}{v:PV}(h:xr k v=true):lT k v:=by
 cases v with
 |none=>cases k with
  |none=>exact .none
  |_=>exact ff h
 |bool b=>cases k with
  |bool i=>exact bV h▸.bool _
  |_=>exact ff h
 |_=>exact ff h
noncomputable def OL(t:PySem.Stmt):Option {q:PySem.Expr×Pos // t=.Expr q.1 q.2}:=match t with
 |.Expr e p=>some ⟨(e,p),rfl⟩
 |_=>none
noncomputable def Q9(t:PySem.Stmt):Option {q:PySem.Expr×PySem.Operator×PySem.Expr×Pos // t=.AugAssign q.1 q.2.1 q.2.2.1 q.2.2.2}:=match t with
 |.AugAssign t o e p=>some ⟨(t,o,e,p),rfl⟩
 |_=>none
noncomputable def Tf(t:PySem.Stmt):Option {q:PySem.Expr×List PySem.Stmt×List PySem.Stmt×Pos // t=.If q.1 q.2.1 q.2.2.1 q.2.2.2}:=match t with
 |.If e x y p=>some ⟨(e,x,y,p),rfl⟩
 |_=>none
noncomputable def Ra(t:PySem.Stmt):Option {q:PySem.Expr×PySem.Expr×List PySem.Stmt×List PySem.Stmt×Pos // t=.For q.1 q.2.1 q.2.2.1 q.2.2.2.1 q.2.2.2.2}:=match t with
 |.For t i b l p=>some ⟨(t,i,b,l,p),rfl⟩
 |_=>none
noncomputable def LC(t:PySem.Stmt):Option {q:PySem.Expr×List PySem.Stmt×List PySem.Stmt×Pos // t=.While q.1 q.2.1 q.2.2.1 q.2.2.2}:=match t with
 |.While e b l p=>some ⟨(e,b,l,p),rfl⟩
 |_=>none
noncomputable def LD(t:PySem.Stmt):Option {q:Option PySem.Expr×Pos // t=.Return q.1 q.2}:=match t with
 |.Return e p=>some ⟨(e,p),rfl⟩
 |_=>none
noncomputable def OM(t:PySem.Stmt):Option {q:Pos // t=.Continue q}:=match t with
 |.Continue p=>some ⟨p,rfl⟩
 |_=>none
noncomputable def LF(t:PySem.Stmt):Option {q:Option PySem.Expr×Option PySem.Expr×Pos // t=.Raise q.1 q.2.1 q.2.2}:=match t with
 |.Raise e c p=>some ⟨(e,c,p),rfl⟩
 |_=>none
noncomputable def Rb(t:PySem.Stmt):Option {q:List PySem.Stmt×List PySem.ExceptHandler×List PySem.Stmt×List PySem.Stmt×Pos // t=.Try q.1 q.2.1 q.2.2.1 q.2.2.2.1 q.2.2.2.2}:=match t with
 |.Try b h l m p=>some ⟨(b,h,l,m,p),rfl⟩
 |_=>none
noncomputable def Rc(t:PySem.Stmt):Option {q:List PySem.Expr×PySem.Expr×Pos // t=.Assign q.1 q.2.1 q.2.2}:=match t with
 |.Assign x e p=>some ⟨(x,e,p),rfl⟩
 |_=>none
noncomputable def oq{α:Type}(o:Option α):Option {q:α // o=some q}:=match o with
 |some a=>some ⟨a,rfl⟩
 |none=>none
noncomputable def Rd(h:PySem.ExceptHandler):Option {q:Option PySem.Expr×List PySem.Stmt×Pos // h=.ExceptHandler q.1 none q.2.1 q.2.2}:=match h with
 |.ExceptHandler e n b p=>match n with
  |none=>some ⟨(e,b,p),rfl⟩
  |some _=>none
@[irreducible] noncomputable def km(t:PySem.Stmt)(f:PySem.Expr->PySem.Expr->Pos->Bool):Bool:=oS (Rc t) λq=>oS (one q.1) λx=>f x q.2.1 q.2.2
@[elab_as_elim] theorem km.e{M:PySem.Stmt->Prop}{t:PySem.Stmt}{f:PySem.Expr->PySem.Expr->Pos->Bool}(h:km t f=true)(k:∀x e p,f x e p=true->M (.Assign [x] e p)):M t:=by
 unfold km at h
 exact oS.e h λq hq h=>oS.e h λx hx h=>hq▸hx▸k _ _ _ h
noncomputable def ON(C:lW)(P:Nm)(x:Str)(l:Nat)(e:PySem.Expr)(m:ME):Bool:=match m with
 |.comp a it c=>oS (Hx e) λq=>oS (LA q.2.1) λg=>(l == q.2.2.2.line)&&(!(q.2.2.1.names.any λz=>z.1 == x&&(z.2 == .local||z.2 == .cell))&&BP C P q.1 g.1 g.2.2.1 g.2.2.2 q.2.2.1 a it c)
 |_=>false
structure BR where
 s:PySem.Stmt->MS->Bool
 ss:List PySem.Stmt->bG->Bool
noncomputable def fh(C:lW)(P:Nm)(D:BR)(t:PySem.Stmt)(s:MS):Bool:=match s with
 |.expr a=>oS (OL t) λe=> !sg e.1&&C.e P e.1 a
 |.aK i a=>km t λx e O=>oS (jR x) λx=>decide (P.aa[i]? =some x.1)&&(ON C P x.1 x.2.line e a|| !sg e&&C.e P e a)
 |.dR is a=>km t λx e O=>oS (xk x) λq=>mV P.aa q.1 is&&(!ph e&&C.e P e a)
 |.b4 a i b=>km t λx e O=>oS (BN x) λr=> !ph e&&(C.e P r.1 a&&(C.e P r.2.1 i&&C.e P e b))
 |.setAttr o b=>km t λx e O=>oS (sd x) λr=>decide (r.2.1="rows")&&(!sg e&&(C.e P r.1 o&&C.e P e b))
 |.aug i o a=>oS (Q9 t) λq=>oS (jR q.1) λx=>decide (q.2.1=.Add)&&(decide (o=.add)&&(decide (P.aa[i]? =some x.1)&&C.e P q.2.2.1 a))
 |.ba c a b=>oS (Tf t) λq=>C.t P q.1 c&&(D.ss q.2.1 a&&D.ss q.2.2.1 b)
 |.bt tg it body=>oS (Ra t) λq=>nil? q.2.2.2.1&&(DU P.aa q.1 tg&&(fZ q.2.1&&(C.i P (xk q.1).isSome q.2.1 it&&D.ss q.2.2.1 body)))
 |.lG c body=>oS (LC t) λq=>nil? q.2.2.1&&(C.t P q.1 c&&D.ss q.2.1 body)
 |.ret a=>oS (LD t) λq=>oS (oq q.1) λe=>C.e P e a
 |.cont=>oS (OM t) λO=>true
 |.fq ms=>oS (LF t) λq=>oS (oq q.1) λe=>decide (q.2.1=none)&&f6 e λx es=>P.qf x (.cls 2)&&(decide (es.length=2)&&oj (C.e P) es ms)
 |.lr body h=>oS (Rb t) λq=>nil? q.2.2.1&&(nil? q.2.2.2.1&&(D.ss q.1 body&&oS (one q.2.1) λw=>oS (Rd w) λw=>oS (oq w.1) λx=>oS (jR x) λx=>P.qf x.1 (.cls 2)&&oS (one w.2.1) λr=>oS (LD r) λr=>oS (oq r.1) λc=>oS (xl c) λc=>xr c.1 h))
noncomputable def qU(C:lW)(P:Nm):Nat->BR
 |0=>⟨λO O=>false,λO O=>false⟩
 |f+1=>⟨fh C P (qU C P f),λts ss=>match ts,ss with
  |[],ss=>(match ss with | .nil=>true | .cons _ _=>false)
  |t::ts,ss=>(match ss with | .cons s ss=>(qU C P f).s t s&&(qU C P f).ss ts ss | .nil=>false)⟩
section
variable{G:Gx}{P:Nm}{K:Frag}{C:lW}
structure DV(G:Gx)(D:BR):Prop where
 s:∀{t:PySem.Stmt}{y:MS},D.s t y=true->ef G t y
 ss:∀{t:List PySem.Stmt}{y:bG},D.ss t y=true->iB G t y
theorem zx(S:Sound K C)(N:iF P K G){D:BR}(B:DV G D)(ju:∃outer,G.c.fr=G.env::outer)(uw:G.env.frame=some G.c.L){t:PySem.Stmt}{s:MS}(h:fh C P D t s=true):ef G t s:=by
 have Ee:∀{e m},C.e P e m=true->aT G e m:=λq=>S.e N q
 have Et:∀{e m},C.t P e m=true->dK G e m:=λq=>S.t N q
 have aa:∀{i:Nat}{x:Str},P.aa[i]? =some x->G.c.locs[i]? =some x:=λq=>N.aa.symm▸q
 cases s with
 |expr a=>
  have hi:interactive G.env=false:=by unfold interactive;rw[G.iw.kf];rfl
  exact oS.e h λq x h=>x▸FD (xn (not_of (aB h).1) _ _ _) hi (Ee (aB h).2)
 |aK i a=>
  refine km.e (M:=λt=>ef G t (.aK i a)) h λx e p h=>oS.e h λy hy h=> ?_
  have hx:=aa (dec h).1
  rw[hy]
  refine(Bool.or_eq_true_iff.mp (dec h).2).elim (λh=> ?_) λh=>FE hx (xn (not_of (aB h).1) _ _ _) (Ee (aB h).2)
  cases a with
  |comp a it c=>
   refine oS.e h λq hq h=>oS.e h λg hg h=> ?_
   have h2:=aB (aB h).2
   have c:=qg S N h2.2
   rw[hq,hg]
   refine vj hx ?_ c.cell c.free c.names c.kind c.hx c.hp (c.Si _) c.B
   have hb:G.env.blockKind=.function:=by unfold Env.blockKind;rw[G.iw.kf];rfl
   show (pure (G.env.blockKind == .function&&G.env.kindOf y.1 == some .local&&y.2.line == q.2.2.2.line&& !(q.2.2.1.names.any λ(n,k)=>n == y.1&&(k == .local||k == .cell))):Sem Bool)=pure true
   rw[hb,G.iw.kl i _ hx,(aB h).1,show (!(q.2.2.1.names.any λ(n,k)=>n == y.1&&(k == .local||k == .cell)))=true from h2.1]
   rfl
  |_=>exact ff h
 |dR is a=>exact km.e (M:=λt=>ef G t (.dR is a)) h λx e p h=>oS.e h λq hq h=>hq▸Df (N.aa.symm▸xq _ (aB h).1) (not_of (aB (aB h).2).1) (Ee (aB (aB h).2).2)
 |b4 a i b=>exact km.e (M:=λt=>ef G t (.b4 a i b)) h λx e p h=>oS.e h λq hq h=>have h2:=aB (aB h).2;hq▸Bn (not_of (aB h).1) (Ee h2.1) (Ee (aB h2.2).1) (Ee (aB h2.2).2)
 |setAttr o b=>
  refine km.e (M:=λt=>ef G t (.setAttr o b)) h λx e p h=>oS.e h λq hq h=> ?_
  have h2:=aB (dec h).2
  rw[hq,(dec h).1]
  exact zg N.F.X (λcl DS=>(N.F.ok cl DS).1) (xn (not_of h2.1) _ _ _) (Ee (aB h2.2).1) (Ee (aB h2.2).2)
 |aug i o a=>
  refine oS.e h λq hq h=>oS.e h λx hx h=> ?_
  have h2:=dec (dec h).2
  rw[hq,hx,(dec h).1,h2.1]
  exact Jf (aa (dec h2.2).1) (Ee (dec h2.2).2)
 |ba c a b=>exact oS.e h λq x h=>x▸KQ (Et (aB h).1) (B.ss (aB (aB h).2).1) (B.ss (aB (aB h).2).2)
 |bt tg it body=>
  refine oS.e h λq hq h=> ?_
  have h1:=aB (aB h).2
  have h2:=aB h1.2
  have h3:=aB h2.2
  rw[hq,nil_inv (aB h).1]
  refine Jh (N.aa.symm▸LB h1.1) h2.1 (S.i N h3.1 λz=> ?_) (B.ss h3.2)
  cases hd:xk q.1 with
  |none=>rw[hd] at z;exact ff z
  |some r=>exact⟨_,_,_,r.2⟩
 |lG c body=>exact oS.e h λq x h=>x▸nil_inv (aB h).1▸Dm (Et (aB (aB h).2).1) (B.ss (aB (aB h).2).2)
 |ret a=>exact oS.e h λq x h=>oS.e h λe y h=>x▸y▸Je (Ee h)
 |cont=>exact oS.e h λq x O=>x▸FF
 |fq ms=>
  refine oS.e h λq hq h=>oS.e h λe he h=> ?_
  rw[hq,he,(dec h).1]
  exact f6.e (M:=λe=>ef G (.Raise (some e) none q.2.2) (.fq ms)) (dec h).2 λx p es p' h=>have g:=N.g (aB h).1;have L:=gB (λO O h=>Ee h) _ (dec (aB h).2).2;DA N.F.DR g.k (N.F.cl _ _ g.g) g.d L.2.1 (L.2.2.trans (dec (aB h).2).1) L.1
 |lr body v=>
  refine oS.e h λq hq h=> ?_
  have h1:=aB (aB h).2
  have h2:=aB h1.2
  rw[hq,nil_inv (aB h).1,nil_inv h1.1]
  refine oS.e h2.2 λw hw h=>oS.e h λw' Tg h=>oS.e h λx hx h=>oS.e h λx' Hq h=>oS.e (aB h).2 λr hr h'=>oS.e h' λr' qh h'=>oS.e h' λc hc h'=>oS.e h' λc' Th h'=> ?_
  have g:=N.g (aB h).1
  rw[hw,Tg,hx,Hq,hr,qh,hc,Th]
  exact Jj N.F.ex ju uw g.k (N.F.cl _ _ g.g) g.d (F8 h') (B.ss h2.1)
theorem BS(S:Sound K C)(N:iF P K G)(ju:∃outer,G.c.fr=G.env::outer)(uw:G.env.frame=some G.c.L)(f:Nat):DV G (qU C P f):=by
 induction f with
 |zero=>exact⟨λh=>ff h,λh=>ff h⟩
 |succ f B=>
  refine⟨λh=>zx S N B ju uw h,λ{ts ss} h=> ?_⟩
  cases ts with
  |nil=>cases ss with
   |nil=>exact FG
   |cons _ _=>exact ff h
  |cons t ts=>cases ss with
   |nil=>exact ff h
   |cons s ss=>exact Dd (B.s (aB h).1) (B.ss (aB h).2)
end
structure LG(b:Bs)(T:Tops b)(glob:Str->Option GV)(defs:Nat->Option bo)(gl:Nat->PV)(iS:Nat->Addr)(K:Frag):Prop where
 fn:∀x i,glob x=some (.fn i)->T.mg x=some (.ref (iS i))/\∃d,defs i=some d
 gv:∀x i,glob x=some (.gl i)->∃v,T.mg x=some v/\VR b b.hc [] (gl i) v
 bi:∀x s,glob x=some (.bi s)->T.mg x=none/\T.mb x=some (.builtin s)
 ty:∀x s,glob x=some (.ty s)->T.mg x=none/\T.mb x=some (.type s)
 cl:∀x c,glob x=some (.cls c)->T.mg x=some (.ref (b9 c))
 X:K.In b.hc
 ok:∀c,c<=1->iC K c/\keepIn K (.ref (b9 c))=true
 me:∀c f m,ej c m=some f->c<=1/\iS f=eL f/\∃d,defs f=some d
 uo:∀c,c<=1->∃f,lJ c=some f/\iS f=eL f/\∃d,defs f=some d
 ex:By b
 DR:n9 b
 defs:∀i d,defs i=some d->∃fd locs body m f,wI b (iS i) fd locs d.params body/\(qU (oo m) ⟨locs,glob,fd.scope,true⟩ f).ss body d.body=true
theorem DW{b:Bs}{T:Tops b}{glob:Str->Option GV}{defs:Nat->Option bo}{gl:Nat->PV}{iS:Nat->Addr}{K:Frag}(F:LG b T glob defs gl iS K)(n:Nat):∀(i:Nat)(d:bo),defs i=some d->lz (ax defs gl n) b (.ref (iS i)) i n:=by
 induction n with
 |zero=>exact λi d hd c A C4 J Z P Q E ps vs O O O O O O G=>G.elim
 |succ n ih=>
  intro i d hd
  have at_:∀{j},(∃d',defs j=some d')->lz (ax defs gl n) b (.ref (iS j)) j n/\∃o fd,b.hc.get? (iS j)=some o/\o.data=.func fd:=λh=>h.elim λd' h=>⟨ih _ d' h,by
   obtain ⟨fd,_,_,_,_,FO,_⟩:=F.defs _ d' h
   exact FO.at_.imp λo e=>⟨fd,e⟩⟩
  obtain ⟨fd,locs,body,m,f,FO,ck⟩:=F.defs i d hd
  clear ih
  refine Bh FO T hd λG C4 hT Dt Ld hn hk PH Hz ju uw=> ?_
  obtain ⟨c,A,env,cf,PI,n',k,T',iw⟩:=G
  dsimp only at C4 Dt Ld hn hk PH Hz ju uw
  subst C4 Dt Ld hn hk
  cases hT
  have N:iF ⟨locs,glob,fd.scope,true⟩ K ⟨c,A,env,ax defs PI n',PI,n',4,T',iw⟩:=⟨Hz,PH,λO=>Nat.le_refl 4,λx j h=>⟨_,(F.fn x j h).1,at_ (F.fn x j h).2⟩,F.gv,F.bi,F.ty,F.cl,F.X,F.ok,λcl g m h=>have q:=F.me cl g m h;⟨q.1,q.2.1▸at_ q.2.2⟩,λcl h=>(F.uo cl h).elim λf q=>⟨f,q.1,q.2.1▸(at_ q.2.2).1⟩,F.ex,F.DR⟩
  exact(BS (DT m) N ju uw f).ss ck
end FR
section
set_option maxRecDepth 100000
namespace FR
open PySem PySem.W PySem.Calls PyProof.Rows PySem.SeqAt
theorem BU(fd:FuncData)(args:List Arg)(xs:List Str)(hx:args.map (·.arg)=xs)(vs:List Value)(hp:fd.params=⟨[],args,none,[],[],none,[]⟩)(hd:fd.defaults=.none):∃X iP f,bindArgs fd ⟨vs,[]⟩=
  if (decide (vs.length>xs.length)&&true)=true then X else
  if (!((xs.take (xs.length-(List.drop (0-xs.length) ([]:List Value)).length)).filter λn=>((xs.zip vs).lookup n).isNone).isEmpty)=true then iP else
   (forIn ((xs.drop (xs.length-(List.drop (0-xs.length) ([]:List Value)).length)).zip (List.drop (0-xs.length) ([]:List Value))) (xs.zip vs) f:Sem (List (Str×Value))) >>= λslots=>pure ((xs++[]).filterMap λn=>(slots.lookup n).map (n,·)):=by
 obtain ⟨a1,a2,a3,a4,a5,a6,a7,a8,a9,LH,LI,LJ,LK⟩:=fd
 dsimp only at hp hd
 subst hp hd hx
 exact⟨_,_,_,rfl⟩
theorem OO{α:Type}{g:α->Option α}{l:List α}(h:∀p∈l,g p=some p):l.filterMap g=l:=by
 induction l with
 |nil=>rfl
 |cons p l ih=>rw[List.filterMap_cons_some (h p cR),ih λq hq=>h q (List.mem_cons_of_mem _ hq)]
theorem DX{L:List (Str×Value)}(nd:(L.map (·.1)).Nodup):((L.map (·.1)).filterMap λn=>(L.lookup n).map (n,·))=L:=by
 rw[List.filterMap_map]
 refine OO λp hp=> ?_
 show (L.lookup p.1).map (p.1,·)=some p
 rw[n6 nd hp]
 rfl
theorem xt{L:List (Str×Value)}(nd:(L.map (·.1)).Nodup):((L.map (·.1)).filter λn=>(L.lookup n).isNone)=[]:=
 List.filter_eq_nil_iff.mpr λn hn=>(List.mem_map.mp hn).elim λp hp=>by
  rw[<-hp.2,n6 nd hp.1]
  exact Bool.noConfusion
theorem si(fd:FuncData)(args:List Arg)(vs:List Value)(hn:(args.map (·.arg)).Nodup)(hp:fd.params=⟨[],args,none,[],[],none,[]⟩)(hd:fd.defaults=.none)(hl:vs.length=args.length):bindArgs fd ⟨vs,[]⟩=pure ((args.map (·.arg)).zip vs):=by
 obtain ⟨X,iP,f,e⟩:=BU fd args _ rfl vs hp hd
 rw[e]
 clear e hp hd
 have hl:vs.length=(args.map (·.arg)).length:=hl.trans (List.length_map ..).symm
 generalize args.map (·.arg)=xs at*
 have hx:(xs.zip vs).map (·.1)=xs:=List.map_fst_zip (Nat.le_of_eq hl.symm)
 have nd:((xs.zip vs).map (·.1)).Nodup:=hx.symm▸hn
 have m:=xt nd
 have a:=DX nd
 rw[hx] at m a
 rw[decide_eq_false (Nat.not_lt.mpr (Nat.le_of_eq hl)),List.drop_nil,List.length_nil,Nat.sub_zero,List.take_length,m,List.zip_nil_right,List.forIn_nil,List.append_nil,if_neg Bool.noConfusion,if_neg Bool.noConfusion,pure_bind,a]
end FR
end
section
set_option backward.match.sparseCases true
set_option maxRecDepth 100000
set_option maxHeartbeats 0
open PySem PySem.W PyProof.Rows
namespace FR
noncomputable def p0:Pos:=⟨0,0,0,0⟩
end FR
namespace FR
noncomputable abbrev pw:=PySem.Challenge.pw_sa0237_01
noncomputable def eP(l:List Stmt)(i:Nat):Stmt:=match l.drop i with
 |x::_=>x
 |[]=>.Pass p0
noncomputable def xu:Stmt->Arguments×List Stmt×Scope
 |.FunctionDef _ a b _ _ _ sc _ _ _=>(a,b,sc)
 |_=>default
noncomputable def da:Stmt->List Stmt
 |.ClassDef _ _ _ b _ _ _ _ _ _ _=>b
 |_=>[]
noncomputable abbrev vi(n t:Nat):Value:=.int (.ofNat n) t
noncomputable abbrev vs(x:String)(t:Nat):Value:=.str (Str.ofString x) t
noncomputable abbrev vr(a:Nat):Value:=.ref a
noncomputable def ti(t:Nat):List Nat->List Value
 |[]=>[]
 |n::r=>.int (.ofNat n) t::ti (t+1) r
noncomputable abbrev tr(l:List Nat):List Value:=l.map .ref
noncomputable abbrev oT(l:List Value):Obj:=⟨.type "tuple",none,.seq l.toArray 0,#[]⟩
noncomputable abbrev oF(c:Value)(l:List Value):Obj:=⟨c,none,.fields l.toArray,#[]⟩
noncomputable abbrev de(P:Params)(x:String)(t:Nat)(v:Value):DictEntry:=⟨PyData.keyHash P (Str.ofString x),.str (Str.ofString x) t,v⟩
noncomputable def fd(q:Stmt)(nm qual:String)(pm code:Value)(gl:Nat:=3):FuncData:=⟨Str.ofString nm,Str.ofString qual,(xu q).1,.stmts (xu q).2.1,(xu q).2.2,gl,[],.none,.none,.none,pm,none,code,.none,0⟩
noncomputable abbrev cp:String:="/claim/cut.py"
noncomputable abbrev co(n q:String)(t l a f A:Nat)(b:Bool)(x:Value):Obj:=oF (.type "code") [vs n t,vs q (t+1),vs cp (t+2),vi l 0,vi a 0,vi 0 0,vi 0 0,vi f 0,vr A,.bool b,vi 181 0,vr (A+1),.none,.none,.none,x,vi (t+3) 0,vi l 0,vs cp (t+4)]
noncomputable abbrev cq(n q:String)(t l a A k:Nat):Obj:=oF (.type "code") ([vs n t,vs q (t+1),vs cp (t+2),vi l 0,vi a 0,vi 0 0,vi 0 0,vi 3 0,vr A,.bool true,vi 181 0,vr (A+1),.none]++tr [A+2,A+3,A+4]++[vi k 0,vi l 0,vs cp (k+1)])
noncomputable abbrev sb(i:Nat):Stmt:=eP pw.main.body i
noncomputable abbrev nA:Value:=vs "framerune.metacheck" 527
noncomputable abbrev nB:Value:=vs "framerune.pages" 962
noncomputable abbrev nC:Value:=vs "law_sa0237_01" 1064
noncomputable abbrev oE:Obj:=oT []
noncomputable abbrev fz(q:Stmt)(nm ql:String):Obj:=⟨.none,none,.func (fd q nm ql .none .none 0),#[]⟩
noncomputable abbrev fo(q:Stmt)(nm ql:String)(m c:Value):Obj:=⟨.type "function",none,.func (fd q nm ql m c),#[]⟩
noncomputable def LL:Obj:=fo (eP (da (sb 37)) 0) "__init__" "RuneError.__init__" (vs "framerune.faults" 259) (vr 27)
noncomputable def PJ:Obj:=⟨.type "type",none,.cls ⟨Str.ofString "RuneError",[.type "Exception"],[vr 31,.type "Exception",.type "BaseException",.type "object"],30,Str.ofString "RuneError",true,[],[vr 44],false,none,false⟩,#[some (vr 15),none,some (vs "RuneError" 261),some (vs "RuneError" 269),some (.builtin "Exception.__new__"),some (.bool true)]⟩
noncomputable def PK:Obj:=⟨.type "type",none,.cls ⟨Str.ofString "BadImage",[vr 31],[vr 44,vr 31,.type "Exception",.type "BaseException",.type "object"],43,Str.ofString "BadImage",true,[],[],false,none,false⟩,#[some (vr 35),none,some (vs "BadImage" 292),some (vs "BadImage" 300),some (.builtin "Exception.__new__"),some (.bool true)]⟩
noncomputable def LM:Obj:=fo (eP (da (sb 105)) 0) "__init__" "PlainHeap.__init__" nB (vr 460)
noncomputable def LO:Obj:=fo (eP (da (sb 105)) 2) "get" "PlainHeap.get" nB (vr 474)
noncomputable def LP(P:Params):Obj:=⟨.type "dict",none,.dict #[de P "__module__" 971 nB,de P "__firstlineno__" 975 (vi 366 974),de P "__init__" 983 (vr 461),de P "put" 992 (vr 468),de P "get" 1000 (vr 475),de P "__static_attributes__" 1002 (vr 476),de P "__dict__" 1004 (vr 479),de P "__weakref__" 1006 (vr 480),de P "__doc__" 1007 (.none)] 4,#[]⟩
noncomputable def LQ:Obj:=⟨.type "type",none,.cls ⟨Str.ofString "PlainHeap",[.type "object"],[vr 478,.type "object"],477,Str.ofString "PlainHeap",true,[],[],false,none,false⟩,#[none,none,some (vs "PlainHeap" 964),some (vs "PlainHeap" 972),some (.builtin "object.__new__"),some (.bool true)]⟩
noncomputable def LS:Obj:=fo (eP (da (sb 106)) 0) "__init__" "PlainTables.__init__" nB (vr 495)
noncomputable def LU:Obj:=fo (eP (da (sb 106)) 1) "add" "PlainTables.add" nB (vr 502)
noncomputable def LV:Obj:=fo (eP (da (sb 106)) 2) "get" "PlainTables.get" nB (vr 509)
noncomputable def LW:Obj:=fo (eP (da (sb 106)) 3) "count" "PlainTables.count" nB (vr 516)
noncomputable def LY(P:Params):Obj:=⟨.type "dict",none,.dict #[de P "__module__" 1017 nB,de P "__firstlineno__" 1021 (vi 382 1020),de P "__init__" 1028 (vr 496),de P "add" 1037 (vr 503),de P "get" 1046 (vr 510),de P "count" 1054 (vr 517),de P "__static_attributes__" 1056 (vr 518),de P "__dict__" 1058 (vr 521),de P "__weakref__" 1060 (vr 522),de P "__doc__" 1061 (.none)] 4,#[]⟩
noncomputable def LZ:Obj:=⟨.type "type",none,.cls ⟨Str.ofString "PlainTables",[.type "object"],[vr 520,.type "object"],519,Str.ofString "PlainTables",true,[],[],false,none,false⟩,#[none,none,some (vs "PlainTables" 1010),some (vs "PlainTables" 1018),some (.builtin "object.__new__"),some (.bool true)]⟩
noncomputable def OP(P:Params):List DictEntry:=[de P "__doc__" 166 (.none),de P "__package__" 167 (.none),de P "__loader__" 168 (.builtin "__main__.__loader__#opaque"),de P "__spec__" 169 (.none),de P "__annotations__" 170 (vr 6),de P "__builtins__" 171 (vr 4),de P "__file__" 173 (vs "/claim/cut.py" 172),de P "__cached__" 174 (.none),de P "TB_MODULE" 188 (vi 0 187),de P "TB_TYPEREF" 190 (vi 1 189),de P "TB_TYPEDEF" 192 (vi 2 191),de P "TB_FIELD" 194 (vi 4 193),de P "TB_METHODDEF" 196 (vi 6 195),de P "TB_PARAM" 198 (vi 8 197),de P "TB_INTERFACEIMPL" 200 (vi 9 199),de P "TB_MEMBERREF" 202 (vi 10 201),de P "TB_CONSTANT" 204 (vi 11 203),de P "TB_STANDALONESIG" 206 (vi 17 205),de P "TB_EVENTMAP" 208 (vi 18 207),de P "TB_EVENT" 210 (vi 20 209),de P "TB_PROPERTYMAP" 212 (vi 21 211),de P "TB_PROPERTY" 214 (vi 23 213),de P "TB_METHODSEMANTICS" 216 (vi 24 215),de P "TB_METHODIMPL" 218 (vi 25 217),de P "TB_TYPESPEC" 220 (vi 27 219),de P "TB_ASSEMBLY" 222 (vi 32 221),de P "TB_ASSEMBLYREF" 224 (vi 35 223),de P "TB_NESTEDCLASS" 226 (vi 41 225),de P "TB_GENERICPARAM" 228 (vi 42 227),de P "TB_METHODSPEC" 230 (vi 43 229),de P "TB_GENERICPARAMCONSTRAINT" 232 (vi 44 231),de P "TOKEN_BASE" 234 (vi 16777216 233),de P "E_VOID" 236 (vi 1 235),de P "TA_INTERFACE" 238 (vi 32 237),de P "FA_STATIC" 240 (vi 16 239),de P "FA_LITERAL" 242 (vi 64 241),de P "FA_HASDEFAULT" 244 (vi 32768 243),de P "MA_STATIC" 246 (vi 16 245),de P "MA_ABSTRACT" 248 (vi 1024 247),de P "MI_INTERNALCALL" 250 (vi 4096 249),de P "MS_SETTER" 252 (vi 1 251),de P "MS_GETTER" 254 (vi 2 253),de P "MS_ADDON" 256 (vi 8 255),de P "MS_REMOVEON" 258 (vi 16 257),de P "RuneError" 291 (vr 31),de P "BadImage" 307 (vr 44),de P "CS_U16" 311 (vi 1 310),de P "CS_U32" 313 (vi 2 312),de P "CS_U8PAD" 315 (vi 3 314),de P "CS_TEXT" 317 (vi 4 316),de P "CS_BLOB" 319 (vi 5 318),de P "CS_GUID" 321 (vi 6 320),de P "CS_ROW" 323 (vi 256 322),de P "CS_CODED" 325 (vi 512 324),de P "CD_TYPEDEFORREF" 327 (vi 0 326),de P "CD_HASCONSTANT" 329 (vi 1 328),de P "CD_MEMBERREFPARENT" 331 (vi 2 330),de P "CD_HASSEMANTICS" 333 (vi 3 332),de P "CD_METHODDEFORREF" 335 (vi 4 334),de P "CD_RESOLUTIONSCOPE" 337 (vi 5 336),de P "CD_TYPEORMETHODDEF" 339 (vi 6 338),de P "CODED" 358 (vr 47),de P "COLUMNS" 487 (vr 62),de P "need_row" 494 (vr 173),de P "make_coded" 506 (vr 180),de P "split_coded" 516 (vr 187),de P "column_place" 526 (vr 194),de P "LISTS" 534 (vr 200),de P "NAMED" 546 (vr 212),de P "MAY_BE_NONE" 549 (vr 215),de P "SIG_TABLES" 550 (vr 216),de P "SIG_COLUMNS" 554 (vr 217),de P "MODULE_NAME" 556 (vs "<Module>" 555),de P "CORE_NAME" 558 (vs "core" 557),de P "ROOT_NAME" 560 (vs "Object" 559),de P "CCTOR_SIG" 563 (vr 218),de P "check_tables" 573 (vr 225),de P "rows_of" 581 (vr 232),de P "table_text" 589 (vr 239),de P "table_blob" 597 (vr 246),de P "rule_heaps" 612 (vr 253),de P "right_place" 624 (vr 260),de P "rule_single" 635 (vr 267),de P "rule_maps" 647 (vr 274),de P "rule_tags" 660 (vr 281),de P "coded_pair" 668 (vr 288),de P "is_list_column" 677 (vr 295),de P "rule_parents" 691 (vr 302),de P "names_row" 702 (vr 309),de P "rule_lists" 718 (vr 316),de P "list_range" 730 (vr 323),de P "owner_row" 744 (vr 330),de P "rule_names" 758 (vr 337),de P "rule_twice" 773 (vr 344),de P "twice_members" 797 (vr 351),de P "is_interface" 804 (vr 358),de P "rule_iface" 817 (vr 365),de P "root_row" 823 (vr 370),de P "rule_base" 835 (vr 377),de P "rule_cctor" 847 (vr 384),de P "rule_bodies" 858 (vr 391),de P "rule_constants" 873 (vr 398),de P "rule_params" 887 (vr 405),de P "rule_generics" 902 (vr 412),de P "rule_semantics" 916 (vr 419),de P "right_meaning" 924 (vr 426),de P "association_type" 935 (vr 433),de P "rule_impls" 948 (vr 440),de P "rule_nested" 961 (vr 447),de P "PlainHeap" 1009 (vr 478),de P "PlainTables" 1063 (vr 520),de P "_law_WORDS" 1090 (vr 525),de P "_law_BLOBS" 1100 (vr 526),de P "_law_TAGS" 1133 (vr 535),de P "_law_PARENTS" 1254 (vr 566),de P "_law_LISTS" 1307 (vr 580),de P "_law_TEXTS" 1356 (vr 597),de P "_law_SIGS" 1378 (vr 605),de P "_law_OCTETS" 1391 (vr 610),de P "_law_NAMELESS" 1425 (vr 622),de P "_law_OTHERS" 2116 (vr 1076),de P "_law_sound" 2122 (vr 1081),de P "_law_breach" 2136 (vr 1088),de P "_law_nameless" 2142 (vr 1093),de P "_law_edit" 2154 (vr 1100),de P "law" 2160 (vr 1105)]
noncomputable def hV(P:Params)(m:Nat)(name:Value)(ep:Nat):Obj:=⟨.type "dict",none,.dict (⟨PyData.keyHash P (Str.ofString "__name__"),.str (Str.ofString "__name__") 165,name⟩::(OP P).take m).toArray ep,#[]⟩
noncomputable def Rf:List Value:=[vi 38 0,vi 0 0,vr 20,vi 43 0,vi 0 0,vr 40,vi 63 0,vi 0 0,vr 172,vi 66 0,vi 0 0,vr 179,vi 73 0,vi 0 0,vr 186,vi 79 0,vi 0 0,vr 193,vi 94 0,vi 0 0,vr 224,vi 117 0,vi 0 0,vr 231,vi 119 0,vi 0 0,vr 238,vi 121 0,vi 0 0,vr 245,vi 123 0,vi 0 0,vr 252,vi 129 0,vi 0 0,vr 259,vi 139 0,vi 0 0,vr 266,vi 146 0,vi 0 0,vr 273,vi 153 0,vi 0 0,vr 280,vi 160 0,vi 0 0,vr 287,vi 165 0,vi 0 0,vr 294,vi 170 0,vi 0 0,vr 301,vi 179 0,vi 0 0,vr 308,vi 188 0,vi 0 0,vr 315,vi 200 0,vi 0 0,vr 322,vi 205 0,vi 0 0,vr 329,vi 211 0,vi 0 0,vr 336,vi 217 0,vi 0 0,vr 343,vi 237 0,vi 0 0,vr 350,vi 249 0,vi 0 0,vr 357,vi 251 0,vi 0 0,vr 364,vi 261 0,vi 0 0,vr 369,vi 269 0,vi 0 0,vr 376,vi 275 0,vi 0 0,vr 383,vi 280 0,vi 0 0,vr 390,vi 285 0,vi 0 0,vr 397,vi 297 0,vi 0 0,vr 404,vi 306 0,vi 0 0,vr 411,vi 318 0,vi 0 0,vr 418,vi 331 0,vi 0 0,vr 425,vi 335 0,vi 0 0,vr 432,vi 341 0,vi 0 0,vr 439,vi 350 0,vi 0 0,vr 446,vi 366 0,vi 0 0,vr 453,vi 382 0,vi 0 0,vr 488,vi 409 0,vi 0 0,vr 1080,vi 431 0,vi 0 0,vr 1087,vi 463 0,vi 0 0,vr 1092,vi 478 0,vi 0 0,vr 1099,vi 490 0,vi 0 0,vr 1104]
noncomputable def gL(m:Nat):Obj:=oF .none (Rf.take m)
noncomputable def Rg:Obj:=⟨.type "type",none,.cls ⟨Str.ofString "RuneError",[.type "Exception"],[vr 31,.type "Exception",.type "BaseException",.type "object"],30,Str.ofString "RuneError",true,[],[],false,none,false⟩,#[some (vr 15),none,some (vs "RuneError" 261),some (vs "RuneError" 269),some (.builtin "Exception.__new__"),some (.bool true)]⟩
noncomputable def xd(P:Params):Obj:=⟨.type "dict",none,.dict #[de P "__module__" 268 (vs "framerune.faults" 259),de P "__qualname__" 270 (vs "RuneError" 269),de P "__firstlineno__" 272 (vi 38 271),de P "__init__" 281 (vr 28),de P "__static_attributes__" 284 (vr 29)] 5,#[]⟩
noncomputable abbrev tN(v:Obj)(l r:BT):BT:=.node v l r
noncomputable abbrev tL(v:Obj):BT:=.node v .nil .nil
noncomputable def hT(P:Params):BT:=tN (boot_o_0 P) (tN (boot_o_1 P) (tN (hV P 126 nC 127) (tN (boot_o_7 P) (tN (oT [.type "Exception"]) (tN PJ (tN (oT [vs "Generation" 359,vi 1 310]) (tN (oT [vs "MethodBody" 440,vi 516 441]) (tN (oF (.none) []) (tN oE (tL (oT (ti 2033 [2,3]))) .nil) (tL (oT [vr 766]))) (tN (cq "rule_cctor" "rule_cctor" 836 275 4 378 845) (tL (oT (tr [636,638]))) (tL (oT (tr [893,894]))))) (tN oE (tN (oT [vs "ts" 722,vs "table" 723,vs "place" 724,vs "other" 725,vs "number" 726,vs "first" 727]) (tN (oT ([vi 6 1287,vs "M" 1288]++ti 1289 [5,8])) (tL (cq "_law_breach" "_law_breach" 2123 431 4 1082 2134)) .nil) (tL (oT (tr [827,830])))) (tN (fo (sb 103) "rule_nested" "rule_nested" nA (vr 446)) (tL (oT (ti 1552 [4,2]++[vs "twice" 1554]))) (tL (oT [vr 958]))))) (tN (oT [vs "Class" 396,vi 258 397]) (tN (oT [vs "Name" 473,vi 4 316]) (tN (cq "coded_pair" "coded_pair" 661 160 2 282 666) (tN (oT (ti 1162 [24,1,2,7])) (tL (oT [vr 1054])) .nil) (tL (oT [vr 798]))) (tN (oT [vs "ts" 906,vs "told" 907,vs "seen" 908,vs "number" 909,vs "row" 910,vs "table" 911,vs "n" 912,vs "event" 913]) (tL (oT (tr [669,670]))) (tL (oT [vr 926])))) (tN (fz (sb 71) "check_tables" "check_tables") (tN (fo (sb 89) "twice_members" "twice_members" nA (vr 350)) (tL (oT (ti 1382 [32,1,6]))) (tL (oT (ti 1788 [4,3,0,32854])))) (tN (oF (.type "getset_descriptor") [vs "__dict__" 1003,vr 478,.builtin "function.__dict__",.builtin "function.__dict__#set"]) (tL (oT [vr 734])) (tL (oT [vr 990])))))) (tN (⟨.type "dict",none,.dict #[⟨0,vi 0 326,vr 49⟩,⟨1,vi 1 328,vr 51⟩,⟨2,vi 2 330,vr 53⟩,⟨3,vi 3 332,vr 55⟩,⟨4,vi 4 334,vr 57⟩,⟨5,vi 5 336,vr 59⟩,⟨6,vi 6 338,vr 61⟩] 7,#[]⟩) (tN (oT (tr [73,74,75,76,77,78])) (tN (oT [vs "MajorVersion" 456,vi 1 310]) (tN oE (tN (oT (ti 1101 [2,2,3,7])) (tL (oT (ti 2056 [41,1]++[.int (-1) 2059,vr 1038]))) .nil) (tL (oT (tr [780,782])))) (tN oE (tL (oT (ti 1487 [2,2]))) (tL (oT (tr [907,910]))))) (tN (oT [vi 20 209,vs "Name" 541]) (tN (fz (sb 87) "rule_names" "rule_names") (tN (oT (ti 1338 [23,2,1])) (tL (fz (sb 122) "law" "law")) .nil) (tL (oT (tr [844,846])))) (tN (oF (.none) []) (tL (oT [vr 718])) (tL (oT (ti 1958 [24,4]++[vs "semantics" 1960])))))) (tN (oT [vs "EventFlags" 418,vi 1 310]) (tN (oF (.none) []) (tN oE (tN (oT (ti 1226 [1,1,0,0])) (tL (oT (tr [1069,1070]))) .nil) (tL (oT (ti 1713 [11,1]++[vs "constant" 1715])))) (tN (fz (sb 101) "association_type" "association_type") (tL (oT [vr 686])) (tL (oT (ti 1909 [24,3]++[vs "semantics" 1911]))))) (tN (fo (sb 73) "table_text" "table_text" nA (vr 238)) (tN (oF (.none) []) (tL (oT (ti 1430 [0,1,1,0,0]))) (tL (oT [vr 878]))) (tN (cq "__init__" "PlainTables.__init__" 1022 384 1 490 1026) (tL (oT (ti 1625 [2,4]++[vs "base" 1627]))) (tL (oT (ti 2005 [41,2]++[vs "nested" 2007])))))))) (tN (oF (.none) []) (tN (oF (.none) []) (tN (oT [vs "TypeNamespace" 368,vi 4 316]) (tN (oT [vs "MinorVersion" 449,vi 1 310]) (tN (oT [vs "ts" 628,vs "texts" 629,vs "told" 630,vs "table" 631,vs "rows" 632]) (tN (LY P) (tL (oT (tr [1028,1029,1030]))) .nil) (tL (oT [vr 774]))) (tN (fo (sb 95) "rule_bodies" "rule_bodies" nA (vr 390)) (tL (oT (ti 1473 [2,1]++[vs "module" 1475]))) (tL (oT (ti 1853 [42,3]++[vs "number" 1855]))))) (tN (oT [vi 21 211,vi 1 533,vi 23 213]) (tN oE (tN (oT (ti 1314 [1,1,2])) (tL (oF (.none) [])) .nil) (tL (oT [vr 838]))) (tN oE (tL (oT (tr [708,710]))) (tL (oT (tr [964,966])))))) (tN (oT [vs "Parent" 407,vi 513 408]) (tN oE (tN (fo (sb 81) "is_list_column" "is_list_column" nA (vr 294)) (tN (oT (ti 1194 [42,1,2,0])) (tL (oT (ti 2101 [1,2,0,4]))) .nil) (tL (oT (tr [804,806])))) (tN oE (tL (oT (ti 1519 [2,4]++[vs "twice" 1521]))) (tL (oT (tr [932,934]))))) (tN (cq "rows_of" "rows_of" 574 117 2 226 579) (tN oE (tL (oT (ti 1404 [6,6,3]))) (tL (oT (ti 1803 [11,1]++[.int (-1) 1806,vr 870])))) (tN (oF (.none) [vi 384 0,vi 4 0,vr 495,vi 387 0,vi 4 0,vr 502,vi 391 0,vi 4 0,vr 509,vi 396 0,vi 4 0,vr 516]) (tL (oT (tr [740,742]))) (tL (oT (ti 1996 [2,2,14]))))))) (tN (oT [vi 1 345,vr 54]) (tN (oT [vs "Name" 387,vi 4 316]) (tN (oT [vs "HashValue" 464,vi 5 318]) (tN (fz (sb 79) "rule_tags" "rule_tags") (tN (oT (tr [527,528,529,530,531,532,533,534])) (tL (oT (ti 2074 [18,1]++[.int (-2) 2077,vi 0 2078]))) .nil) (tL (oT (ti 1681 [6,8]++[vs "body" 1683])))) (tN (oF (.none) []) (tL (oT [vr 662])) (tL (oT (ti 1877 [42,3]++[vs "twice" 1879]))))) (tN (oT (tr [213,214])) (tN (cq "rule_twice" "rule_twice" 759 217 4 338 771) (tL (oT (ti 1360 [6,2,4]))) (tL (oT (ti 1778 [4,3]++[vs "constant" 1780])))) (tN (oT [vs "self" 996,vs "place" 997]) (tL (oT (tr [723,726]))) (tL (oT (ti 1968 [25,1,1,16])))))) (tN (oT [vs "Name" 429,vi 4 316]) (tN (oT [vs "coded" 510,vs "n" 511,vs "pair" 512,vs "tag" 513]) (tN (oF (.none) []) (tN (oT (ti 1255 [2,1,4,2])) (tL (fz (sb 118) "_law_sound" "_law_sound")) .nil) (tL (oT (ti 1729 [4,2]++[vs "constant" 1731])))) (tN (cq "rule_impls" "rule_impls" 936 341 2 434 946) (tL (oT (tr [693,694]))) (tL (oT (tr [949,950]))))) (tN oE (tN (fz (sb 93) "rule_base" "rule_base") (tL (oT (ti 1443 [0,0]++[vs "single" 1445]))) (tL (oT [vr 886]))) (tN LU (tL (oT (ti 1635 [6,5,2,6]))) (tL (oT (tr [1013,1014]))))))))) (tN oE (tN (oF (.none) [vi 40 0,vi 4 0,vr 27]) (tN (oT [vr 31]) (tN (oT [vs "EncBaseId" 363,vi 6 320]) (tN (oT [vr 130]) (tN (cq "right_place" "right_place" 613 129 5 254 622) (tN (fz (eP (da (sb 106)) 3) "count" "PlainTables.count") (tL (oT (tr [1024,1026]))) .nil) (tL (oT (ti 1653 [6,8]++[vs "cctor" 1655])))) (tN (oT [vs "ts" 851,vs "told" 852,vs "number" 853,vs "row" 854,vs "without" 855]) (tL (oT [vr 642])) (tL (oT [vr 898])))) (tN (oT [vi 2 191,vi 4 529,vi 4 193]) (tN (fo (sb 85) "list_range" "list_range" nA (vr 322)) (tN (oT (ti 1303 [6,1,5,2])) (tL (fz (sb 120) "_law_nameless" "_law_nameless")) .nil) (tL (oT (ti 1749 [11,2]++[vs "constant" 1751])))) (tN oE (tL (oT (ti 1559 [6,2,4,5]))) (tL (oT (ti 1940 [24,4,1,7])))))) (tN (oT [vs "Name" 403,vi 4 316]) (tN (oT (tr [161,162])) (tN (oT [vs "table" 672,vs "place" 673,vs "row" 674]) (tN (oT (ti 1178 [25,1,1,0])) (tL (oT [vr 1058])) .nil) (tL (oT (ti 1695 [6,2,2,1094])))) (tN (fo (sb 99) "rule_semantics" "rule_semantics" nA (vr 418)) (tL (oT [vr 674])) (tL (oT (ti 1891 [24,2,0,2]))))) (tN (oF (.none) []) (tN oE (tL (oT (ti 1392 [0,1,1]))) (tL oE)) (tN oE (tL (oT (ti 1607 [4,4,0,6]))) (tL (oT [vr 994])))))) (tN (oT [vi 2 341,vr 50]) (tN (oT (tr [80,81,82])) (tN (oT [vs "Flags" 460,vi 2 312]) (tN oE (tN (oT (ti 1117 [10,1,0,15])) (tL (oT (ti 2068 [41,2]++[vs "nested" 2070]))) .nil) (tL (oT [vr 786]))) (tN (fz (sb 97) "rule_params" "rule_params") (tL (oT [vr 658])) (tL (oT [vr 914])))) (tN (oT [vi 42 227,vs "Name" 545]) (tN (oF (.none) []) (tL (oT (ti 1350 [35,1,7]))) (tL (oT [vr 850]))) (tN (cq "put" "PlainHeap.put" 984 371 2 462 990) (tL (oT [vr 722])) (tL (oT [vr 978]))))) (tN (oT [vs "Parent" 423,vi 258 424]) (tN (cq "make_coded" "make_coded" 495 66 3 174 504) (tN (fz (sb 83) "names_row" "names_row") (tN (oT (ti 1242 [11,1,1,29])) (tL (oT (tr [1073,1074]))) .nil) (tL (oT (tr [814,818])))) (tN (oF (.none) []) (tL (oT (ti 1533 [1,2,1,17]))) (tL (oT (ti 1915 [24,4,0,8]))))) (tN oE (tN oE (tL (oT [vr 626])) (tL (oT (ti 1824 [8,6]++[vs "param" 1826])))) (tN (oT [vs "self" 1032,vs "table" 1033,vs "row" 1034]) (tL (oT [vr 754])) (tL (oT (ti 2008 [41,1]++[.int (-1) 2011,vr 1010])))))))) (tN (cq "__init__" "RuneError.__init__" 273 40 3 22 279) (tN (⟨.type "dict",none,.dict #[de P "__module__" 299 (vs "framerune.faults" 259),de P "__firstlineno__" 303 (vi 43 302),de P "__static_attributes__" 304 (vr 42),de P "__doc__" 305 (.none)] 2,#[]⟩) (tN (oT [vs "TypeNamespace" 372,vi 4 316]) (tN (oT [vs "PublicKey" 453,vi 5 318]) (tN (fo (sb 77) "rule_single" "rule_single" nA (vr 266)) (tN (oF (.type "super") (tr [520,520,520])) (tL (oT [vr 1034])) .nil) (tL (oT (ti 1663 [6,7,0,1])))) (tN oE (tL (oT [vr 650])) (tL (oT [vr 906])))) (tN (oT [vi 2 191,vs "TypeName" 537]) (tN oE (tN (oT (ti 1326 [6,8,3])) (tL (cq "_law_edit" "_law_edit" 2143 478 5 1094 2152)) .nil) (tL (oT (ti 1760 [4,2,0,86])))) (tN (fz (eP (da (sb 105)) 0) "__init__" "PlainHeap.__init__") (tL (oT (tr [713,714]))) (tL (oT (tr [969,970])))))) (tN (oT [vr 106]) (tN (fz (sb 57) "need_row" "need_row") (tN oE (tN (oT (ti 1210 [44,1,0,0])) (tL (oT (ti 2109 [2,6,5]))) .nil) (tL (oT [vr 810]))) (tN oE (tL (oT [vr 682])) (tL (oT [vr 938])))) (tN (oT [vs "texts" 585,vs "offset" 586]) (tN (fz (sb 91) "rule_iface" "rule_iface") (tL (oT (ti 1416 [32,1,7]))) (tL (oT (tr [872,874])))) (tN (oF (.none) []) (tL (oT [vr 746])) (tL (oT (tr [1001,1002]))))))) (tN (oT [vi 2 347,vr 58]) (tN (oT [vs "Flags" 392,vi 1 310]) (tN (oT (tr [153,154])) (tN (oF (.none) []) (tN (oT (ti 1146 [18,1,0]++[vs "T" 1149])) (tL (oT (tr [1048,1050]))) .nil) (tL (oT [vr 794]))) (tN (cq "rule_generics" "rule_generics" 888 306 3 406 900) (tL (oT (ti 1505 [3,2]))) (tL (oT [vr 922])))) (tN oE (tN (oT [vs "ts" 777,vs "texts" 778,vs "blobs" 779,vs "told" 780,vs "lists" 781,vs "name_place" 782,vs "sig_place" 783,vs "table" 784,vs "place" 785,vs "other" 786,vs "number" 787,vs "first" 788,vs "end" 789,vs "seen" 790,vs "n" 791,vs "row" 792,vs "sig" 793,vs "key" 794]) (tL (oT (ti 1372 [27,1,0]))) (tL (oT [vr 858]))) (tN LO (tL (oT (ti 1597 [20,2]++[vs "semantics" 1599]))) (tL (oT (tr [984,986])))))) (tN (oT [vs "Method" 433,vi 262 434]) (tN (fo (sb 59) "split_coded" "split_coded" (vs "framerune.schema" 308) (vr 186)) (tN (cq "rule_lists" "rule_lists" 703 188 2 310 716) (tN (oT [vi 2 1271,vs "T" 1272,vi 4 1273,vs "F" 1274]) (tL (oF (.none) [])) .nil) (tL (oT [vr 826]))) (tN (oT [vs "ts" 952,vs "told" 953,vs "outer" 954,vs "number" 955,vs "row" 956,vs "at" 957,vs "steps" 958]) (tL (oT [vr 698])) (tL (oT (ti 1930 [20,1]++[vs "semantics" 1932]))))) (tN (fz (sb 75) "rule_heaps" "rule_heaps") (tN (oF (.none) []) (tL (oT (ti 1446 [32,1]++[.int (-1) 1449,vr 634]))) (tL (oT (ti 1834 [8,5,1,0])))) (tN oE (tL (oT (tr [760,762]))) (tL (oT [vr 1018]))))))))) (tN (boot_o_5 P) (tN (boot_o_9 P) (tN (xd P) (tN (oF (.type "super") (tr [31,31,31])) (tN (oT [vs "Mvid" 361,vi 6 320]) (tN (oT (tr [126,127,128])) (tN oE (tN (oT [vs "self" 1050,vs "table" 1051]) (tL (oT (ti 2039 [3,4]))) .nil) (tL (oT (ti 1649 [6,8,3,10])))) (tN oE (tL (oT [vr 640])) (tL (oT [vr 896])))) (tN (cq "column_place" "column_place" 517 79 2 188 524) (tN (fz (sb 85) "list_range" "list_range") (tN (oT (ti 1295 [21,1,1,2])) (tL oE) .nil) (tL (oT (ti 1742 [11,1]++[.int (-1) 1745,vr 832])))) (tN (oF (.type "builtin_function_or_method") [.builtin "type.__prepare__",.type "type"]) (tL (oT (tr [702,704]))) (tL (oT [vr 960]))))) (tN (oT (tr [95,96])) (tN (oT [vs "Method" 474,vi 516 475]) (tN oE (tN (oT (ti 1170 [24,3,2,0])) (tL (oT (ti 2094 [4,16,3]))) .nil) (tL (oT [vr 800]))) (tN (fz (sb 99) "rule_semantics" "rule_semantics") (tL (oT [vr 672])) (tL (oT [vr 928])))) (tN (fo (sb 71) "check_tables" "check_tables" nA (vr 224)) (tN (oF (.none) []) (tL (oT (ti 1388 [35,1,8]))) (tL (oT (ti 1792 [11,1]++[.int (-1) 1795,vr 864])))) (tN (oF (.type "super") (tr [478,478,478])) (tL (oT [vr 736])) (tL (oT (ti 1986 [2,4,3]))))))) (tN (oT [vi 2 340,vr 48]) (tN (oT [vs "Name" 381,vi 4 316]) (tN (oT [vs "BuildNumber" 458,vi 1 310]) (tN (cq "rule_maps" "rule_maps" 636 146 2 268 645) (tN (oT (ti 1109 [11,1,1,11])) (tL (oT (ti 2062 [41,1]++[.int (-1) 2065,vr 1040]))) .nil) (tL (oT [vr 784]))) (tN (oT [vs "ts" 877,vs "told" 878,vs "number" 879,vs "first" 880,vs "end" 881,vs "last" 882,vs "n" 883,vs "sequence" 884]) (tL (oT [vr 656])) (tL (oT [vr 912])))) (tN (oT [vi 32 221,vs "Name" 543]) (tN (fo (sb 87) "rule_names" "rule_names" nA (vr 336)) (tN (oT (ti 1344 [32,1,8])) (tL (fo (sb 122) "law" "law" nC (vr 1104))) .nil) (tL (oT [vr 848]))) (tN oE (tL (oT (ti 1581 [0,14,5]))) (tL (oT (tr [973,976])))))) (tN (oT [vs "EventType" 420,vi 512 421]) (tN oE (tN (oT [vs "ts" 695,vs "sort" 696,vs "n" 697,vs "may_none" 698,vs "pair" 699]) (tN (oT (ti 1234 [2,3,3,10])) (tL (oT [vr 1072])) .nil) (tL (oT (ti 1719 [4,2]++[vs "constant" 1721])))) (tN (fo (sb 101) "association_type" "association_type" nA (vr 432)) (tL (oT [vr 688])) (tL (oT (tr [943,944]))))) (tN (oF (.none) []) (tN (co "root_row" "root_row" 818 261 2 3 366 true (vr 368)) (tL (oT [vr 624])) (tL (oT (ti 1820 [8,6,1,1])))) (tN oE (tL (oT (tr [750,752]))) (tL (oT (tr [1006,1008])))))))) (tN oE (tN (⟨.type "frame",none,.plain,#[some (vr 40),some (vr 3),some (vr 37),none,some (vs "framerune.faults" 259),none,some (vr 0)]⟩) (tN (oT [vs "Flags" 370,vi 2 312]) (tN (oT [vs "RevisionNumber" 451,vi 1 310]) (tN (fz (sb 77) "rule_single" "rule_single") (tN (oF (.type "getset_descriptor") [vs "__dict__" 1057,vr 520,.builtin "function.__dict__",.builtin "function.__dict__#set"]) (tL (oT (ti 2054 [3,2]))) .nil) (tL (oT [vr 776]))) (tN (oF (.none) []) (tL (oT (tr [646,648]))) (tL (oT (tr [902,904]))))) (tN (oT [vi 0 187,vs "Name" 535]) (tN (cq "owner_row" "owner_row" 731 205 5 324 742) (tN (oT (ti 1320 [2,2,2])) (tL oE) .nil) (tL (oT [vr 840]))) (tN (oT [vs "self" 979,vs "zero" 980]) (tL (oT [vr 712])) (tL (oT [vr 968]))))) (tN (oT (tr [102,103,104])) (tN (oT [vs "row" 491]) (tN (oF (.none) []) (tN (oT (ti 1202 [43,1,0,5])) (tL oE) .nil) (tL (oT [vr 808]))) (tN (cq "right_meaning" "right_meaning" 917 331 2 420 922) (tL (oT (tr [678,680]))) (tL (oT [vr 936])))) (tN oE (tN (oT [vs "ts" 808,vs "told" 809,vs "number" 810,vs "row" 811,vs "first" 812,vs "end" 813,vs "n" 814]) (tL (oT (ti 1410 [20,1,1]))) (tL (oT (ti 1810 [4,3]++[vs "constant" 1812])))) (tN (⟨.type "frame",none,.plain,#[some (vr 488),some (vr 3),some (vr 485),none,some nB,none,some (vr 0)]⟩) (tL (oT [vr 744])) (tL (oT [vr 1000])))))) (tN (oT [vi 1 346,vr 56]) (tN (oT [vs "ParamList" 389,vi 264 390]) (tN (oT [vs "NestedClass" 465,vi 258 466]) (tN (fo (sb 79) "rule_tags" "rule_tags" nA (vr 280)) (tN (oT (ti 1138 [9,1,0,0])) (tL (oT (ti 2079 [20,1]++[vs "list" 2081]))) .nil) (tL (oT (tr [790,792])))) (tN oE (tL (oT [vr 664])) (tL (oT (tr [918,920]))))) (tN (oT [vs "Signature" 551,vs "Type" 552,vs "Instantiation" 553]) (tN oE (tL (oT (ti 1366 [17,1,0]))) (tL (oT (tr [854,856])))) (tN (fz (eP (da (sb 105)) 2) "get" "PlainHeap.get") (tL (oT (ti 1590 [20,1]++[.int (-1) 1593,vr 728]))) (tL (oT (ti 1972 [25,1]++[vs "impl" 1974])))))) (tN (oT (tr [118,119,120])) (tN (fz (sb 59) "split_coded" "split_coded") (tN oE (tN (oT (ti 1263 [2,3,4,0])) (tL (fo (sb 118) "_law_sound" "_law_sound" nC (vr 1080))) .nil) (tL (oT (tr [821,824])))) (tN oE (tL (oT [vr 696])) (tL (oT (ti 1925 [24,4]++[.int (-2) 1928,vi 0 1929]))))) (tN (oT [vs "ts" 601,vs "texts" 602,vs "blobs" 603,vs "told" 604,vs "table" 605,vs "place" 606,vs "column" 607,vs "number" 608,vs "row" 609]) (tN (fo (sb 93) "rule_base" "rule_base" nA (vr 376)) (tL (oT (tr [630,632]))) (tL (oT [vr 888]))) (tN (oF (.none) []) (tL (oT (ti 1639 [6,5]++[vs "cctor" 1641]))) (tL (oT (ti 2024 [3,3]))))))))) (tN (co "<module>" "<module>" 182 1 0 0 11 false .none) (tN (⟨.type "frame",none,.plain,#[some (vr 20),some (vr 3),some (vr 17),none,some (vs "framerune.faults" 259),none,some (vr 0)]⟩) (tN (⟨.type "dict",none,.dict #[de P "__module__" 299 (vs "framerune.faults" 259),de P "__qualname__" 301 (vs "BadImage" 300),de P "__firstlineno__" 303 (vi 43 302),de P "__static_attributes__" 304 (vr 42)] 4,#[]⟩) (tN (oT [vs "ResolutionScope" 365,vi 517 366]) (tN (oT [vs "HashAlgId" 447,vi 2 312]) (tN oE (tN LW (tL (oT (ti 2044 [41,2]++[vs "nested" 2046]))) .nil) (tL (oT (tr [770,772])))) (tN (fz (sb 95) "rule_bodies" "rule_bodies") (tL (oT (ti 1469 [2,1,0,32]))) (tL (oT (ti 1849 [42,3,0,0]))))) (tN (oT [vi 6 195,vi 5 531,vi 8 197]) (tN (oF (.none) []) (tN (oT (ti 1308 [0,1,1])) (tL (fo (sb 120) "_law_nameless" "_law_nameless" nC (vr 1092))) .nil) (tL (oT (tr [834,836])))) (tN (co "PlainHeap" "PlainHeap" 966 366 0 0 451 false .none) (tL (oT (ti 1563 [6,2]++[vs "twice" 1565]))) (tL (oT (ti 1944 [24,4]++[vs "semantics" 1946])))))) (tN (oT (tr [98,99,100])) (tN (oT [vs "Constraint" 479,vi 512 480]) (tN (fz (sb 81) "is_list_column" "is_list_column") (tN (oT (ti 1186 [41,1,1]++[vs "T" 1189])) (tL (oT (tr [1059,1060]))) .nil) (tL (oT (ti 1699 [6,2]++[vs "body" 1701])))) (tN (oF (.none) []) (tL (oT (ti 1514 [41,1]++[.int (-2) 1517,vi 0 1518]))) (tL (oT (ti 1895 [24,2]++[vs "semantics" 1897]))))) (tN oE (tN (cq "is_interface" "is_interface" 798 249 1 352 802) (tL (oT (ti 1398 [2,2,1]))) (tL (oT (ti 1799 [4,3,0,32838])))) (tN (⟨.type "dict",none,.dict #[de P "__module__" 1017 nB,de P "__qualname__" 1019 (vs "PlainTables" 1018),de P "__firstlineno__" 1021 (vi 382 1020),de P "__init__" 1028 (vr 496),de P "add" 1037 (vr 503),de P "get" 1046 (vr 510),de P "count" 1054 (vr 517),de P "__static_attributes__" 1056 (vr 518)] 8,#[]⟩) (tL (oT (ti 1611 [4,4]++[vs "iface" 1613]))) (tL (oT [vr 996])))))) (tN (oT [vi 3 342,vr 52]) (tN (oT [vs "ImplFlags" 385,vi 1 310]) (tN (oT [vs "Name" 462,vi 4 316]) (tN (oT [vs "ts" 651,vs "told" 652,vs "table" 653,vs "place" 654,vs "column" 655,vs "number" 656,vs "row" 657]) (tN (oT (ti 1125 [44,1,1,7])) (tL (oT (tr [1043,1044]))) .nil) (tL (oT (ti 1677 [6,8,1,4096])))) (tN (fo (sb 97) "rule_params" "rule_params" nA (vr 404)) (tL (oT (ti 1496 [2,3]))) (tL (oT (ti 1873 [42,3,3,15]))))) (tN (oT [vi 2 191,vs "Extends" 547]) (tN oE (tL (oT (tr [581,582,583,584,585,586,587,588,589,590,591,592,593,594,595,596]))) (tL (oT (ti 1774 [4,3,0,32774])))) (tN oE (tL (oT (ti 1587 [20,2]++[vs "semantics" 1589]))) (tL (oT [vr 980]))))) (tN (oT (tr [115,116])) (tN oE (tN (fo (sb 83) "names_row" "names_row" nA (vr 308)) (tN (oT (ti 1250 [44,1,1,10])) (tL oE) .nil) (tL (oT [vr 820]))) (tN oE (tL (oT (tr [691,692]))) (tL (oT (ti 1919 [24,4]++[vs "semantics" 1921]))))) (tN (cq "table_blob" "table_blob" 590 121 2 240 595) (tN (oT [vs "ts" 827,vs "texts" 828,vs "told" 829,vs "root" 830,vs "number" 831,vs "row" 832]) (tL (oT (ti 1438 [0,1]++[.int (-2) 1441,vi 0 1442]))) (tL (oT (tr [882,884])))) (tN (fz (eP (da (sb 106)) 1) "add" "PlainTables.add") (tL (oT [vr 756])) (tL (oT (ti 2014 [41,1]++[vs "nested" 2016])))))))) (tN (oT [vs "at" 282,vs "code" 283]) (tN (oF (.type "super") (tr [44,44,44])) (tN (oT [vs "FieldList" 375,vi 260 376]) (tN (oT [vs "Culture" 455,vi 4 316]) (tN (oF (.none) []) (tN (oT [vs "" 1066,vs "<Module>" 1067,vs "A" 1068,vs "I" 1069,vs "f" 1070,vs "g" 1071,vs "get_P" 1072,vs "set_P" 1073,vs "add_E" 1074,vs "remove_E" 1075,vs ".cctor" 1076,vs "m" 1077,vs "M" 1078,vs "P" 1079,vs "E" 1080,vs "T" 1081,vs "U" 1082,vs "Object" 1083,vs "R" 1084,vs "s" 1085,vs "C" 1086,vs "D" 1087,vs "h" 1088,vs "core" 1089]) (tL (oT (tr [1035,1036]))) .nil) (tL (oT (ti 1667 [6,7]++[vs "body" 1669])))) (tN (cq "rule_constants" "rule_constants" 859 285 2 392 871) (tL (oT [vr 652])) (tL (oT (ti 1863 [42,3]++[vs "number" 1865]))))) (tN (oT [vi 6 195,vs "Name" 539]) (tN (oT [vs "ts" 748,vs "texts" 749,vs "told" 750,vs "table" 751,vs "word" 752,vs "place" 753,vs "number" 754,vs "row" 755]) (tN (oT (ti 1332 [10,1,1])) (tL oE) .nil) (tL (oT (ti 1764 [4,2]++[vs "constant" 1766])))) (tN LM (tL (oT [vr 716])) (tL (oT [vr 972]))))) (tN (oT [vs "EventList" 415,vi 276 416]) (tN (fo (sb 57) "need_row" "need_row" (vs "framerune.schema" 308) (vr 172)) (tN (cq "rule_parents" "rule_parents" 678 170 2 296 689) (tN (oT (ti 1218 [10,1,0,20])) (tL (oT [vr 1068])) .nil) (tL (oT (ti 1709 [11,1,1,4])))) (tN (oT [vs "ts" 928,vs "table" 929,vs "n" 930,vs "maps" 931,vs "number" 932]) (tL (oT (tr [683,684]))) (tL (oT (ti 1905 [24,3,0,2]))))) (tN (fz (sb 73) "table_text" "table_text") (tN (fo (sb 91) "rule_iface" "rule_iface" nA (vr 364)) (tL (oT (ti 1422 [42,1,3]))) (tL (oT [vr 876]))) (tN oE (tL (oT (ti 1621 [2,4,3,0]))) (tL (oT (ti 1999 [41,1]++[.int (-1) 2002,vr 1004]))))))) (tN (oT [vi 1 350,vr 60]) (tN (oT [vs "Name" 394,vi 4 316]) (tN (oT [vs "Flags" 470,vi 1 310]) (tN oE (tN (oT (ti 1154 [24,1,1]++[vs "M" 1157])) (tL (oT [vr 1052])) .nil) (tL (oT (tr [795,796])))) (tN oE (tL (oT [vr 668])) (tL (oT (tr [923,924]))))) (tN (oT [vs "ts" 567,vs "texts" 568,vs "blobs" 569,vs "told" 570]) (tN (fz (sb 89) "twice_members" "twice_members") (tL (oT (tr [598,599,600,601,602,603,604]))) (tL (oT [vr 860]))) (tN (LP P) (tL (oT (tr [730,732]))) (tL (oT [vr 988]))))) (tN (oT (tr [122,123,124])) (tN (oF (.none) []) (tN oE (tN (oT (ti 1279 [6,3,5,0])) (tL oE) .nil) (tL (oT (ti 1739 [4,2]++[vs "constant" 1741])))) (tN (fz (sb 103) "rule_nested" "rule_nested") (tL (oT (ti 1548 [4,2,2,1]))) (tL (oT (tr [954,956]))))) (tN (fo (sb 75) "rule_heaps" "rule_heaps" nA (vr 252)) (tN oE (tL (oT (ti 1459 [32,2]++[vs "single" 1461]))) (tL (oT (tr [891,892])))) (tN (cq "get" "PlainTables.get" 1038 391 3 504 1044) (tL (oT [vr 764])) (tL (oT [vr 1020])))))))))) (tN (⟨.none,none,.dict #[de P "type.__subclasses__.Exception.0" 288 (vi 31 0),de P "type.__subclasses__.Exception.n" 289 (vi 1 0)] 2,#[]⟩) (tN (boot_o_4 P) (tN (boot_o_8 P) (tN (oF (.type "builtin_function_or_method") [.builtin "type.__prepare__",.type "type"]) (tN (oF (.type "getset_descriptor") [vs "__weakref__" 285,vr 31,.builtin "ExceptionGroup.__weakref__",.none]) (tN (oT [vs "Name" 360,vi 4 316]) (tN (oT [vs "MethodDeclaration" 442,vi 516 443]) (tN (oT [vs "texts" 616,vs "blobs" 617,vs "table" 618,vs "column" 619,vs "offset" 620,vs "count" 621]) (tN (oF (.none) []) (tL (oT (ti 2029 [41,1]++[.int (-1) 2032,vr 1023]))) .nil) (tL (oT (tr [765,767])))) (tN (fo (sb 94) "rule_cctor" "rule_cctor" nA (vr 383)) (tL (oT (ti 1462 [2,1,1,19]))) (tL (oT (ti 1842 [42,3,0,2]))))) (tN (fz (sb 60) "column_place" "column_place") (tN oE (tN (oT (ti 1291 [18,1,1,2])) (tL (fo (sb 119) "_law_breach" "_law_breach" nC (vr 1087))) .nil) (tL (oT (ti 1746 [8,8,8])))) (tN oE (tL (oT [vr 703])) (tL (oT (ti 1937 [24,1]++[vs "semantics" 1939])))))) (tN (oT [vs "Interface" 398,vi 512 399]) (tN (oT (tr [156,157,158,159])) (tN (fo (sb 80) "coded_pair" "coded_pair" nA (vr 287)) (tN (oT (ti 1166 [24,3,2,4])) (tL (oT (tr [1053,1055]))) .nil) (tL (oT (ti 1692 [6,7]++[vs "body" 1694])))) (tN oE (tL (oT (ti 1507 [2,3,1,2]))) (tL (oT (ti 1888 [24,1]++[vs "semantics" 1890]))))) (tN (cq "check_tables" "check_tables" 564 94 3 219 571) (tN oE (tL (oT (ti 1385 [35,1,5]))) (tL (oT (ti 1796 [8,12,8])))) (tN (oF (.type "getset_descriptor") [vs "__weakref__" 1005,vr 478,.builtin "ExceptionGroup.__weakref__",.none]) (tL (oT (ti 1604 [2,3]++[vs "iface" 1606]))) (tL (oT (tr [989,991]))))))) (tN (oT [vi 2 191,vi 1 189,vi 27 219]) (tN (oT [vs "Flags" 380,vi 1 310]) (tN (oT [vs "MinorVersion" 457,vi 1 310]) (tN (fz (sb 78) "rule_maps" "rule_maps") (tN (oT (ti 1105 [1,1,0,5])) (tL (oT (ti 2066 [3,2]))) .nil) (tL (oT (ti 1670 [6,8,0,9])))) (tN (oF (.none) []) (tL (oT (ti 1483 [18,1]++[.int (-1) 1486,vr 655]))) (tL (oT (ti 1866 [42,1,0,1]))))) (tN (oT [vi 23 213,vs "Name" 542]) (tN (cq "rule_names" "rule_names" 745 211 3 331 756) (tN (oT (ti 1341 [32,1,7])) (tL (co "law" "law" 2155 490 1 3 1101 true (vr 1103))) .nil) (tL (oT (ti 1767 [4,2,0,32790])))) (tN (oT [vs "self" 987,vs "value" 988,vs "place" 989]) (tL (oT (tr [717,719]))) (tL (oT (tr [974,975])))))) (tN (oT [vs "Name" 419,vi 4 316]) (tN (oT [vs "coded" 498,vs "table" 499,vs "row" 500,vs "pair" 501,vs "tag" 502,vs "named" 503]) (tN (oF (.none) []) (tN (oT (ti 1230 [2,2,3,13])) (tL (oT (ti 2112 [2,4,1,17]))) .nil) (tL (oT (ti 1716 [4,1]++[vs "constant" 1718])))) (tN (cq "association_type" "association_type" 925 335 3 427 933) (tL (oT (ti 1530 [1,2]++[vs "twice" 1532]))) (tL (oT (ti 1912 [20,1]++[vs "semantics" 1914]))))) (tN oE (tN (fz (sb 92) "root_row" "root_row") (tL (oT (ti 1426 [0,1]++[.int (-1) 1429,vr 623]))) (tL (oT (tr [877,879])))) (tN LS (tL (oT [vr 751])) (tL (oT [vr 1007]))))))) (tN (oT [vs "self" 276,vs "code" 277,vs "at" 278]) (tN (co "BadImage" "BadImage" 294 43 0 0 38 false .none) (tN (oT (tr [69,70,71])) (tN (oT [vs "BuildNumber" 450,vi 1 310]) (tN oE (tN LZ (tL (oT (tr [1027,1031]))) .nil) (tL (oT (ti 1660 [6,1]++[vs "body" 1662])))) (tN oE (tL (oT [vr 647])) (tL (oT [vr 903])))) (tN (oT (tr [195,196,197,198,199])) (tN (fz (sb 86) "owner_row" "owner_row") (tN (oT (ti 1317 [2,3,1])) (tL (oT [vs "rows" 2146,vs "table" 2147,vs "row" 2148,vs "place" 2149,vs "value" 2150,vs "old" 2151])) .nil) (tL (oT (ti 1757 [4,2]++[vs "constant" 1759])))) (tN (oF (.none) []) (tL (oT (ti 1566 [6,2,3,6]))) (tL (oT (ti 1947 [24,1,2,5])))))) (tN (oT [vs "Value" 409,vi 5 318]) (tN (oF (.none) []) (tN oE (tN (oT (ti 1198 [42,1,2,1])) (tL (oT (tr [1062,1063]))) .nil) (tL (oT (ti 1702 [6,2,1,4098])))) (tN (fz (sb 100) "right_meaning" "right_meaning") (tL (oT [vr 679])) (tL (oT (ti 1898 [24,2,0,3]))))) (tN (fo (sb 72) "rows_of" "rows_of" nA (vr 231)) (tN (oF (.none) []) (tL (oT (ti 1407 [10,1,1]))) (tL (oT (tr [869,871])))) (tN (co "PlainTables" "PlainTables" 1012 382 0 0 486 false .none) (tL (oT (ti 1614 [2,2,3,0]))) (tL (oT (ti 1992 [25,1]++[.int (-1) 1995,vr 999]))))))) (tN (oT [vi 6 195,vi 10 201]) (tN (oT [vs "Signature" 388,vi 5 318]) (tN (oT (tr [143,144,145,146,147,148,149,150,151])) (tN (cq "rule_tags" "rule_tags" 648 153 2 275 658) (tN (oT (ti 1134 [9,1,0]++[vs "T" 1137])) (tL (oT [vr 1047])) .nil) (tL (oT [vr 791]))) (tN (oT [vs "ts" 891,vs "texts" 892,vs "told" 893,vs "counts" 894,vs "seen" 895,vs "number" 896,vs "row" 897,vs "due" 898,vs "key" 899]) (tL (oT (ti 1498 [21,2]++[vs "map" 1500]))) (tL (oT [vr 919])))) (tN (oT [vi 4 193,vi 6 195,vi 10 201,vi 17 205,vi 23 213,vi 27 219,vi 43 229]) (tN (fo (sb 88) "rule_twice" "rule_twice" nA (vr 343)) (tL (oT (ti 1363 [10,1,2]))) (tL (oT [vr 855]))) (tN oE (tL (oT (ti 1594 [0,13,0]))) (tL (oT [vr 983]))))) (tN (oT [vs "Type" 430,vi 5 318]) (tN oE (tN (oT [vs "ts" 706,vs "told" 707,vs "table" 708,vs "place" 709,vs "other" 710,vs "rows" 711,vs "last" 712,vs "number" 713,vs "row" 714,vs "n" 715]) (tN (oT (ti 1259 [2,1,5,0])) (tL (co "_law_sound" "_law_sound" 2117 409 2 3 1077 true (vr 1079))) .nil) (tL (oT (tr [822,823])))) (tN (fo (sb 102) "rule_impls" "rule_impls" nA (vr 439)) (tL (oT (ti 1541 [4,3,1,4]))) (tL (oT (tr [948,951]))))) (tN (oF (.none) []) (tN (cq "rule_base" "rule_base" 824 269 3 371 833) (tL (oT [vr 631])) (tL (oT (ti 1831 [8,2]++[vs "param" 1833])))) (tN oE (tL (oT [vr 759])) (tL (oT (tr [1012,1015]))))))))) (tN (gL 138) (tN (co "RuneError" "RuneError" 263 38 0 0 18 false .none) (tN (oF (.type "builtin_function_or_method") [.builtin "type.__prepare__",.type "type"]) (tN (oT (tr [63,64,65,66,67])) (tN (⟨.type "dict",none,.dict #[⟨32,vi 32 221,vr 142⟩,⟨35,vi 35 223,vr 152⟩,⟨41,vi 41 225,vr 155⟩,⟨42,vi 42 227,vr 160⟩,⟨43,vi 43 229,vr 163⟩,⟨44,vi 44 231,vr 166⟩] 6,#[]⟩) (tN (fo (sb 76) "right_place" "right_place" nA (vr 259)) (tN (cq "count" "PlainTables.count" 1047 396 2 511 1052) (tL (oT (ti 2041 [41,1]++[vs "nested" 2043]))) .nil) (tL (oT [vr 771]))) (tN oE (tL (oT (tr [641,643]))) (tL (oT (tr [897,899]))))) (tN (oT [vi 2 191,vi 5 530,vi 6 195]) (tN oE (tN (oT (tr [567,568,569,570,571,572,573,574,575,576,577,578,579])) (tL (co "_law_nameless" "_law_nameless" 2137 463 2 3 1089 true (vr 1091))) .nil) (tL (oT [vr 835]))) (tN (oF (.none) [vi 368 0,vi 4 0,vr 460,vi 371 0,vi 4 0,vr 467,vi 378 0,vi 4 0,vr 474]) (tL (oT (tr [706,707]))) (tL (oT [vr 963]))))) (tN (oT [vs "Signature" 404,vi 5 318]) (tN (oT [vs "Owner" 477,vi 298 478]) (tN oE (tN (oT (ti 1182 [25,1,2,5])) (tL oE) .nil) (tL (oT [vr 803]))) (tN oE (tL (oT (tr [673,675]))) (tL (oT [vr 931])))) (tN (oT [vs "ts" 577,vs "table" 578]) (tN (fz (sb 90) "is_interface" "is_interface") (tL (oT (ti 1395 [1,2,1]))) (tL (oT (tr [866,867])))) (tN (oF (.type "builtin_function_or_method") [.builtin "type.__prepare__",.type "type"]) (tL (oT [vr 739])) (tL (oT (ti 1989 [25,2]++[vs "impl" 1991]))))))) (tN (oT [vi 2 191,vi 1 189,.int (-1) 344,vi 6 195,vi 27 219]) (tN (oT [vs "RVA" 384,vi 2 312]) (tN (oT [vs "PublicKeyOrToken" 461,vi 5 318]) (tN (oF (.none) []) (tN (oT (ti 1121 [9,1,1,7])) (tL (oT (ti 2071 [41,3]++[vs "nested" 2073]))) .nil) (tL (oT (tr [785,787])))) (tN (cq "rule_params" "rule_params" 874 297 2 399 885) (tL (oT (tr [657,659]))) (tL (oT (tr [913,915]))))) (tN (oT (tr [201,202,203,204,205,206,207,208,209,210,211])) (tN (oT [vs "ts" 762,vs "texts" 763,vs "blobs" 764,vs "told" 765,vs "enclosed" 766,vs "row" 767,vs "seen" 768,vs "number" 769,vs "key" 770]) (tL (oT (ti 1353 [42,3,3]))) (tL (oT (tr [849,851])))) (tN (fo (eP (da (sb 105)) 1) "put" "PlainHeap.put" nB (vr 467)) (tL (oT (ti 1584 [20,2]++[vs "twice" 1586]))) (tL (oT (ti 1965 [25,1]++[vs "impl" 1967])))))) (tN (oT [vs "PropertyList" 425,vi 279 426]) (tN (fo (sb 58) "make_coded" "make_coded" (vs "framerune.schema" 308) (vr 179)) (tN (cq "names_row" "names_row" 692 179 4 303 700) (tN (oT (ti 1246 [20,1,2,13])) (tL (oT (tr [628,633,639,644,649,654,660,666,671,676,681,685,690,695,700,705,711,715,720,727,733,738,743,748,753,758,763,768,773,778,783,788,793,797,802,807,812,819,825,831,837,842,847,852,857,862,868,875,880,885,890,895,900,905,911,916,921,925,930,935,940,946,952,957,962,967,971,977,982,987,992,998,1003,1009,1016,1022,1032,1037,1046,1051,1056,1061,1066,1071,1075]))) .nil) (tL (oT (ti 1722 [11,1,1,5])))) (tN (oT [vs "ts" 939,vs "told" 940,vs "seen" 941,vs "number" 942,vs "row" 943,vs "table" 944,vs "n" 945]) (tL (oT (ti 1537 [1,2,2,19]))) (tL (oT [vr 947])))) (tN (fz (sb 74) "table_blob" "table_blob") (tN (oF (.none) []) (tL (oT (tr [625,627]))) (tL (oT [vr 883]))) (tN oE (tL (oT (ti 1632 [2,3]++[vs "base" 1634]))) (tL (oT [vr 1011]))))))) (tN LL (tN PK (tN (oT [vs "Extends" 373,vi 512 374]) (tN (oT [vs "Name" 454,vi 4 316]) (tN oE (tN (oF (.type "builtin_function_or_method") [.builtin "object.__init_subclass__",vr 520]) (tL oE) .nil) (tL (oT [vr 779]))) (tN (fz (sb 96) "rule_constants" "rule_constants") (tL (oT (ti 1480 [2,1]++[vs "module" 1482]))) (tL (oT (ti 1860 [42,2]++[vs "number" 1862]))))) (tN (oT [vi 4 193,vs "Name" 538]) (tN (oF (.none) []) (tN (oT (ti 1329 [8,2,2])) (tL (fo (sb 121) "_law_edit" "_law_edit" nC (vr 1099))) .nil) (tL (oT [vr 843]))) (tN (cq "__init__" "PlainHeap.__init__" 976 368 2 455 981) (tL (oT (ti 1570 [23,2,2,6]))) (tL (oT (ti 1951 [18,1,0,4])))))) (tN (oT [vs "Parent" 413,vi 258 414]) (tN (cq "need_row" "need_row" 488 63 1 167 492) (tN (fz (sb 82) "rule_parents" "rule_parents") (tN (oT (ti 1214 [10,1,0,25])) (tL (oT (ti 2105 [24,1]++[.int (-1) 2108,vr 1067]))) .nil) (tL (oT (tr [809,811])))) (tN (oF (.none) []) (tL oE) (tL (oT (tr [937,939]))))) (tN oE (tN (cq "rule_iface" "rule_iface" 805 251 2 359 815) (tL (oT (ti 1419 [35,1,6]))) (tL (oT (ti 1813 [8,2,1,0])))) (tN (oT [vs "self" 1025]) (tL (oT (tr [745,747]))) (tL (oT (ti 2003 [4,3]))))))) (tN (oT [vi 2 191,vi 6 195]) (tN (oT [vs "Sequence" 393,vi 1 310]) (tN (oT [vs "Number" 469,vi 1 310]) (tN (oT [vs "sort" 664,vs "n" 665]) (tN (oT (ti 1150 [21,1,0,0])) (tL (oT (ti 2082 [21,1]++[.int (-2) 2085,vi 0 2086]))) .nil) (tL oE)) (tN (fo (sb 98) "rule_generics" "rule_generics" nA (vr 411)) (tL (oT (ti 1501 [18,1]++[.int (-1) 1504,vr 667]))) (tL oE))) (tN (oF (.none) []) (tN oE (tL (oT (ti 1375 [43,1,1]))) (tL (oT (ti 1785 [4,3]++[vs "constant" 1787])))) (tN (oT [vs "rows" 1001]) (tL (oT [vr 731])) (tL (oT (ti 1975 [25,1,0,4])))))) (tN (oT [vs "Association" 435,vi 515 436]) (tN oE (tN (fo (sb 84) "rule_lists" "rule_lists" nA (vr 315)) (tN (oT [vi 2 1275,vs "T" 1276,vi 5 1277,vs "M" 1278]) (tL (oT [vs "way" 2126,vs "x" 2127,vs "y" 2128,vs "rows" 2129,vs "edit" 2130,vs "row" 2131,vs "value" 2132,vs "spots" 2133])) .nil) (tL (oT (ti 1736 [11,1]++[vs "constant" 1738])))) (tN oE (tL (oT (tr [697,699]))) (tL (oT [vr 955])))) (tN (cq "rule_heaps" "rule_heaps" 598 123 4 247 610) (tN (oT [vs "ts" 839,vs "texts" 840,vs "blobs" 841,vs "told" 842,vs "number" 843,vs "row" 844]) (tL (oT [vr 635])) (tL (oT (ti 1838 [8,6,1,9])))) (tN (fz (eP (da (sb 106)) 2) "get" "PlainTables.get") (tL (oT (ti 1642 [6,5,4,4]))) (tL (oT (ti 2026 [41,2]++[vs "nested" 2028])))))))))) (tN (boot_o_6 P) (tN (boot_o_10 P) (tN oE (tN (oF (.type "builtin_function_or_method") [.builtin "object.__init_subclass__",vr 31]) (tN (oT [vs "EncId" 362,vi 6 320]) (tN (oT [vs "Signature" 445,vi 5 318]) (tN (fz (sb 76) "right_place" "right_place") (tN oE (tL (oT (ti 2035 [41,1]++[.int (-1) 2038,vr 1025]))) .nil) (tL (oT [vr 769]))) (tN (oF (.none) []) (tL (oT (ti 1466 [2,1]++[vs "module" 1468]))) (tL (oT (ti 1846 [42,3]++[vs "number" 1848]))))) (tN (fo (sb 60) "column_place" "column_place" (vs "framerune.schema" 308) (vr 193)) (tN (cq "list_range" "list_range" 719 200 5 317 728) (tN (oT (ti 1299 [21,1,1,0])) (tL (oF (.none) [])) .nil) (tL (oT [vr 833]))) (tN (⟨.type "dict",none,.dict #[de P "__module__" 971 nB,de P "__qualname__" 973 (vs "PlainHeap" 972),de P "__firstlineno__" 975 (vi 366 974),de P "__init__" 983 (vr 461),de P "put" 992 (vr 468),de P "get" 1000 (vr 475),de P "__static_attributes__" 1002 (vr 476)] 7,#[]⟩) (tL (oT (ti 1555 [6,2,3,6]))) (tL (oT (tr [959,961])))))) (tN (oT [vs "Class" 401,vi 514 402]) (tN (oT [vs "Instantiation" 476,vi 5 318]) (tN (oF (.none) []) (tN (oT (ti 1174 [25,1,0]++[vs "T" 1177])) (tL (oT (ti 2090 [25,1]++[.int (-1) 2093,vr 1057]))) .nil) (tL (oT (tr [799,801])))) (tN (cq "rule_semantics" "rule_semantics" 903 318 2 413 914) (tL (oT (ti 1511 [2,3]++[vs "twice" 1513]))) (tL (oT (tr [927,929]))))) (tN oE (tN (oT [vs "row" 801]) (tL (oT (tr [606,607,608,609]))) (tL (oT (tr [863,865])))) (tN (oF (.type "builtin_function_or_method") [.builtin "object.__init_subclass__",vr 478]) (tL (oT (tr [735,737]))) (tL (oT (ti 1982 [25,1]++[.int (-1) 1985,vr 993]))))))) (tN (oT [vi 4 193,vi 8 197,vi 23 213]) (tN (oT [vs "Signature" 382,vi 5 318]) (tN (oT [vs "RevisionNumber" 459,vi 1 310]) (tN (fo (sb 78) "rule_maps" "rule_maps" nA (vr 273)) (tN (oT (ti 1113 [10,1,0,10])) (tL (oT (tr [1039,1041]))) .nil) (tL (oT (ti 1674 [6,8]++[vs "body" 1676])))) (tN oE (tL (oT (ti 1489 [18,2]++[vs "map" 1491]))) (tL (oT (ti 1870 [42,1]++[vs "number" 1872]))))) (tN (oT [vi 35 223,vs "Name" 544]) (tN oE (tL (oT (ti 1347 [35,1,6]))) (tL (oT (ti 1771 [11,1]++[vs "constant" 1773])))) (tN (fz (eP (da (sb 105)) 1) "put" "PlainHeap.put") (tL (oT (ti 1577 [20,1]++[.int (-1) 1580,vr 721]))) (tL (oT (ti 1961 [25,1,1,3])))))) (tN (oT (tr [111,112,113])) (tN (fz (sb 58) "make_coded" "make_coded") (tN oE (tN (oT (ti 1238 [11,1,1,0])) (tL oE) .nil) (tL (oT (tr [815,816,817])))) (tN oE (tL (oT (tr [687,689]))) (tL (oT (tr [942,945]))))) (tN (oT [vs "blobs" 593,vs "offset" 594]) (tN (fo (sb 92) "root_row" "root_row" nA (vr 369)) (tL (oT (ti 1435 [0,2]++[vs "single" 1437]))) (tL (oT [vr 881]))) (tN (oF (.none) []) (tL (oT (ti 1628 [2,3,0,129]))) (tL (oT (ti 2012 [2,4])))))))) (tN (fz (eP (da (sb 37)) 0) "__init__" "RuneError.__init__") (tN oE (tN (oT [vs "TypeName" 371,vi 4 316]) (tN (oT [vs "Flags" 452,vi 2 312]) (tN (cq "rule_single" "rule_single" 625 139 3 261 633) (tN (oF (.type "getset_descriptor") [vs "__weakref__" 1059,vr 520,.builtin "ExceptionGroup.__weakref__",.none]) (tL (oT (ti 2050 [41,1]++[.int (-1) 2053,vr 1033]))) .nil) (tL (oT (tr [775,777])))) (tN (oT [vs "ts" 862,vs "told" 863,vs "seen" 864,vs "number" 865,vs "row" 866,vs "table" 867,vs "n" 868,vs "given" 869,vs "unfit" 870]) (tL (oT (ti 1476 [2,1,3,5]))) (tL (oT (ti 1856 [42,2,0,1]))))) (tN (oT [vi 1 189,vs "TypeName" 536]) (tN (fo (sb 86) "owner_row" "owner_row" nA (vr 329)) (tN (oT (ti 1323 [4,3,1])) (tL (fz (sb 121) "_law_edit" "_law_edit")) .nil) (tL (oT (tr [839,841])))) (tN oE (tL oE) (tL oE)))) (tN (oT [vs "Signature" 411,vi 5 318]) (tN oE (tN (oT [vs "ts" 681,vs "told" 682,vs "table" 683,vs "place" 684,vs "column" 685,vs "may_none" 686,vs "number" 687,vs "row" 688]) (tN (oT (ti 1206 [44,1,0,4])) (tL (oT (tr [1064,1065]))) .nil) (tL (oT (ti 1706 [6,2]++[vs "body" 1708])))) (tN (fo (sb 100) "right_meaning" "right_meaning" nA (vr 425)) (tL (oT (ti 1522 [41,1,1,3]))) (tL (oT (ti 1902 [24,2]++[vs "semantics" 1904]))))) (tN (oF (.none) []) (tN oE (tL (oT (ti 1413 [23,1,1]))) (tL (oT [vr 873]))) (tN oE (tL (oT (ti 1618 [2,2]++[vs "base" 1620]))) (tL oE))))) (tN (oT [vi 0 187,.int (-1) 349,vi 35 223,vi 1 189]) (tN (oT (tr [84,85,86,87,88,89])) (tN (oT [vs "EnclosingClass" 467,vi 258 468]) (tN oE (tN (oT (ti 1142 [9,1,1,0])) (tL (oT [vr 1049])) .nil) (tL (oT (ti 1684 [6,8,1,4097])))) (tN (fz (sb 98) "rule_generics" "rule_generics") (tL (oT (tr [663,665]))) (tL (oT (ti 1880 [42,3,2,6]))))) (tN (oT (ti 561 [0,0]++[vi 1 235])) (tN (oF (.none) []) (tL (oT (ti 1369 [23,1,2]))) (tL (oT (ti 1781 [4,3,0,86])))) (tN (cq "get" "PlainHeap.get" 993 378 2 469 998) (tL (oT [vr 729])) (tL (oT [vr 985]))))) (tN (oT [vs "Semantics" 432,vi 1 310]) (tN (cq "split_coded" "split_coded" 507 73 2 181 514) (tN (fz (sb 84) "rule_lists" "rule_lists") (tN (oT (ti 1267 [2,4,5,6])) (tL oE) .nil) (tL (oT (ti 1732 [11,1,1,6])))) (tN (oF (.none) []) (tL (oT (ti 1545 [4,3]++[vs "twice" 1547]))) (tL (oT [vr 953])))) (tN oE (tN oE (tL (oT (ti 1450 [0,0,0,0,0,0,0,2,0]))) (tL (oT (tr [887,889])))) (tN (oT [vs "self" 1041,vs "table" 1042,vs "n" 1043]) (tL (oT [vr 761])) (tL (oT (ti 2020 [41,1]++[.int (-1) 2023,vr 1017]))))))))) (tN (⟨.type "frame",none,.plain,#[some (vr 13),some (vr 3),some (vr 3),none,some (vs "__main__" 164),none,some (vr 0)]⟩) (tN oE (tN oE (tN (oT [vs "TypeName" 367,vi 4 316]) (tN (oT [vs "MajorVersion" 448,vi 1 310]) (tN (oF (.none) []) (tN (oT [vs "rows" 1055]) (tL (oT (ti 2047 [41,3]++[vs "nested" 2049]))) .nil) (tL (oT (ti 1656 [6,1,0,0])))) (tN (cq "rule_bodies" "rule_bodies" 848 280 2 385 856) (tL (oT [vr 645])) (tL (oT [vr 901])))) (tN (oT [vi 18 207,vi 1 532,vi 20 209]) (tN (oT [vs "ts" 734,vs "table" 735,vs "place" 736,vs "other" 737,vs "n" 738,vs "number" 739,vs "first" 740,vs "end" 741]) (tN (oT (ti 1311 [1,2,1])) (tL oE) .nil) (tL (oT (ti 1752 [11,1]++[.int (-2) 1755,vi 0 1756])))) (tN (⟨.type "frame",none,.plain,#[some (vr 453),some (vr 3),some (vr 450),none,some nB,none,some (vr 0)]⟩) (tL (oT [vr 709])) (tL (oT [vr 965]))))) (tN (oT [vs "Type" 406,vi 3 314]) (tN (oT (tr [164,165])) (tN (cq "is_list_column" "is_list_column" 669 165 2 289 675) (tN (oT (ti 1190 [41,1,0,0])) (tL (oT (ti 2097 [1,2,1,17]))) .nil) (tL (oT [vr 805]))) (tN (oT [vs "meaning" 920,vs "table" 921]) (tL (oT [vr 677])) (tL (oT [vr 933])))) (tN (fz (sb 72) "rows_of" "rows_of") (tN (fo (sb 90) "is_interface" "is_interface" nA (vr 357)) (tL (oT (ti 1401 [4,3,1]))) (tL (oT (ti 1807 [8,12,8])))) (tN oE (tL (oT [vr 741])) (tL (oT (tr [995,997]))))))) (tN (oT [vi 20 209,vi 23 213]) (tN (oT [vs "Flags" 386,vi 1 310]) (tN (oT [vs "Culture" 463,vi 4 316]) (tN oE (tN (oT (ti 1129 [20,1,2,11])) (tL (oT (tr [1042,1045]))) .nil) (tL (oT [vr 789]))) (tN oE (tL (oT (ti 1492 [21,1]++[.int (-1) 1495,vr 661]))) (tL (oT [vr 917])))) (tN (oT [vi 20 209,vs "EventType" 548]) (tN (fz (sb 88) "rule_twice" "rule_twice") (tL (oT (ti 1357 [4,1,2]))) (tL (oT [vr 853]))) (tN (oF (.none) []) (tL (oT (tr [724,725]))) (tL (oT (tr [979,981])))))) (tN (oT [vs "Flags" 428,vi 1 310]) (tN (oF (.none) []) (tN oE (tN (oT (tr [536,537,538,539,540,541,542,543,544,545,546,547,548,549,550,551,552,553,554,555,556,557,558,559,560,561,562,563,564,565])) (tL (oF (.none) [])) .nil) (tL (oT (ti 1726 [11,1]++[vs "constant" 1728])))) (tN (fz (sb 102) "rule_impls" "rule_impls") (tL oE) (tL (oT (ti 1922 [20,1]++[vs "semantics" 1924]))))) (tN (fo (sb 74) "table_blob" "table_blob" nA (vr 245)) (tN oE (tL (oT [vr 629])) (tL (oT (ti 1827 [8,1,1,3])))) (tN (cq "add" "PlainTables.add" 1029 387 3 497 1035) (tL (oT (tr [755,757]))) (tL (oT (ti 2017 [41,2]++[vs "nested" 2019])))))))) (tN (⟨.type "dict",none,.dict #[de P "__module__" 268 (vs "framerune.faults" 259),de P "__firstlineno__" 272 (vi 38 271),de P "__init__" 281 (vr 28),de P "__static_attributes__" 284 (vr 29),de P "__weakref__" 286 (vr 32),de P "__doc__" 287 (.none)] 3,#[]⟩) (tN (oF (.type "builtin_function_or_method") [.builtin "object.__init_subclass__",vr 44]) (tN (oT [vs "MethodList" 377,vi 262 378]) (tN (oT (tr [133,134,135,136,137,138,139,140,141])) (tN (oT [vs "ts" 639,vs "told" 640,vs "table" 641,vs "seen" 642,vs "number" 643,vs "row" 644]) (tN (oT [.bytes #[] 1091,.bytes #[6,8] 1092,.bytes #[6,2] 1093,.bytes #[0,0,1] 1094,.bytes #[32,0,1] 1095,.bytes #[32,0,8] 1096,.bytes #[40,0,8] 1097,.bytes #[40,0,2] 1098,.bytes #[1] 1099]) (tL (oT (ti 2060 [2,3]))) .nil) (tL (oT [vr 781]))) (tN (fo (sb 96) "rule_constants" "rule_constants" nA (vr 397)) (tL (oT (tr [651,653]))) (tL (oT (tr [908,909]))))) (tN (oT [vi 10 201,vs "Name" 540]) (tN oE (tN (oT (ti 1335 [20,1,1])) (tL (oF (.none) [])) .nil) (tL (oT [vr 845]))) (tN oE (tL (oT (ti 1574 [23,2]++[vs "twice" 1576]))) (tL (oT (ti 1955 [24,3]++[vs "semantics" 1957])))))) (tN (oT (tr [108,109])) (tN oE (tN (fo (sb 82) "rule_parents" "rule_parents" nA (vr 301)) (tN (oT (ti 1222 [1,1,0,10])) (tL oE) .nil) (tL (oT [vr 813]))) (tN oE (tL (oT (ti 1526 [1,2,1,17]))) (tL (oT [vr 941])))) (tN (cq "table_text" "table_text" 582 119 2 233 587) (tN oE (tL (oT (tr [611,612,613,614,615,616,617,618,619,620,621]))) (tL (oT (ti 1817 [8,2]++[vs "param" 1819])))) (tN (fz (eP (da (sb 106)) 0) "__init__" "PlainTables.__init__") (tL (oT [vr 749])) (tL (oT [vr 1005])))))) (tN (⟨.type "dict",none,.dict #[⟨0,vi 0 187,vr 68⟩,⟨1,vi 1 189,vr 72⟩,⟨2,vi 2 191,vr 79⟩,⟨4,vi 4 193,vr 83⟩,⟨6,vi 6 195,vr 90⟩,⟨8,vi 8 197,vr 94⟩,⟨9,vi 9 199,vr 97⟩,⟨10,vi 10 201,vr 101⟩,⟨11,vi 11 203,vr 105⟩,⟨17,vi 17 205,vr 107⟩,⟨18,vi 18 207,vr 110⟩,⟨20,vi 20 209,vr 114⟩,⟨21,vi 21 211,vr 117⟩,⟨23,vi 23 213,vr 121⟩,⟨24,vi 24 215,vr 125⟩,⟨25,vi 25 217,vr 129⟩,⟨27,vi 27 219,vr 131⟩,⟨32,vi 32 221,vr 142⟩,⟨35,vi 35 223,vr 152⟩,⟨41,vi 41 225,vr 155⟩,⟨42,vi 42 227,vr 160⟩,⟨43,vi 43 229,vr 163⟩,⟨44,vi 44 231,vr 166⟩] 23,#[]⟩) (tN (oT (tr [91,92,93])) (tN (oT [vs "Owner" 471,vi 518 472]) (tN (fz (sb 80) "coded_pair" "coded_pair") (tN (oT (ti 1158 [24,1,1,0])) (tL (oT (ti 2087 [23,1]++[vs "list" 2089]))) .nil) (tL (oT (ti 1688 [6,7,2,70])))) (tN (oF (.none) []) (tL oE) (tL (oT (ti 1884 [24,1,0,8]))))) (tN oE (tN (cq "twice_members" "twice_members" 774 237 7 345 795) (tL (oT (ti 1379 [11,1,2]))) (tL (oT (tr [859,861])))) (tN LQ (tL (oT (ti 1600 [2,3,3,5]))) (tL (oT (ti 1979 [25,1]++[vs "impl" 1981])))))) (tN (oT [vs "Class" 438,vi 258 439]) (tN (oT [vs "table" 520,vs "name" 521,vs "place" 522,vs "column" 523]) (tN (oF (.none) []) (tN (oT (ti 1283 [6,6,5,4])) (tL (fz (sb 119) "_law_breach" "_law_breach")) .nil) (tL (oT (tr [828,829])))) (tN (cq "rule_nested" "rule_nested" 949 350 2 441 959) (tL (oT [vr 701])) (tL (oT (ti 1933 [24,1,1,8]))))) (tN oE (tN (fz (sb 94) "rule_cctor" "rule_cctor") (tL (oT [vr 637])) (tL oE)) (tN LV (tL (oT (ti 1646 [6,5]++[vs "cctor" 1648]))) (tL (oT (tr [1019,1021])))))))))))
noncomputable def BV(n:Nat):BT->Nat->Nat->BT
 |.nil,_,_=>.nil
 |.node v l r,o,s=>match Nat.blt o n with
  |true=>.node v (BV n l (o+s) (2*s)) (BV n r (o+2*s) (2*s))
  |false=>.nil
noncomputable def k8(P:Params)(n:Nat)(g c:Obj):BT:=((BV n (hT P) 0 1).set 3 λO=>g).set 12 λO=>c
noncomputable def t4(P:Params):BT:=((BV 15 (hT P) 0 1).set 2 λO=>boot_o_2 P).set 3 (λO=>boot_o_3 P) |>.set 12 λO=>gL 0
noncomputable def t5(P:Params):BT:=(k8 P 15 (hV P 44 (vs "framerune.faults" 259) 45) (gL 0)).set 2 λO=>boot_o_2 P
noncomputable def PM(P:Params):BT:=(k8 P 35 (hV P 45 (vs "framerune.faults" 259) 46) (gL 3)).set 31 λO=>Rg
noncomputable def DY(P:Params):BT:=k8 P 47 (hV P 61 (vs "framerune.schema" 308) 62) (gL 6)
noncomputable def uB(P:Params):BT:=k8 P 62 (hV P 62 (vs "framerune.schema" 308) 63) (gL 6)
noncomputable def xw(P:Params):BT:=k8 P 167 (hV P 63 (vs "framerune.schema" 308) 64) (gL 6)
noncomputable def L3(P:Params):BT:=k8 P 226 (hV P 77 nA 78) (gL 21)
noncomputable def L4(P:Params):BT:=k8 P 310 (hV P 89 nA 90) (gL 57)
noncomputable def L5(P:Params):BT:=k8 P 385 (hV P 100 nA 101) (gL 90)
noncomputable def L6(P:Params):BT:=k8 P 448 (hV P 109 nB 110) (gL 117)
noncomputable def L7(P:Params):BT:=k8 P 483 (hV P 110 nB 111) (gL 120)
noncomputable def L8(P:Params):BT:=k8 P 527 (hV P 113 nC 114) (gL 123)
noncomputable def L9(P:Params):BT:=k8 P 581 (hV P 116 nC 117) (gL 123)
noncomputable def Ma(P:Params):BT:=k8 P 623 (hV P 120 nC 121) (gL 123)
noncomputable def HA(P:Params):BT:=k8 P 1077 (hV P 121 nC 122) (gL 123)
end FR
end
section
set_option backward.match.sparseCases true
set_option maxRecDepth 100000
set_option maxHeartbeats 0
open PySem PySem.W PyProof.Rows
namespace FR
noncomputable abbrev L0:Life:=Life.mk [] [] [] 0 [] [] Bool.false #[] [] 0 Bool.false Bool.false Bool.false 0 [2000,10,10] Bool.false 0 Bool.true [] [] 0 Bool.false
noncomputable def hW:Env:={scope:=pw.main.scope,locals:=mainNs,globals:=mainNs,cells:=[],code:=.ref 13,frame:=some 14}
noncomputable abbrev eB(b:List Stmt):Code:=.body b hW
noncomputable abbrev cO(t:Params->BT)(n k:Nat)(w:World)(os:OsState):SharedT:=⟨t w.params,n,L0,#[],⟨0,0,0,0⟩,k,os⟩
noncomputable abbrev F0:List Frame:=[topFrame p0]
noncomputable abbrev dG(i j:Nat):List Stmt:=(pw.main.body.drop i).take j
noncomputable abbrev f7(i j:Nat)(b:List Stmt)(p:Pos):Thread:=piecesOf (dG i j) hW (eB b) p F0
noncomputable abbrev f9:=Fast.tw10110043849684766642 Fast.tw14364793385576792824
theorem OQ:segRunT treeTable=f9:=congr Fast.te10110043849684766642 Fast.te14364793385576792824
theorem PN(r:String){P:World->Prop}(h:∀(w:World) (f:Bool),P (w.withFollow r f))(w:World):P w:=by
 have e:w=w.withFollow r (w.params.followText r):=by
  cases w with | mk d q=>cases q;simp only [World.withFollow];congr;funext x;split<;>simp_all
 rw[e];exact h w _
theorem Ti(w:World)(p:Program)(b:List Stmt)(os:OsState):f9 p w 11 (some (.ref 6)) 1 334 (cO t4 15 187 w os) (f7 0 37 b ⟨0,0,0,0⟩)=some (.next,cO t5 15 261 w os,eB b,⟨37,0,37,8⟩):=by kernel_rfl
theorem Tj(w:World)(p:Program)(b:List Stmt)(os:OsState):f9 p w 11 (some (.ref 6)) 1 231 (cO t5 15 261 w os) (f7 37 1 b ⟨37,0,37,8⟩)=some (.next,cO PM 35 292 w os,eB b,⟨38,0,42,20⟩):=by kernel_rfl
theorem Tn(w:World)(p:Program)(b:List Stmt)(os:OsState):f9 p w 11 (some (.ref 6)) 1 358 (cO PM 35 292 w os) (f7 38 17 b ⟨38,0,42,20⟩)=some (.next,cO DY 47 340 w os,eB b,⟨60,0,60,18⟩):=by kernel_rfl
theorem Rh(w:World)(p:Program)(b:List Stmt)(os:OsState):f9 p (w.withFollow "special-get-raises" false) 11 (some (.ref 6)) 1 187 (cO DY 47 340 (w.withFollow "special-get-raises" false) os) (f7 55 1 b ⟨60,0,60,18⟩)=some (.next,cO uB 62 359 (w.withFollow "special-get-raises" false) os,eB b,⟨61,0,61,5⟩):=by kernel_rfl
theorem Ri(w:World)(p:Program)(b:List Stmt)(os:OsState):f9 p (w.withFollow "special-get-raises" true) 11 (some (.ref 6)) 1 187 (cO DY 47 340 (w.withFollow "special-get-raises" true) os) (f7 55 1 b ⟨60,0,60,18⟩)=some (.next,cO uB 62 359 (w.withFollow "special-get-raises" true) os,eB b,⟨61,0,61,5⟩):=by kernel_rfl
theorem Tp(w:World):∀(p:Program)(b:List Stmt)(os:OsState),f9 p w 11 (some (.ref 6)) 1 187 (cO DY 47 340 w os) (f7 55 1 b ⟨60,0,60,18⟩)=some (.next,cO uB 62 359 w os,eB b,⟨61,0,61,5⟩):=PN "special-get-raises" (P:=λw=>∀(p:Program) (b:List Stmt) (os:OsState),f9 p w 11 (some (.ref 6)) 1 187 (cO DY 47 340 w os) (f7 55 1 b ⟨60,0,60,18⟩)=some (.next,cO uB 62 359 w os,eB b,⟨61,0,61,5⟩)) (λw f=>match f with | false=>Rh w | true=>Ri w) w
theorem Rj(w:World)(p:Program)(b:List Stmt)(os:OsState):f9 p (w.withFollow "special-get-raises" false) 11 (some (.ref 6)) 1 974 (cO uB 62 359 (w.withFollow "special-get-raises" false) os) (f7 56 1 b ⟨61,0,61,5⟩)=some (.next,cO xw 167 488 (w.withFollow "special-get-raises" false) os,eB b,⟨62,0,62,7⟩):=by kernel_rfl
theorem Rk(w:World)(p:Program)(b:List Stmt)(os:OsState):f9 p (w.withFollow "special-get-raises" true) 11 (some (.ref 6)) 1 974 (cO uB 62 359 (w.withFollow "special-get-raises" true) os) (f7 56 1 b ⟨61,0,61,5⟩)=some (.next,cO xw 167 488 (w.withFollow "special-get-raises" true) os,eB b,⟨62,0,62,7⟩):=by kernel_rfl
theorem Tq(w:World):∀(p:Program)(b:List Stmt)(os:OsState),f9 p w 11 (some (.ref 6)) 1 974 (cO uB 62 359 w os) (f7 56 1 b ⟨61,0,61,5⟩)=some (.next,cO xw 167 488 w os,eB b,⟨62,0,62,7⟩):=PN "special-get-raises" (P:=λw=>∀(p:Program) (b:List Stmt) (os:OsState),f9 p w 11 (some (.ref 6)) 1 974 (cO uB 62 359 w os) (f7 56 1 b ⟨61,0,61,5⟩)=some (.next,cO xw 167 488 w os,eB b,⟨62,0,62,7⟩)) (λw f=>match f with | false=>Rj w | true=>Rk w) w
theorem Ts(w:World)(p:Program)(b:List Stmt)(os:OsState):f9 p w 11 (some (.ref 6)) 1 377 (cO xw 167 488 w os) (f7 57 15 b ⟨62,0,62,7⟩)=some (.next,cO L3 226 574 w os,eB b,⟨94,0,116,15⟩):=by kernel_rfl
theorem Tt(w:World)(p:Program)(b:List Stmt)(os:OsState):f9 p w 11 (some (.ref 6)) 1 394 (cO L3 226 574 w os) (f7 72 12 b ⟨94,0,116,15⟩)=some (.next,cO L4 310 703 w os,eB b,⟨179,0,187,56⟩):=by kernel_rfl
theorem Tu(w:World)(p:Program)(b:List Stmt)(os:OsState):f9 p w 11 (some (.ref 6)) 1 386 (cO L4 310 703 w os) (f7 84 11 b ⟨179,0,187,56⟩)=some (.next,cO L5 385 848 w os,eB b,⟨275,0,279,64⟩):=by kernel_rfl
theorem Tv(w:World)(p:Program)(b:List Stmt)(os:OsState):f9 p w 11 (some (.ref 6)) 1 322 (cO L5 385 848 w os) (f7 95 10 b ⟨275,0,279,64⟩)=some (.next,cO L6 448 964 w os,eB b,⟨365,0,365,8⟩):=by kernel_rfl
theorem Tw(w:World)(p:Program)(b:List Stmt)(os:OsState):f9 p w 11 (some (.ref 6)) 1 288 (cO L6 448 964 w os) (f7 105 1 b ⟨365,0,365,8⟩)=some (.next,cO L7 483 1010 w os,eB b,⟨366,0,381,31⟩):=by kernel_rfl
theorem Rl(w:World)(p:Program)(b:List Stmt)(os:OsState):f9 p w 11 (some (.ref 6)) 1 382 (cO L7 483 1010 w os) (f7 106 4 b ⟨366,0,381,31⟩)=some (.next,cO L8 527 1101 w os,eB b,⟨400,0,400,10⟩):=by kernel_rfl
theorem Rm(w:World)(p:Program)(b:List Stmt)(os:OsState):f9 p w 11 (some (.ref 6)) 1 337 (cO L8 527 1101 w os) (f7 110 3 b ⟨400,0,400,10⟩)=some (.next,cO L9 581 1308 w os,eB b,⟨403,0,403,10⟩):=by kernel_rfl
theorem Rn(w:World)(p:Program)(b:List Stmt)(os:OsState):f9 p w 11 (some (.ref 6)) 1 231 (cO L9 581 1308 w os) (f7 113 4 b ⟨403,0,403,10⟩)=some (.next,cO Ma 623 1426 w os,eB b,⟨407,0,407,13⟩):=by kernel_rfl
theorem Ro(w:World)(p:Program)(b:List Stmt)(os:OsState):f9 p w 11 (some (.ref 6)) 1 149 (cO HA 1077 2117 w os) (f7 118 5 b ⟨408,0,408,11⟩)=some (.next,cO hT 1106 2161 w os,eB b,⟨490,0,507,65⟩):=by kernel_rfl
end FR
end
section
set_option backward.match.sparseCases true
set_option maxRecDepth 100000
set_option maxHeartbeats 0
open PySem PySem.W PyProof.Rows
namespace FR
theorem iu{α β γ:Type}(m:Sem α)(f:α->Sem β)(K:β->Sem γ)(H:Value->Sem γ)(gd lv):(m >>= f).wrap K H gd lv=m.wrap (λa=>(f a).wrap K H gd lv) H gd lv:=by
 rw[Sem.bind_eq_wrap',Sem.wrap_wrap]
 rfl
noncomputable def BW:Value->Bool
 |.ref _=>true
 |_=>false
theorem BX{α:Type}(vs:List Value)(m:Sem α):holding vs m=match vs.filter BW with
  |[]=>m
  |refs=>m.keep refs:=by
 have:(λv=>match v with | Value.ref _=>true | _=>false)=BW:=by funext v;cases v<;>rfl
 rw[<-this]
 rfl
noncomputable def F9(vs:List Value)(lv:List Value->List Value):List Value->List Value:=match vs.filter BW with
 |[]=>lv
 |refs=>λl=>lv (refs++l)
theorem xx{α γ:Type}(vs:List Value)(m:Sem α)(K:α->Sem γ)(H:Value->Sem γ)(gd lv):(holding vs m).wrap K H gd lv=m.wrap K H gd (F9 vs lv):=by
 rw[BX,F9]
 cases vs.filter BW with
 |nil=>rfl
 |cons r rs=>
  show (m.keep (r::rs)).wrap K H gd lv=_
  rw[Sem.keep_eq_wrap,Sem.wrap_wrap]
  rfl
noncomputable def Ga(e:PySem.Expr):Option {q:List PySem.Expr×Nat×Pos // e=.Tuple q.1 q.2.1 q.2.2}:=match e with
 |.Tuple es k p=>some ⟨(es,k,p),rfl⟩
 |_=>none
section
variable{γ:Type}(env:Env)(H:Value->Sem γ)(gd:Bool->Bool)
noncomputable def cS(f:PySem.Expr->(Value->Sem γ)->(List Value->List Value)->Sem γ):List PySem.Expr->(List Value->Sem γ)->(List Value->List Value)->Sem γ
 |[],K,_=>K []
 |e::es,K,lv=>f e (λv=>cS f es (λvs=>K (v::vs)) (F9 [v] lv)) lv
noncomputable def cE:Nat->PySem.Expr->(Value->Sem γ)->(List Value->List Value)->Sem γ
 |0,e,K,lv=>(eval e env).wrap K H gd lv
 |n+1,e,K,lv=>match Ga e with
  |some q=>bif q.1.1.all bh then .at q.1.2.2 λO=>cS (cE n) q.1.1 (λvs=>(newTuple vs).wrap K H gd lv) lv else (eval e env).wrap K H gd lv
  |none=>(eval e env).wrap K H gd lv
variable{env H gd}
theorem uC(pos:Pos):∀{es:List PySem.Expr},es.all bh=true->backTo pos (starEach es env)=es.map λe=>(false,eval e env)
 |[],_=>rfl
 |e::es,h=>by
  have h:=b_ h
  rw[fE h.1,List.map_cons,<-uC pos h.2]
  rfl
theorem HB{f:PySem.Expr->(Value->Sem γ)->(List Value->List Value)->Sem γ}(hf:∀e K lv,f e K lv=(eval e env).wrap K H gd lv):∀(es:List PySem.Expr)(K:List Value->Sem γ)(lv),cS f es K lv=(spliced (es.map λe=>(false,eval e env))).wrap K H gd lv
 |[],K,lv=>rfl
 |e::es,K,lv=>by
  show f e _ lv=((eval e env >>= _:Sem (List Value))).wrap K H gd lv
  rw[hf,iu]
  refine congrArg (λk=>(eval e env).wrap k H gd lv) (funext λv=> ?_)
  show _=((holding [v] (spliced (es.map λe=>(false,eval e env))) >>= λvs=>pure ([v]++vs):Sem (List Value))).wrap K H gd lv
  rw[iu,xx]
  exact HB hf es _ _
theorem HC:∀(n:Nat)(e:PySem.Expr)(K:Value->Sem γ)(lv),cE env H gd n e K lv=(eval e env).wrap K H gd lv
 |0,_,_,_=>rfl
 |n+1,e,K,lv=>by
  show (match Ga e with
  |some q=>bif q.1.1.all bh then Sem.at q.1.2.2 λO=>cS (cE env H gd n) q.1.1 (λvs=>(newTuple vs).wrap K H gd lv) lv else (eval e env).wrap K H gd lv
  |none=>(eval e env).wrap K H gd lv)=_
  cases Ga e with
  |none=>rfl
  |some q=>
   obtain ⟨⟨es,kk,pos⟩,rfl⟩:=q
   show (bif es.all bh then Sem.at pos λO=>cS (cE env H gd n) es (λvs=>(newTuple vs).wrap K H gd lv) lv else (eval (.Tuple es kk pos) env).wrap K H gd lv)=_
   cases h:es.all bh with
   |false=>rfl
   |true=>
    show (Sem.at pos λO=>cS (cE env H gd n) es (λvs=>(newTuple vs).wrap K H gd lv) lv)=_
    rw[HB (HC n),arm_eval_Tuple,uC pos h,iu]
    refine congrArg (Sem.at pos) (funext λO=> ?_)
    show _=((spliced _ >>= _:Sem Value)).wrap K H gd lv
    rw[iu]
end
end FR
end
section
set_option backward.match.sparseCases true
set_option maxRecDepth 100000
set_option maxHeartbeats 0
open PySem PySem.W PyProof.Rows
namespace FR
theorem zy{γ:Type}{env:Env}{H:Value->Sem γ}{gd}{K:Flow->Sem γ}{lv}{targets:List Expr}{value:Expr}{pos:Pos}(n:Nat)(hs:swapsWithSole targets value pos.line env=pure false):
  (exec (.Assign targets value pos) env).wrap K H gd lv=Sem.at pos λO=>cE env H gd n value (λv=>(swappedStores targets value env >>= λst=>assignStores env v st ((assignEach targets env).map (·.2))).wrap K H gd lv) lv:=by
 rw[arm_exec_Assign,hs,iu]
 show Sem.at pos _=_
 congr 1
 funext _
 show ((eval value env >>= _:Sem Flow)).wrap K H gd lv=_
 rw[iu,HC]
noncomputable def HD:Stmt->List Expr
 |.Assign t _ _=>t
 |_=>[]
noncomputable def HE:Stmt->Expr
 |.Assign _ v _=>v
 |_=>.Constant .none 0 p0
noncomputable def Mb:Stmt->Pos
 |.Assign _ _ p=>p
 |_=>p0
noncomputable abbrev ot:Stmt:=eP pw.main.body 117
noncomputable def Rp(f:Flow):Sem Fin:=match f with
 |.next=>(execs [] hW).wrap doneF deadEnd id id
 |f=>doneF f
noncomputable def Rq:Sem Fin:=Sem.at (Mb ot) λO=>cE hW deadEnd id 8 (HE ot) (λv=>(swappedStores (HD ot) (HE ot) hW >>= λst=>assignStores hW v st ((assignEach (HD ot) hW).map (·.2))).wrap Rp deadEnd id id) id
theorem Mc(b:List Stmt):f7 117 1 b ⟨407,0,407,13⟩=⟨Rq,eB b,⟨407,0,407,13⟩,F0⟩:=by
 have e1:dG 117 1=[.Assign (HD ot) (HE ot) (Mb ot)]:=by kernel_rfl
 have e2:swapsWithSole (HD ot) (HE ot) (Mb ot).line hW=pure false:=by kernel_rfl
 show Thread.mk ((execs (dG 117 1) hW).wrap doneF deadEnd id id) _ _ _=_
 rw[e1,execs_cons_wrap,zy 8 e2]
 rfl
theorem Rr(w:World)(p:Program)(b:List Stmt)(os:OsState):f9 p w 11 (some (.ref 6)) 1 1719 (cO Ma 623 1426 w os) (f7 117 1 b ⟨407,0,407,13⟩)=some (.next,cO HA 1077 2117 w os,eB b,⟨408,0,408,11⟩):=by
 rw[Mc]
 kernel_rfl
end FR
end
section
set_option backward.match.sparseCases true
set_option maxRecDepth 100000
set_option maxHeartbeats 0
open PySem PySem.W PyProof.Rows
namespace FR
theorem ko{w:World}{p:Program}{b:List Stmt}{i j N:Nat}{S S':SharedT}{q q':Pos}(h:f9 p w 11 (some (.ref 6)) 1 N S (f7 i j b q)=some (.next,S',eB b,q')):
  segRun treeTable p w 11 (some (.ref 6)) 1 N S.abs (piecesOf (dG i j) hW (eB b) q F0)=some (.next,S'.abs,eB b,q'):=segRun_of (by rw[OQ];exact h)
theorem Jo:pw.main.body=dG 0 37++(dG 37 1++(dG 38 17++(dG 55 1++(dG 56 1++(dG 57 15++(dG 72 12++(dG 84 11++(dG 95 10++(dG 105 1++(dG 106 4++(dG 110 3++(dG 113 4++(dG 117 1++(dG 118 5++[])))))))))))))):=by kernel_rfl
noncomputable def gc(w:World)(os:OsState):Shared:=(cO hT 1106 2161 w os).abs
noncomputable abbrev bE:Code:=eB pw.main.body
theorem fin(w:World)(os:OsState):topRun treeTable pw w 11 (some (.ref 6)) 2 (gc w os) (restOf [] hW bE ⟨490,0,507,65⟩ F0)=some (gc w os):=by kernel_rfl
theorem chain(w:World)(os:OsState):topRun treeTable pw w 11 (some (.ref 6)) (334+(231+(358+(187+(974+(377+(394+(386+(322+(288+(382+(337+(231+(1719+(149+2))))))))))))))) (cO t4 15 187 w os).abs (restOf pw.main.body hW bE p0 F0)=some (gc w os):=by
 have h:∀b:List Stmt,topRun treeTable pw w 11 (some (.ref 6)) 2 (gc w os) (restOf [] hW (eB b) ⟨490,0,507,65⟩ F0)=some (gc w os)->topRun treeTable pw w 11 (some (.ref 6)) (334+(231+(358+(187+(974+(377+(394+(386+(322+(288+(382+(337+(231+(1719+(149+2))))))))))))))) (cO t4 15 187 w os).abs (restOf (dG 0 37++(dG 37 1++(dG 38 17++(dG 55 1++(dG 56 1++(dG 57 15++(dG 72 12++(dG 84 11++(dG 95 10++(dG 105 1++(dG 106 4++(dG 110 3++(dG 113 4++(dG 117 1++(dG 118 5++[]))))))))))))))) hW (eB b) p0 F0)=some (gc w os):=
  λb k=>piece_app (ko (Ti w pw b os)) (piece_app (ko (Tj w pw b os)) (piece_app (ko (Tn w pw b os)) (piece_app (ko (Tp w pw b os)) (piece_app (ko (Tq w pw b os)) (piece_app (ko (Ts w pw b os)) (piece_app (ko (Tt w pw b os)) (piece_app (ko (Tu w pw b os)) (piece_app (ko (Tv w pw b os)) (piece_app (ko (Tw w pw b os)) (piece_app (ko (Rl w pw b os)) (piece_app (ko (Rm w pw b os)) (piece_app (ko (Rn w pw b os)) (piece_app (ko (Rr w pw b os)) (piece_app (ko (Ro w pw b os)) (k)))))))))))))))
 have e:=h pw.main.body (fin w os)
 rw[<-Jo] at e
 exact e
noncomputable def S0(w:World)(os:OsState):Shared:=⟨boot_heap w.params,#[],boot_drawn,boot_toks,os⟩
noncomputable def pre(w:World)(os:OsState):=topGo treeTable pw w 11 (some (.ref 6)) 12 (S0 w os) (topStub pw)
theorem qV(w:World)(os:OsState):(pre w os).isSome=true:=by kernel_rfl
noncomputable def Md(w:World)(os:OsState):=((pre w os).get (qV w os)).1
noncomputable def Me(w:World)(os:OsState):=((pre w os).get (qV w os)).2
theorem Jp(w:World)(os:OsState):Me w os={cur:=denote treeTable bE,code:=bE,pos:=p0,stack:=F0}:=by kernel_rfl
theorem block(w:World)(os:OsState):segRun treeTable pw w 11 (some (.ref 6)) 1 1 (Md w os) (blockOf pw.main.body hW bE p0 F0)=
  some (Flow.next,(cO t4 15 187 w os).abs,bE,p0):=by kernel_rfl
theorem run(w:World)(os:OsState):topRun treeTable pw w 11 (some (.ref 6)) (12+(1+(334+(231+(358+(187+(974+(377+(394+(386+(322+(288+(382+(337+(231+(1719+(149+2))))))))))))))))) (S0 w os) (topStub pw)=some (gc w os):=by
 refine go_top (s':=Md w os) (t':=Me w os) (Option.some_get (qV w os)).symm ?_
 rw[Jp]
 exact piece_block (block w os) (chain w os)
end FR
end
section
set_option backward.match.sparseCases true
set_option maxRecDepth 100000
set_option maxHeartbeats 0
open PySem PySem.W PyProof.Rows
namespace FR
noncomputable def q0:Program:={pw with main:={pw.main with body:=pw.main.body.drop 122}}
noncomputable def fx:List Str:=(["TB_MODULE","TB_TYPEREF","TB_TYPEDEF","TB_FIELD","TB_METHODDEF","TB_PARAM","TB_INTERFACEIMPL","TB_MEMBERREF","TB_CONSTANT","TB_STANDALONESIG","TB_EVENTMAP","TB_EVENT","TB_PROPERTYMAP","TB_PROPERTY","TB_METHODSEMANTICS","TB_METHODIMPL","TB_TYPESPEC","TB_ASSEMBLY","TB_ASSEMBLYREF","TB_NESTEDCLASS","TB_GENERICPARAM","TB_METHODSPEC","TB_GENERICPARAMCONSTRAINT","TOKEN_BASE","E_VOID","TA_INTERFACE","FA_STATIC","FA_LITERAL","FA_HASDEFAULT","MA_STATIC","MA_ABSTRACT","MI_INTERNALCALL","MS_SETTER","MS_GETTER","MS_ADDON","MS_REMOVEON","RuneError","BadImage","CS_U16","CS_U32","CS_U8PAD","CS_TEXT","CS_BLOB","CS_GUID","CS_ROW","CS_CODED","CD_TYPEDEFORREF","CD_HASCONSTANT","CD_MEMBERREFPARENT","CD_HASSEMANTICS","CD_METHODDEFORREF","CD_RESOLUTIONSCOPE","CD_TYPEORMETHODDEF","CODED","COLUMNS","need_row","make_coded","split_coded","column_place","LISTS","NAMED","MAY_BE_NONE","SIG_TABLES","SIG_COLUMNS","MODULE_NAME","CORE_NAME","ROOT_NAME","CCTOR_SIG","check_tables","rows_of","table_text","table_blob","rule_heaps","right_place","rule_single","rule_maps","rule_tags","coded_pair","is_list_column","rule_parents","names_row","rule_lists","list_range","owner_row","rule_names","rule_twice","twice_members","is_interface","rule_iface","root_row","rule_base","rule_cctor","rule_bodies","rule_constants","rule_params","rule_generics","rule_semantics","right_meaning","association_type","rule_impls","rule_nested","PlainHeap","PlainTables","_law_WORDS","_law_BLOBS","_law_TAGS","_law_PARENTS","_law_LISTS","_law_TEXTS","_law_SIGS","_law_OCTETS","_law_NAMELESS","_law_OTHERS","_law_sound","_law_breach","_law_nameless","_law_edit"]:List String).map Str.ofString
noncomputable abbrev H0(w:World):Heap:=boot_heap w.params
noncomputable abbrev H1(w:World):Heap:=absHeap (hT w.params) 1106 L0
theorem Tx(w:World):namesBound pw (H1 w)=true:=by kernel_rfl
theorem Tz(w:World):laidKept (H0 w) (H1 w)=true:=by kernel_rfl
theorem TA(w:World):staticsOk (importedModules pw.main.body) (H0 w) (H1 w)=true:=by kernel_rfl
end FR
end
section
set_option backward.match.sparseCases true
set_option maxRecDepth 100000
set_option maxHeartbeats 0
open PySem PySem.W PyProof.Rows
namespace FR
noncomputable abbrev Mf:Shared->Bool:=λs=>recOk [] s
noncomputable abbrev HF:=importedModules pw.main.body
theorem s1(w:World)(os:OsState):seen ((recsOf q0).map (·.name)) (ownsOf q0) [] {gc w os with gens:= #[]}=expectedOf q0:=by kernel_rfl
theorem s2(w:World):(H1 w).bltView=bltViewBooted:=by kernel_rfl
theorem TB(w:World):(H1 w).keysOk (looseW q0 fx) ((recsOf q0).map (·.name)) ((litsOf q0).map (·.1)) ((clssOf q0 (looseW q0 fx)).map (·.name))=true:=by kernel_rfl
theorem TC(w:World):(H1 w).accountedOkI HF=true:=by kernel_rfl
theorem s4(w:World)(os:OsState):tabsOk q0 (gc w os)=true:=by kernel_rfl
theorem s5(w:World)(os:OsState):pinSeenD q0 (drecsOf q0) (gc w os)=pinGoodD (drecsOf q0):=by kernel_rfl
theorem s6(w:World)(os:OsState):plainSeenE q0 (looseW q0 fx) (gc w os)=plainGoodE q0 (looseW q0 fx):=by kernel_rfl
theorem s7(w:World)(os:OsState):plainSeenD q0 fx (gc w os)=plainGoodD q0 fx:=by kernel_rfl
theorem s8(w:World)(os:OsState):wideSeen q0 (gc w os)=wideGood q0:=by kernel_rfl
theorem s9(w:World)(os:OsState):clsSeenW q0 fx (gc w os)=clsGoodW q0 fx:=by kernel_rfl
end FR
end
section
set_option backward.match.sparseCases true
set_option maxRecDepth 100000
set_option maxHeartbeats 0
open PySem PySem.W PyProof.Rows
namespace FR
theorem size(w:World):((H0 w).isNs mainGlobals&&(#[]:Array GenState).size == 0,(H0 w).objs.size,(H0 w).nsMap mainGlobals (Str.ofString "__annotations__"))=(true,11,some (.ref 6)):=by kernel_rfl
theorem OR(w:World):(fencedOpening treeTable pw w 7000).map (λs=>(s.heap,s.gens,s.drawn,s.toks))=some (boot_heap w.params,Array.mk [],boot_drawn,boot_toks):=
 boot_open (p:=pw) (N:=7000) rfl (by decide) (λs=>rfl) w
theorem left{α:Type}{Yf:Shared->α}{Ya:World->α}(h:∀w os,Yf (gc w os)=Ya w):LeftO pw q0 fx Mf Yf Ya 7000 true:=
 LeftO.of_pieces (H₀:=boot_heap) (H₁:=λP=>absHeap (hT P) 1106 L0) (gs₀:= #[]) (gs₁:= #[]) (d₀:=boot_drawn) (d₁:={}) (k₀:=boot_toks) (k₁:=2161) (m₀:=11) (ann:=some (.ref 6)) OR size run (by decide)
  λw=>by
   funext os
   have e1:(staticsOk (importedModules pw.main.body) (H0 w) (H1 w)&&namesBound pw (H1 w)&&gensDone (gc w os)&&laidKept (H0 w) (H1 w))=true:=by
    rw[TA,Tx,Tz];rfl
   have e2:openSeen q0 fx (importedModules pw.main.body) Mf true (gc w os)=openGood q0 fx:=by
    refine Prod.ext (s1 w os) (Prod.ext (s2 w) (Prod.ext ?_ (Prod.ext (s4 w os) (Prod.ext (s5 w os) (Prod.ext (s6 w os) (Prod.ext (s7 w os) (Prod.ext (s8 w os) (s9 w os))))))))
    show ((H1 w).keysOk _ _ _ _&&(H1 w).accountedOkI HF&&(H1 w).isNs mainGlobals&&(H1 w).isNs builtinsNs&&tablesOk q0 (H1 w)&&_&&_)=true
    rw[TB,TC]
    kernel_rfl
   exact Prod.ext e1 (Prod.ext e2 (h w os))
theorem lk(p:Program):looksOpen p=Fast.tw12908688711261696721 p:=congrFun Fast.te12908688711261696721 p
theorem Mg:looksOpen PySem.Challenge.rw_sa0237_01.row.prog=true:=(lk _).trans (by kernel_rfl)
theorem Mh:PySem.Challenge.rw_sa0237_01.wellSaid=true:=by
 unfold OpenLaw.wellSaid OpenRow.wellSaid OpenRow.partSaid
 repeat' with_reducible (refine look_both ?_ ?_)
 all_goals first | with_reducible exact Mg | kernel_rfl
end FR
end
section
set_option maxRecDepth 100000
namespace FR
open PySem PySem.W PySem.Calls PyProof.Rows PySem.SeqAt
noncomputable def qj(P:Params)(a:Nat):Option Obj:=bif Nat.blt a 1106&& !(Nat.beq a 17) then (hT P).get a else none
noncomputable def kq(w:World)(hp:Heap):Prop:=∀a o,qj w.params a=some o->alive o=some o->hp.get? a=some o
theorem Ru{w:World}{hp:Heap}(H:kq w hp):∃o,hp.get? sysModules=some o:=⟨_,H 1 (boot_o_1 w.params) (by kernel_rfl) rfl⟩
noncomputable def ou{w:World}{hp:Heap}(H:kq w hp):Bs:=⟨pw,w,hp,Ru H⟩
noncomputable def Gb(v:Value):Option {a:Addr // v=.ref a}:=match v with
 |.ref a=>some ⟨a,rfl⟩
 |_=>none
noncomputable def noDict(d:Option Addr):Option {_q:Unit // d=none}:=match d with
 |none=>some ⟨(),rfl⟩
 |some _=>none
noncomputable def Mi(s:Array (Option Value)):Option {_q:Unit // s= #[]}:=match s with
 |⟨l⟩=>match l with
  |[]=>some ⟨(),rfl⟩
  |_::_=>none
noncomputable def Mj(v:Value)(s:String):Bool:=match v with
 |.type t=>decide (t=s)
 |_=>false
theorem Jq{v:Value}{s:String}(h:Mj v s=true):v=.type s:=by
 cases v with
 |type t=>exact congrArg _ (bV h)
 |_=>exact ff h
noncomputable def Rv(d:Data):Option {q:Array Value×Nat // d=.seq q.1 q.2}:=match d with
 |.seq xs n=>some ⟨(xs,n),rfl⟩
 |_=>none
noncomputable def Mk(d:Data):Option {q:Array DictEntry×Nat // d=.dict q.1 q.2}:=match d with
 |.dict es n=>some ⟨(es,n),rfl⟩
 |_=>none
noncomputable def Jr(d:Data):Option {q:Array Value // d=.fields q}:=match d with
 |.fields vs=>some ⟨vs,rfl⟩
 |_=>none
noncomputable def OS(d:Data):Option {q:FuncData // d=.func q}:=match d with
 |.func f=>some ⟨f,rfl⟩
 |_=>none
@[irreducible] noncomputable def kr(P:Params)(a:Nat)(T:String)(f:Data->Bool):Bool:=oS (oq (qj P a)) λo=>Mj o.cls T&&oS (noDict o.dict) λO=>oS (Mi o.slots) λO=>f o.data
theorem kr.e{M:Prop}{P:Params}{a:Nat}{T:String}{f:Data->Bool}(h:kr P a T f=true)(k:∀d,qj P a=some ⟨.type T,none,d,#[]⟩->f d=true->M):M:=by
 unfold kr at h
 refine oS.e h λo ho h=>oS.e (aB h).2 λO hd h'=>oS.e h' λO hs h'=>k o.data ?_ h'
 rw[ho,<-Jq (aB h).1,<-hd,<-hs]
theorem Ml{P:Params}{a:Nat}{T:String}{d d':Data}(ho:qj P a=some ⟨.type T,none,d,#[]⟩)(hd:d=d'):qj P a=some ⟨.type T,none,d',#[]⟩:=hd▸ho
noncomputable def all2(f:PV->Value->Bool):List PV->List Value->Bool
 |[],vs=>nil? vs
 |p::l,vs=>match vs with
  |[]=>false
  |v::vs=>f p v&&all2 f l vs
noncomputable def HG(P:Params):Nat->PV->Value->Bool
 |0,_,_=>false
 |n+1,p,v=>match p with
  |.none=>decide (v=.none)
  |.bool x=>decide (v=.bool x)
  |.int i=>(match v with | .int j _=>decide (j=i) | _=>false)
  |.str x=>(match v with | .str y _=>decide (y.cps.toList=x) | _=>false)
  |.bytes x=>(match v with | .bytes y _=>decide (y.toList.map (·.toNat)=x) | _=>false)
  |.ah l=>oS (Gb v) λa=>kr P a "tuple" λd=>oS (Rv d) λxs=>all2 (HG P n) l xs.1.toList
  |_=>false
section
variable{w:World}{hp:Heap}(H:kq w hp)
include H
theorem Js{f:PV->Value->Bool}(hf:∀p v,f p v=true->VR (ou H) hp [] p v)(l:List PV):∀{vs:List Value},all2 f l vs=true->aH (ou H) hp [] l vs:=by
 induction l with
 |nil=>exact λh=>nil_inv h▸a_
 |cons p l ih=>
  intro vs h
  cases vs with
  |nil=>exact ff h
  |cons v vs=>exact⟨hf _ _ (aB h).1,ih (aB h).2⟩
theorem HH(n:Nat):∀(p:PV)(v:Value),HG w.params n p v=true->VR (ou H) hp [] p v:=by
 induction n with
 |zero=>exact λp v h=>ff h
 |succ n ih=>
  intro p v h
  cases p with
  |none=>exact(bV h:v=.none)
  |bool x=>exact(bV h:v=.bool x)
  |int i=>cases v with
   |int j t=>exact⟨t,congrArg (Value.int · t) (bV h)⟩
   |_=>exact ff h
  |str x=>cases v with
   |str y t=>exact⟨t,congrArg (λl:List Nat=>Value.str ⟨l.toArray⟩ t) (bV h)⟩
   |_=>exact ff h
  |bytes x=>cases v with
   |bytes y t=>exact⟨y,t,rfl,bV h⟩
   |_=>exact ff h
  |ah l=>exact oS.e h λa ha h=>kr.e h λd ho h=>oS.e h λxs hd h=>⟨a,xs.1,xs.2,ha,H _ _ (Ml ho hd) rfl,Js H ih _ h⟩
  |_=>exact ff h
end
noncomputable def OT(P:Params)(n:Nat)(k:Int)(p:PV)(e:DictEntry):Bool:=decide (e.hash=hashInt k)&&((match e.key with | .int i _=>decide (i=k) | _=>false)&&HG P n p e.val)
noncomputable def BY(P:Params)(n:Nat):List Int->List PV->List DictEntry->Bool
 |[],ps,es=>nil? ps&&nil? es
 |k::ks,ps,es=>match ps with
  |[]=>false
  |p::ps=>match es with
   |[]=>false
   |e::es=>OT P n k p e&&BY P n ks ps es
theorem Gd{w:World}{hp:Heap}(H:kq w hp){n:Nat}(ks:List Int):∀{ps:List PV}{es:List DictEntry},BY w.params n ks ps es=true->∃aX:List (Int×Value),aX.map (·.1)=ks/\Pairs (intKind pw w) es aX/\aH (ou H) hp [] ps (aX.map (·.2))/\∀e∈es,∃k,(intKind pw w).is k e.key=true/\e.hash=(intKind pw w).hash k:=by
 induction ks with
 |nil=>exact λq=>nil_inv (aB q).1▸nil_inv (aB q).2▸⟨[],rfl,.nil,a_,λO m=>absurd m List.not_mem_nil⟩
 |cons k ks ih=>
  intro ps es q
  cases ps with
  |nil=>exact ff q
  |cons p ps=>cases es with
   |nil=>exact ff q
   |cons e es=>
    have q1:=dec (aB q).1
    have q2:=aB q1.2
    refine(ih (aB q).2).elim λaX x=> ?_
    have hk:(intKind pw w).is k e.key=true:=by
     have q3:=q2.1
     cases hk:e.key with
     |int i t=>rw[hk] at q3;exact bV q3▸isInt_self i t
     |_=>rw[hk] at q3;exact ff q3
    exact⟨(k,e.val)::aX,congrArg (k:: ·) x.1,.cons hk rfl x.2.1,⟨HH H n _ _ q2.2,x.2.2.1⟩,λy hy=>(List.mem_cons.mp hy).elim (λh=>h▸⟨k,hk,q1.1⟩) (x.2.2.2 y)⟩
noncomputable def PO(P:Params)(p:PV)(v:Value):Bool:=match p with
 |.fc ks ps=>oS (Gb v) λa=> !(Nat.beq a 1)&&(decide ks.Nodup&&kr P a "dict" λd=>oS (Mk d) λes=>BY P 400 ks ps es.1.toList)
 |p=>HG P 400 p v
theorem Mm{w:World}{hp:Heap}(H:kq w hp){p:PV}{v:Value}(h:PO w.params p v=true):VR (ou H) hp [] p v:=by
 cases p with
 |fc ks ps=>
  refine oS.e h λa ha h=>kr.e (dec (aB h).2).2 λd ho h'=>oS.e h' λes hd h'=>(Gd H _ h').elim λaX x=>⟨a,aX,ha,⟨_,es.1,es.2,H _ _ (Ml ho hd) rfl,⟨rfl,rfl,rfl⟩,rfl,λy hy=>x.2.2.2 y (Array.mem_toList_iff.mpr hy),x.2.1,?_⟩,?_,x.1,x.2.2.1⟩
  ·rw[x.1];exact(dec (aB h).2).1
  ·exact beq_eq_false_iff_ne.mpr (Nat.ne_of_beq_eq_false (not_of (aB h).1))
 |_=>exact HH H 400 _ _ h
end FR
end
section
set_option maxRecDepth 100000
namespace FR
open PySem PySem.W PySem.Calls PyProof.Rows PySem.SeqAt
noncomputable def qG:List (Str×GV):=List.map (λp=>(Str.ofString p.1,p.2)) ([
 ("need_row",GV.fn 0),
 ("make_coded",GV.fn 1),
 ("split_coded",GV.fn 2),
 ("column_place",GV.fn 3),
 ("check_tables",GV.fn 4),
 ("rows_of",GV.fn 5),
 ("table_text",GV.fn 6),
 ("table_blob",GV.fn 7),
 ("rule_heaps",GV.fn 8),
 ("right_place",GV.fn 9),
 ("rule_single",GV.fn 10),
 ("rule_maps",GV.fn 11),
 ("rule_tags",GV.fn 12),
 ("coded_pair",GV.fn 13),
 ("is_list_column",GV.fn 14),
 ("rule_parents",GV.fn 15),
 ("names_row",GV.fn 16),
 ("rule_lists",GV.fn 17),
 ("list_range",GV.fn 18),
 ("owner_row",GV.fn 19),
 ("rule_names",GV.fn 20),
 ("rule_twice",GV.fn 21),
 ("twice_members",GV.fn 22),
 ("is_interface",GV.fn 23),
 ("rule_iface",GV.fn 24),
 ("root_row",GV.fn 25),
 ("rule_base",GV.fn 26),
 ("rule_cctor",GV.fn 27),
 ("rule_bodies",GV.fn 28),
 ("rule_constants",GV.fn 29),
 ("rule_params",GV.fn 30),
 ("rule_generics",GV.fn 31),
 ("rule_semantics",GV.fn 32),
 ("right_meaning",GV.fn 33),
 ("association_type",GV.fn 34),
 ("rule_impls",GV.fn 35),
 ("rule_nested",GV.fn 36),
 ("_law_sound",GV.fn 37),
 ("_law_breach",GV.fn 38),
 ("_law_nameless",GV.fn 39),
 ("_law_edit",GV.fn 40),
 ("law",GV.fn 41),
 ("TOKEN_BASE",GV.gl 0),
 ("CODED",GV.gl 1),
 ("COLUMNS",GV.gl 2),
 ("CS_TEXT",GV.gl 3),
 ("CS_BLOB",GV.gl 4),
 ("SIG_COLUMNS",GV.gl 5),
 ("SIG_TABLES",GV.gl 6),
 ("MODULE_NAME",GV.gl 7),
 ("TB_TYPEDEF",GV.gl 8),
 ("TB_ASSEMBLY",GV.gl 9),
 ("TB_MODULE",GV.gl 10),
 ("TB_PROPERTYMAP",GV.gl 11),
 ("TB_EVENTMAP",GV.gl 12),
 ("CS_CODED",GV.gl 13),
 ("LISTS",GV.gl 14),
 ("MAY_BE_NONE",GV.gl 15),
 ("CS_ROW",GV.gl 16),
 ("NAMED",GV.gl 17),
 ("TB_EVENT",GV.gl 18),
 ("TB_PROPERTY",GV.gl 19),
 ("TB_METHODDEF",GV.gl 20),
 ("TB_FIELD",GV.gl 21),
 ("TB_TYPEREF",GV.gl 22),
 ("TB_NESTEDCLASS",GV.gl 23),
 ("TA_INTERFACE",GV.gl 24),
 ("FA_STATIC",GV.gl 25),
 ("ROOT_NAME",GV.gl 26),
 ("CORE_NAME",GV.gl 27),
 ("CCTOR_SIG",GV.gl 28),
 ("MA_STATIC",GV.gl 29),
 ("MI_INTERNALCALL",GV.gl 30),
 ("MA_ABSTRACT",GV.gl 31),
 ("FA_HASDEFAULT",GV.gl 32),
 ("FA_LITERAL",GV.gl 33),
 ("TB_CONSTANT",GV.gl 34),
 ("CD_HASCONSTANT",GV.gl 35),
 ("TB_PARAM",GV.gl 36),
 ("TB_GENERICPARAM",GV.gl 37),
 ("MS_REMOVEON",GV.gl 38),
 ("MS_ADDON",GV.gl 39),
 ("CD_HASSEMANTICS",GV.gl 40),
 ("TB_METHODSEMANTICS",GV.gl 41),
 ("MS_GETTER",GV.gl 42),
 ("MS_SETTER",GV.gl 43),
 ("TB_METHODIMPL",GV.gl 44),
 ("CD_METHODDEFORREF",GV.gl 45),
 ("_law_OTHERS",GV.gl 46),
 ("_law_SIGS",GV.gl 47),
 ("_law_BLOBS",GV.gl 48),
 ("_law_WORDS",GV.gl 49),
 ("_law_TEXTS",GV.gl 50),
 ("_law_OCTETS",GV.gl 51),
 ("_law_LISTS",GV.gl 52),
 ("_law_PARENTS",GV.gl 53),
 ("_law_TAGS",GV.gl 54),
 ("_law_NAMELESS",GV.gl 55),
 ("PlainHeap",GV.cls 0),
 ("PlainTables",GV.cls 1),
 ("BadImage",GV.cls 2),
 ("len",GV.bi "len"),
 ("sorted",GV.bi "sorted"),
 ("range",GV.ty "range"),
 ("enumerate",GV.ty "enumerate"),
 ("list",GV.ty "list"),
 ("tuple",GV.ty "tuple")]:List (String×GV))
noncomputable def glob(x:Str):Option GV:=qG.lookup x
noncomputable def zV:List (Nat×Addr×List Str):=List.map (λp=>(p.1,p.2.1,p.2.2.map Str.ofString)) ([
 (0,173,["row"]),
 (1,180,["coded","table","row","pair","tag","named"]),
 (2,187,["coded","n","pair","tag"]),
 (3,194,["table","name","place","column"]),
 (4,225,["ts","texts","blobs","told"]),
 (5,232,["ts","table"]),
 (6,239,["texts","offset"]),
 (7,246,["blobs","offset"]),
 (8,253,["ts","texts","blobs","told","table","place","column","number","row"]),
 (9,260,["texts","blobs","table","column","offset","count"]),
 (10,267,["ts","texts","told","table","rows"]),
 (11,274,["ts","told","table","seen","number","row"]),
 (12,281,["ts","told","table","place","column","number","row"]),
 (13,288,["sort","n"]),
 (14,295,["table","place","row"]),
 (15,302,["ts","told","table","place","column","may_none","number","row"]),
 (16,309,["ts","sort","n","may_none","pair"]),
 (17,316,["ts","told","table","place","other","rows","last","number","row","n"]),
 (18,323,["ts","table","place","other","number","first"]),
 (19,330,["ts","table","place","other","n","number","first","end"]),
 (20,337,["ts","texts","told","table","word","place","number","row"]),
 (21,344,["ts","texts","blobs","told","enclosed","row","seen","number","key"]),
 (22,351,["ts","texts","blobs","told","lists","name_place","sig_place","table","place","other","number","first","end","seen","n","row","sig","key"]),
 (23,358,["row"]),
 (24,365,["ts","told","number","row","first","end","n"]),
 (25,370,["ts","texts","nested","number","row"]),
 (26,377,["ts","texts","told","root","number","row"]),
 (27,384,["ts","texts","blobs","told","number","row"]),
 (28,391,["ts","told","number","row","without"]),
 (29,398,["ts","told","seen","number","row","table","n","given","unfit"]),
 (30,405,["ts","told","number","first","end","last","n","sequence"]),
 (31,412,["ts","texts","told","counts","seen","number","row","due","key"]),
 (32,419,["ts","told","seen","number","row","table","n","event"]),
 (33,426,["meaning","table"]),
 (34,433,["ts","table","n","maps","number"]),
 (35,440,["ts","told","seen","number","row","table","n"]),
 (36,447,["ts","told","outer","number","row","at","steps"]),
 (37,1081,["core","extras","rows","spot","x","field","method","name","space","extends"]),
 (38,1088,["way","x","y","rows","edit","row","value","spots"]),
 (39,1093,["x","rows","also","want","spots"]),
 (40,1100,["rows","table","row","place","value","old"]),
 (41,1105,["script","drawn","head","texts","blobs","rows","want","edits","edit","ts","table","row"]),
 (101,461,["self","zero"]),
 (102,475,["self","place"]),
 (103,496,["self"]),
 (104,503,["self","table","row"]),
 (105,510,["self","table","n"]),
 (106,517,["self","table"])]:List (Nat×Nat×List String))
noncomputable def mW:List (Nat×Addr×List Str)->Nat->Addr×List Str
 |[],_=>(0,[])
 |p::l,i=>bif Nat.beq p.1 i then p.2 else mW l i
noncomputable def iS(i:Nat):Addr:=(mW zV i).1
theorem Ge{i:Nat}{d:bo}(l:List (Nat×bo)):vB l i=some d->i∈l.map (·.1):=by
 induction l with
 |nil=>exact λh=>nomatch h
 |cons p l ih=>
  intro h
  have h:(bif Nat.beq p.1 i then some p.2 else vB l i)=some d:=h
  cases hb:Nat.beq p.1 i with
  |true=>exact Nat.eq_of_beq_eq_true hb▸cR
  |false=>rw[hb] at h;exact List.mem_cons_of_mem _ (ih h)
noncomputable def Mn(b:FuncBody):Option {q:List PySem.Stmt // b=.stmts q}:=match b with
 |.stmts l=>some ⟨l,rfl⟩
 |.expr _=>none
noncomputable def OU(p:Arguments):Option {q:List Arg // p=⟨[],q,none,[],[],none,[]⟩}:=match p with
 |⟨[],args,none,[],[],none,[]⟩=>some ⟨args,rfl⟩
 |_=>none
noncomputable def Mo(v:Value):Option {q:Str×Tok // v=.str q.1 q.2}:=match v with
 |.str x t=>some ⟨(x,t),rfl⟩
 |_=>none
noncomputable def Sj:Value->Bool
 |.none=>true
 |_=>false
noncomputable def codeB(P:Params)(v:Value)(q:Str):Bool:=oS (Gb v) λc=>oS (oq (qj P c)) λo=>oS (Jr o.data) λvs=>oS (oq ((vs:Array Value)[1]?)) λx=>oS (Mo x) λy=>decide (y.1=q)
noncomputable def DZ(P:Params)(i:Nat):Bool:=oS (oq (aj i)) λd=>oS (oq (qj P (iS i))) λo=>oS (OS o.data) λfd=>oS (Mn fd.body) λbody=>oS (OU fd.params) λargs=>
 decide (fd.globals=3)&&(decide (fd.builtins=0)&&(decide (fd.defaults=.none)&&(decide ((mW zV i).2.take d.params=args.map (·.arg))&&(decide (args.length=d.params)&&(decide (mW zV i).2.Nodup&&
   ((mW zV i).2.all (λx=>decide (fd.scope.names.lookup x=some .local))&&(fd.scope.names.all (λx=>decide (x.2≠ .cell))&&(decide (d.params<=(mW zV i).2.length)&&
   (!fd.scope.isCoroutine&&(!fd.scope.isGenerator&&(decide (fd.scope.kind=.function)&&(codeB P fd.code fd.qualname&&(qU (oo 60) ⟨(mW zV i).2,glob,fd.scope,true⟩ 60).ss body d.body))))))))))))
noncomputable def gf(P:Params)(a:Nat)(x:Str):Option Value:=match qj P a with
 |some o=>match o.data with
  |.dict es _=>nsFind es x
  |_=>none
 |none=>none
noncomputable def pv(P:Params)(a:Nat):Bool:=oS (oq (qj P a)) λo=>oS (Mk o.data) λes=>es.1.toList.all λe=>oS (Mo e.key) λO=>true
theorem qW{o:Obj}{d:Data}(h:o.data=d)(k:∀c e s,alive ⟨c,e,d,s⟩=some ⟨c,e,d,s⟩):alive o=some o:=by
 cases h
 exact k o.cls o.dict o.slots
section
variable{w:World}{hp:Heap}(H:kq w hp)
include H
theorem xy{v:Value}{q:Str}(h:codeB w.params v q=true):hp.CodeRec v q:=
 oS.e h λc hc h=>oS.e h λo ho h=>oS.e h λvs hv h=>oS.e h λx hx h=>oS.e h λy hy h=>⟨c,_,vs,y.2,hc,H _ _ ho (qW hv λO O O=>rfl),hv,by rw[hx,hy,bV h]⟩
theorem i4{a:Nat}(h:pv w.params a=true):hp.Ns a (gf w.params a):=
 oS.e h λo ho h=>oS.e h λes he h=>⟨o,es.1,es.2,H _ _ ho (qW he λO O O=>rfl),he,λe m=>oS.e (List.all_eq_true.mp h e (Array.mem_toList_iff.mpr m)) λy hy O=>⟨y.1,y.2,hy⟩,λx=>by unfold gf;rw[ho];dsimp only;rw[he]⟩
theorem Jt(h:pv w.params 2=true)(e:gf w.params 2 "sys.recursionlimit"=none):hp.NoLimit:=⟨_,i4 H h,e⟩
theorem Mp(hl:hp.NoLimit){i:Nat}{d:bo}(hd:aj i=some d)(h:DZ w.params i=true):∃fd locs body m f,wI (ou H) (iS i) fd locs d.params body/\(qU (oo m) ⟨locs,glob,fd.scope,true⟩ f).ss body d.body=true:=
 oS.e h λd' Kp h=>oS.e h λo ho h=>oS.e h λfd hf h=>oS.e h λbody hb h=>oS.e h λargs ha h=>by
  cases bF hd Kp
  have a1:=dec h
  have a2:=dec a1.2
  have a3:=dec a2.2
  have a4:=dec a3.2
  have a5:=dec a4.2
  have a6:=dec a5.2
  have a7:=aB a6.2
  have a8:=aB a7.2
  have a9:=dec a8.2
  have LH:=aB a9.2
  have LI:=aB LH.2
  have LJ:=dec LI.2
  have LK:=aB LJ.2
  exact⟨fd,_,body,60,60,⟨⟨o,H _ _ ho (qW hf λO O O=>rfl),hf⟩,hb,a1.1,a2.1,xy H LK.1,hl,λvs hv=>a4.1▸si fd args vs (a4.1▸a6.1.sublist (List.take_sublist _ _)) ha a3.1 (hv.trans a5.1.symm),λx hx=>bV (List.all_eq_true.mp a7.1 x hx),λx hx=>bV (List.all_eq_true.mp a8.1 x hx),a6.1,a9.1,not_of LH.1,not_of LI.1,LJ.1⟩,LK.2⟩
end
end FR
end
section
set_option maxRecDepth 100000
set_option maxHeartbeats 0
namespace FR
open PySem PySem.W PySem.Calls PyProof.Rows PySem.SeqAt
noncomputable abbrev ids:List Nat:=AS.map (·.1)
theorem Ju(w:World):(ids.take 16).all (DZ w.params)=true:=by kernel_rfl
theorem Jv(w:World):((ids.drop 16).take 16).all (DZ w.params)=true:=by kernel_rfl
theorem Jw(w:World):((ids.drop 16).drop 16).all (DZ w.params)=true:=by kernel_rfl
theorem Mq(w:World){i:Nat}{d:bo}(h:aj i=some d):DZ w.params i=true:=
 have hi:=Ge AS h
 (List.mem_append.mp ((List.take_append_drop 16 ids).symm▸hi)).elim (List.all_eq_true.mp (Ju w) i) λq=>(List.mem_append.mp ((List.take_append_drop 16 (ids.drop 16)).symm▸q)).elim (List.all_eq_true.mp (Jv w) i) (List.all_eq_true.mp (Jw w) i)
theorem Mr(w:World):pv w.params 3=true:=by kernel_rfl
theorem Rw(w:World):pv w.params 0=true:=by kernel_rfl
theorem OV(w:World):pv w.params 43=true:=by kernel_rfl
theorem OW(w:World):pv w.params 30=true:=by kernel_rfl
theorem D0{w:World}{hp:Heap}(H:kq w hp):hp.NoLimit:=Jt H (by kernel_rfl) (by kernel_rfl)
noncomputable def OX{w:World}{hp:Heap}(H:kq w hp):Tops (ou H):=⟨gf w.params 3,gf w.params 0,i4 H (Mr w),i4 H (Rw w)⟩
noncomputable def PQ(P:Params)(p:Str×GV):Bool:=match p.2 with
 |.fn i=>decide (gf P 3 p.1=some (.ref (iS i)))&&(aj i).isSome
 |.gl i=>oS (oq (gf P 3 p.1)) λv=>PO P (ae i) v
 |.bi s=>decide (gf P 3 p.1=none)&&decide (gf P 0 p.1=some (.builtin s))
 |.ty s=>decide (gf P 3 p.1=none)&&decide (gf P 0 p.1=some (.type s))
 |.cls c=>decide (gf P 3 p.1=some (.ref (b9 c)))
theorem Ms(w:World):qG.all (PQ w.params)=true:=by kernel_rfl
theorem lookup_mem{x:Str}{g:GV}{l:List (Str×GV)}:l.lookup x=some g->(x,g)∈l:=by
 induction l with
 |nil=>exact λh=>nomatch h
 |cons p l ih=>
  intro h
  rw[List.lookup_cons] at h
  cases hb:x == p.1 with
  |true=>rw[hb] at h;cases h;exact eq_of_beq hb▸cR
  |false=>rw[hb] at h;exact List.mem_cons_of_mem _ (ih h)
theorem k9(w:World){x:Str}{g:GV}(h:glob x=some g):PQ w.params (x,g)=true:=List.all_eq_true.mp (Ms w) _ (lookup_mem h)
noncomputable def ku(P:Params):Frag:=[(478,LQ),(520,LZ),(477,LP P),(519,LY P),(461,LM),(475,LO),(496,LS),(503,LU),(510,LV),(517,LW),(28,LL)]
theorem Jx(w:World):(ku w.params).map (λp=>qj w.params p.1)=(ku w.params).map λp=>some p.2:=by kernel_rfl
theorem BZ(w:World):(ku w.params).map (λp=>alive p.2)=(ku w.params).map λp=>some p.2:=by kernel_rfl
theorem zW{w:World}{hp:Heap}(H:kq w hp):(ku w.params).In hp:=
 Frag.in_of rfl (List.map_map.trans (List.map_congr_left λp m=>H p.1 p.2 (List.map_inj_left.mp (Jx w) p m) (List.map_inj_left.mp (BZ w) p m)))
theorem B0{m f:Nat}(h:ej 0 m=some f):m=3/\f=102:=by
 match m,h with
 |3,h=>cases h;exact⟨rfl,rfl⟩
theorem HI{m f:Nat}(h:ej 1 m=some f):(m=3/\f=105)\/(m=4/\f=106)\/(m=5/\f=104):=by
 match m,h with
 |3,h=>cases h;exact .inl ⟨rfl,rfl⟩
 |4,h=>cases h;exact .inr (.inl ⟨rfl,rfl⟩)
 |5,h=>cases h;exact .inr (.inr ⟨rfl,rfl⟩)
theorem Jy(P:Params):iC (ku P) 0/\keepIn (ku P) (.ref (b9 0))=true:=
 ⟨⟨by kernel_rfl,by kernel_rfl,λm f h=>(B0 h).1▸(B0 h).2▸⟨by kernel_rfl,by kernel_rfl⟩,λhs t v n hv=>by kernel_rfl,by kernel_rfl,by kernel_rfl,by kernel_rfl,by kernel_rfl,by kernel_rfl,λf h=>by
   cases h;exact⟨by kernel_rfl,by kernel_rfl⟩⟩,by kernel_rfl⟩
theorem Jz(P:Params):iC (ku P) 1/\keepIn (ku P) (.ref (b9 1))=true:=
 ⟨⟨by kernel_rfl,by kernel_rfl,λm f h=>(HI h).elim (λx=>x.1▸x.2▸⟨by kernel_rfl,by kernel_rfl⟩) λy=>y.elim (λx=>x.1▸x.2▸⟨by kernel_rfl,by kernel_rfl⟩) λx=>x.1▸x.2▸⟨by kernel_rfl,by kernel_rfl⟩,λhs t v n hv=>by kernel_rfl,by kernel_rfl,by kernel_rfl,by kernel_rfl,by kernel_rfl,by kernel_rfl,λf h=>by
   cases h;exact⟨by kernel_rfl,by kernel_rfl⟩⟩,by kernel_rfl⟩
theorem tK{M:Nat->Prop}(h0:M 0)(h1:M 1)(c:Nat)(h:c<=1):M c:=by
 cases c with
 |zero=>exact h0
 |succ c=>cases c with
  |zero=>exact h1
  |succ c=>exact absurd (Nat.le_of_succ_le_succ h) (Nat.not_succ_le_zero c)
theorem zX{c m f:Nat}(h:ej c m=some f):c<=1:=by
 cases c with
 |zero=>exact Nat.zero_le 1
 |succ c=>cases c with
  |zero=>exact Nat.le_refl 1
  |succ c=>exact nomatch h
noncomputable abbrev zY:FuncData:=fd (eP (da (eP pw.main.body 37)) 0) "__init__" "RuneError.__init__" (vs "framerune.faults" 259) (vr 27)
theorem Mt{w:World}{hp:Heap}(H:kq w hp):wI (ou H) 28 zY ["self","code","at"] 3 [.Assign [.Attribute (.Name "self" ⟨41,8,41,12⟩) "code" ⟨41,8,41,17⟩] (.Name "code" ⟨41,20,41,24⟩) ⟨41,8,41,24⟩,.Assign [.Attribute (.Name "self" ⟨42,8,42,12⟩) "at" ⟨42,8,42,15⟩] (.Name "at" ⟨42,18,42,20⟩) ⟨42,8,42,20⟩] where
 at_:=⟨LL,H _ _ (by kernel_rfl) rfl,rfl⟩
 hb:=by kernel_rfl
 gl:=rfl
 bi:=rfl
 cd:=xy H (by kernel_rfl)
 lim:=D0 H
 bind:=λvs hv=>by
  have e:zY.params.args.map (·.arg)=(["self","code","at"]:List Str):=by kernel_rfl
  exact(si zY zY.params.args vs (by rw[e];decide+kernel) (by kernel_rfl) rfl (hv.trans (by kernel_rfl))).trans (by rw[e];rfl)
 aa:=λx hx=>bV (List.all_eq_true.mp (show (["self","code","at"]:List Str).all (λx=>decide (zY.scope.names.lookup x=some .local))=true by kernel_rfl) x hx)
 C3:=λx hx=>bV (List.all_eq_true.mp (show zY.scope.names.all (λx=>decide (x.2≠ .cell))=true by kernel_rfl) x hx)
 nd:=by decide+kernel
 np:=Nat.le_refl 3
 co:=by kernel_rfl
 ge:=by kernel_rfl
 kf:=by kernel_rfl
theorem Mu{w:World}{hp:Heap}(H:kq w hp):hp.get? 44=some PK:=H _ _ (by kernel_rfl) rfl
theorem JA{w:World}{hp:Heap}(H:kq w hp):n9 (ou H) where
 two:=⟨gf w.params 43,gf w.params 30,⟨⟨_,_,_,_,_,_,_,_,_,_,_,_,_,_,Mu H,i4 H (OV w)⟩,_,_,_,_,H _ PJ (by kernel_rfl) rfl,i4 H (OW w)⟩,
  by kernel_rfl,by kernel_rfl,λn hn=>by
   have e:(["__setattr__","code","at"]:List Str).all (λn=>decide (gf w.params 43 n=none)&&decide (gf w.params 30 n=none))=true:=by kernel_rfl
   have q:=dec (List.all_eq_true.mp e n hn)
   exact⟨q.1,bV q.2⟩⟩
 fn:=⟨_,_,_,_,_,_,_,_,_,Mt H⟩
 bf:=λh self k=>bind_fn (K:=ku w.params) (λa o e=>k a o (zW H a o e)) self (by kernel_rfl)
theorem Rx{w:World}{hp:Heap}(H:kq w hp):LG (ou H) (OX H) glob aj ae iS (ku w.params) where
 fn:=λx i h=>⟨(dec (k9 w h)).1,Option.isSome_iff_exists.mp (dec (k9 w h)).2⟩
 gv:=λx i h=>oS.e (k9 w h) λv e q=>⟨v,e,Mm H q⟩
 bi:=λx s h=>⟨(dec (k9 w h)).1,bV (dec (k9 w h)).2⟩
 ty:=λx s h=>⟨(dec (k9 w h)).1,bV (dec (k9 w h)).2⟩
 cl:=λx c h=>bV (k9 w h)
 X:=zW H
 ok:=tK (Jy _) (Jz _)
 me:=λc f m h=>⟨zX h,tK (M:=λc=>ej c m=some f->iS f=eL f/\∃d,aj f=some d) (λh=>(B0 h).2▸⟨rfl,_,rfl⟩) (λh=>(HI h).elim (λx=>x.2▸⟨rfl,_,rfl⟩) λy=>y.elim (λx=>x.2▸⟨rfl,_,rfl⟩) λx=>x.2▸⟨rfl,_,rfl⟩) c (zX h) h⟩
 uo:=tK ⟨101,rfl,rfl,_,rfl⟩ ⟨103,rfl,rfl,_,rfl⟩
 ex:=⟨_,_,_,_,_,_,_,_,_,_,_,_,_,_,_,_,_,Mu H,by decide+kernel⟩
 DR:=JA H
 defs:=λi d h=>Mp H (D0 H) h (Mq w h)
end FR
end
section
set_option maxRecDepth 100000
set_option maxHeartbeats 0
namespace FR
open PySem PySem.W PySem.Calls PyProof.Rows PySem.SeqAt
noncomputable def zZ:Prop:=∀ns:List Int,ns.length<=63->∃ag,ax aj ae 12 41 [.dh (ns.map .int)] []=some (.ok (.bool true),ag)
noncomputable def PR(s:Shared):Heap:=hideAll s.heap [17]
theorem D1{w:World}{s:Shared}(iP:Sub (H1 w) s.heap):kq w (PR s):=by
 intro a o h ho
 have h:(bif Nat.blt a 1106&& !(Nat.beq a 17) then (hT w.params).get a else none)=some o:=h
 cases q:Nat.blt a 1106&& !(Nat.beq a 17) with
 |false=>rw[q] at h;exact nomatch h
 |true=>
  rw[q] at h
  have q:=aB q
  exact hideAll_get _ (iP a o ((abs_get (Nat.blt_eq.mp q.1) h).trans ho)) λm=>Nat.ne_of_beq_eq_false (not_of q.2) (c_ m)
theorem Ry(w:World):(H1 w).get? 17=some (xd w.params):=(abs_get (t:=hT w.params) (a:=17) (n:=1106) (life:=L0) (o:=xd w.params) (by decide) (by kernel_rfl)).trans rfl
theorem Rz(w:World):(H1 w).isNs 17=true:=by kernel_rfl
theorem Gf(w:World):(xd w.params).cls≠Value.type "list":=by unfold xd;show Value.type "dict"≠Value.type "list";decide
noncomputable def HJ{w:World}{s:Shared}(H:kq w (PR s)):Cx:={toBs:=ou H,fr:=[],L:=17,locs:=[],kf:=λO m=>absurd m List.not_mem_nil,lf:=hideAll_none _ cR}
theorem JB(LR:zZ){w:World}{s:Shared}(iP:Sub (H1 w) s.heap){ns:List Int}{vs:List Value}{a:Addr}(hL:s.heap.IsList a vs.toArray)(hI:IntsAre vs ns)(hn:ns.length<=63):
  codeAny (model pw w) callerA (.call (.ref (iS 41)) ⟨[.ref a],[]⟩) (λr s'=>∃h' t',r=.ok (.ret (.bool true))/\s'={s with heap:=h',toks:=t'}/\Sub s.heap h') s:=by
 refine(LR ns hn).elim λag e=>hL.elim λo hL=> ?_
 have H:=D1 iP
 have ha:a∉[17]:=λq=>Gf w (bF (iP _ _ (Ry w)) (c_ q▸hL.1)▸hL.2.1)
 have I:Inv (HJ H) [] [] ⟨[],s⟩:=⟨⟨rfl,(λi o e=>nomatch e:∀i o,ar [] i=some o->_),List.nodup_nil,λO m=>absurd m List.not_mem_nil⟩,λa o e=>of_hideAll _ e,λO m=>absurd m List.not_mem_nil,λO m=>absurd m List.not_mem_nil,_,(Heap.Ns.of_isNs (Rz w)).keeps iP,λi x p hx O=>nomatch hx⟩
 have V:cy (HJ H) ⟨[],s⟩ [.dh (ns.map .int)] [.ref a]:=⟨⟨a,o,vs.toArray,rfl,hideAll_get _ hL.1 ha,hL.2.1,hL.2.2,qc hI⟩,a_⟩
 have F:wH (HJ H) (λO O=>False) (λv s'=>v=.bool true/\∃h' t',s'={s with heap:=h',toks:=t'}/\Sub s.heap h') ⟨[],s⟩ (ax aj ae 12 41 [.dh (ns.map .int)] []):=by
  rw[e]
  exact λP' v A O V=>⟨V,P'.s.heap,P'.s.toks,A.same,λb o e=>(A.keep b o e List.not_mem_nil List.not_mem_nil List.not_mem_nil).2⟩
 refine codeAny_mono (DW (Rx H) 12 41 He rfl (HJ H) callerA rfl [] [] ⟨[],s⟩ _ _ _ _ rfl rfl (by decide) (by decide) I V F) λr s' z=> ?_
 cases r with
 |error e=>exact z.elim
 |ok f=>cases f with
  |ret v=>exact z.2.elim λh' x=>x.elim λt' x=>⟨h',t',congrArg (λv=>Except.ok (Flow.ret v)) z.1,x.1,x.2⟩
  |_=>exact z.elim
theorem Mv{h:Heap}{a:Addr}{m m':Str->Option Value}(N:h.Ns a m)(N':h.Ns a m')(x:Str):m x=m' x:=by
 obtain ⟨o,es,ep,g1,g2,_,g4⟩:=N
 obtain ⟨o',D2,VP,TF,Mw,_,TG⟩:=N'
 cases bF g1 TF
 cases g2.symm.trans Mw
 exact(g4 x).symm.trans (TG x)
theorem Mx(w:World):gf w.params 3 "law"=some (.ref (iS 41)):=by kernel_rfl
set_option tactic.hygienic true in
theorem holds_of(LR:zZ):PySem.Challenge.rw_sa0237_01.Holds:=by
 w_on
 refine holds_law Mh λMh=> ?_
 refine holds_open (q:=q0) (loose:=fx) (Xt:=Mf) (XP:=λO O=>True) (Yf:=λs=>s.heap) (Ya:=λw=>H1 w) (YP:=λw h=>∀a o,(H1 w).get? a=some o->h.get? a=some o) (N:=7000) (left λO O=>rfl) (λO O e O O h=>e▸h) (λO O O h k a o e=>k a o (h a o e)) (λs e=>a_) (λO O O O O=>a_) (by rfl) (by rfl) (by rfl) (λs e=>recFacts_of e) (by rfl) (by first | assumption | decide+kernel) (by decide+kernel) ⟨rfl,rfl,rfl,rfl,rfl,by decide+kernel⟩ ?hw ?hc
 case hw=>w_witness2
 intro w Vz c8 mg mb G iP fa o pm cd doc dV kV ho hd nH hD TH hg args vals as RA RB TJ TK Hz
 wrow_args RA RB TJ TK Hz
 rename_i ns hs Vv VQ hr VS VT VU a vs VV hL ra w1 r0 hI HK VA VW
 have RC:mg "law"=some (.ref fa):=TH
 have TL:fa=iS 41:=Value.ref.inj (Option.some.inj (RC.symm.trans ((Mv G.T.g ((i4 (D1 iP) (Mr w)).keeps (h':=c8.heap) (λb o e=>of_hideAll _ e)) _).trans (Mx w))))
 subst TL
 have run:=JB LR iP hL hI (by omega)
 refine wpAny_call (codeAny_mono run λr s' z=> ?_)
 obtain ⟨h',t',rfl,rfl,keep⟩:=z
 refine⟨.inl ⟨.bool true,.bool true,[],rfl,λcls=>rfl,.bool true,?hp,λO=>⟨by simp,by simp⟩⟩,.of_keep keep,rfl,.of_eq hg⟩
 case hp=>wrow_post
end FR
end
namespace FR.Q
open PySem
theorem d5:aj 5=some ug:=rfl
theorem My:aj 102=some kS:=rfl
theorem RE:aj 105=some jM:=rfl
theorem RF:aj 106=some iR:=rfl
noncomputable abbrev Es:=List (Key×PV)
structure Tb where
 R:Int->List Row
 keys:List Int
 txt:List (List Nat)
 gG:List (List Nat)
noncomputable def bH{S X:Type}(step:S->Nat->X->S×List PV):S->Nat->List X->S×List PV
 |s,_,[]=>(s,[])
 |s,k,x::l=>((bH step (step s k x).1 (k+1) l).1,(step s k x).2++(bH step (step s k x).1 (k+1) l).2)
noncomputable abbrev big(T:List PV):Prop:=T.length<=65536
theorem big.aS{T:List PV}(h:big T):aS T=true:=decide_eq_true h
noncomputable def cl(r:Row)(k:Nat):Int:=r.getD k 0
noncomputable def bI{X:Type}(p:Nat->X->List PV):Nat->List X->List PV
 |_,[]=>[]
 |k,x::l=>p k x++bI p (k+1) l
theorem D3{X:Type}(p:Nat->X->List PV)(l:List X):∀k:Nat,(bH (λ(O:Unit) k x=>((),p k x)) () k l)=((),bI p k l):=by
 induction l with
 |nil=>exact λO=>rfl
 |cons x l ih=>exact λk=>congrArg (λq:Unit×List PV=>(q.1,p k x++q.2)) (ih (k+1))
noncomputable def cL(m:Int):Nat->List Int
 |0=>[]
 |n+1=>m::cL (m+1) n
theorem uD(k:Nat):∀m x:Int,x∈cL m k↔m<=x/\x<m+k:=by
 induction k with
 |zero=>exact λm x=>⟨λh=>absurd h List.not_mem_nil,λh=>absurd (Int.add_zero m▸h.2) (Int.not_lt.mpr h.1)⟩
 |succ k ih=>
  intro m x
  have e:m+1+(k:Int)=m+((k+1:Nat):Int):=by rw[Int.add_assoc,Int.add_comm 1];rfl
  refine List.mem_cons.trans ⟨λh=>h.elim (λh=>h▸⟨Int.le_refl _,Int.lt_add_of_pos_right _ (Int.natCast_pos.mpr (Nat.succ_pos k))⟩) λh=> ?_,λh=> ?_⟩
  ·have h:=(ih _ _).mp h
   exact⟨Int.le_of_lt h.1,e▸h.2⟩
  ·by_cases q:x=m
   ·exact .inl q
   ·exact .inr ((ih _ _).mpr ⟨Int.lt_iff_le_and_ne.mpr ⟨h.1,Ne.symm q⟩,e.symm▸h.2⟩)
noncomputable def c6{α:Type}(l:List α)(k:Int):Option α:=if k<0 then .none else l[k.toNat]?
noncomputable def jI(s:List Nat):PV:=.ah (s.map λ(n:Nat)=>PV.int n)
noncomputable def coded:Int->Int×List Int
 |0=>(2,[2,1,27])
 |1=>(2,[4,8,23])
 |2=>(3,[2,1,-1,6,27])
 |3=>(1,[20,23])
 |4=>(1,[6,10])
 |5=>(2,[0,-1,35,1])
 |6=>(1,[2,6])
 |_=>(0,[])
noncomputable def dm(c n:Int):Option (Int×Int):=
 match (coded c).2[(Builtin.bitAnd n (2 ^ (coded c).1.toNat-1)).toNat]? with
 |some t=>if t<0 then .none else some (t,n.fdiv (2 ^ (coded c).1.toNat))
 |.none=>.none
noncomputable def cnt(B:Tb)(t:Int):Int:=((B.R t).length:Int)
noncomputable def bz(B:Tb)(t k:Int):Row:=(B.R t).getD (k-1).toNat []
noncomputable def isIf(r:Row):Bool:= !decide (Builtin.bitAnd (cl r 0) 32=0)
noncomputable def ov(m t:Int):Bool:=if t=20 then (decide (m=8)||decide (m=16)) else (decide (m=1)||decide (m=2))
noncomputable def dq(B:Tb)(sort k:Int)(none:Bool):Bool:=
 if sort<512 then decide (k>=1)&&decide (k<=cnt B (sort-256))
 else match dm (sort-512) k with
  |.none=>true
  |some p=>if p.2=0 then none else decide (p.2>=1)&&decide (p.2<=cnt B p.1)
noncomputable def fQ(B:Tb)(t:Int)(p:Nat)(k:Int):Int:=cl (bz B t k) p
noncomputable def gH(B:Tb)(t:Int)(p:Nat)(o k:Int):Int:=if k<cnt B t then cl (bz B t (k+1)) p else cnt B o+1
noncomputable def je{X:Type}(p:Nat->X->Option Int):Nat->List X->Option Int
 |_,[]=>.none
 |k,x::l=>match p k x with
  |some v=>some v
  |.none=>je p (k+1) l
noncomputable def xA(B:Tb)(t:Int)(p:Nat)(o k:Int)(_:Nat)(x:Int):Option Int:=if (decide (k>=fQ B t p x)&&decide (k<gH B t p o x))=true then some x else .none
noncomputable def eQ(B:Tb)(t:Int)(p:Nat)(o k:Int):Int:=(je (xA B t p o k) 0 (cL 1 (cnt B t).toNat)).getD 0
noncomputable def lists:List Row:=[[2,4,4],[2,5,6],[6,5,8],[18,1,20],[21,1,23]]
noncomputable def fj(t P:Int):Bool:=lists.any λr=>decide (cl r 0=t)&&decide (cl r 1=P)
noncomputable def qX(t:Int):List Int->Bool
 |[]=>false
 |y::r=>decide (y=t)||qX t r
noncomputable def tM(t:List Nat):List (List Nat)->Bool
 |[]=>false
 |y::r=>decide (y=t)||tM t r
noncomputable def B1:List Int:=[4,6,10,17,23,27,43]
noncomputable def B2:List (List Nat):=[[83,105,103,110,97,116,117,114,101],[84,121,112,101],[73,110,115,116,97,110,116,105,97,116,105,111,110]]
noncomputable def jy(B:Tb)(t:Int)(nm:List Nat)(sort off:Int):Bool:=
 if sort=4 then (c6 B.txt off).isSome
 else if sort=5 then match c6 B.gG off with
  |some s=>decide ((s.length:Int)>0)||(!qX t B1|| !tM nm B2)
  |.none=>false
 else true
noncomputable def look{α:Type}(d:α):List (Int×α)->Int->α
 |[],_=>d
 |p::r,t=>if p.1=t then p.2 else look d r t
noncomputable def bB(t:Int):List (List Nat×Int):=look [] rF t
noncomputable def aL:List Int:=[0,1,2,4,6,8,9,10,11,17,18,20,21,23,24,25,27,32,35,41,42,43,44]
theorem xB{α:Type}{d:α}{l:List (Int×α)}{t:Int}(h:t∈l.map (·.1)):(t,look d l t)∈l:=by
 induction l with
 |nil=>exact absurd h List.not_mem_nil
 |cons p r ih=>
  show (t,if p.1=t then p.2 else look d r t)∈p::r
  by_cases e:p.1=t
  ·rw[if_pos e,<-e];exact cR
  ·rw[if_neg e];exact List.mem_cons_of_mem _ (ih ((List.mem_cons.mp h).resolve_left λh=>e h.symm))
theorem D4{α:Type}{d:α}(f:α->PV){l:List (Int×α)}{t:Int}(h:t∈l.map (·.1)):my (l.map (·.1)) (l.map λp=>f p.2) t=some (f (look d l t)):=by
 induction l with
 |nil=>exact absurd h List.not_mem_nil
 |cons p r ih=>
  show (if p.1=t then some (f p.2) else my (r.map (·.1)) (r.map λp=>f p.2) t)=some (f (if p.1=t then p.2 else look d r t))
  by_cases e:p.1=t
  ·rw[if_pos e,if_pos e]
  ·rw[if_neg e,if_neg e];exact ih ((List.mem_cons.mp h).resolve_left λh=>e h.symm)
theorem JC{t:Int}(h:t∈aL):index uh (.int t) []=some (.ah ((bB t).map ec)):=D4 (l:=rF) (d:=[]) (λl=>PV.ah (l.map ec)) h
noncomputable def pz(c:List Nat×Int):Bool:=decide (c.2<512)||(decide (512<=c.2)&&decide (c.2<=518))
theorem z0{t:Int}(h:t∈aL):∀c∈bB t,pz c=true:=by
 have k:(rF.all λp=>p.2.all pz)=true:=rfl
 exact List.all_eq_true.mp (List.all_eq_true.mp k _ (xB h))
theorem Gg{l:List (Int×List (List Nat×Int))}(t:Int)(h:(l.all λp=>decide (p.2.length<=9))=true):(look [] l t).length<=9:=by
 induction l with
 |nil=>exact Nat.zero_le _
 |cons p r ih=>
  have h:=b_ h
  show (if p.1=t then p.2 else look [] r t).length<=9
  by_cases e:p.1=t
  ·rw[if_pos e];exact bV h.1
  ·rw[if_neg e];exact ih h.2
theorem fk(t:Int):(bB t).length<=9:=Gg t rfl
noncomputable def nz(i:Int):Bool:=i != 0
noncomputable def sj:List Nat:=[116,97,103]
noncomputable def HL(B:Tb)(t:Int)(j:Nat)(s:Int):List PV:=bI (λk r=>if (dm s (cl r j)).isNone then [aG t (k+1) sj] else []) 0 (B.R t)
noncomputable def B3(B:Tb)(t:Int):List PV:=bI (λj c=>if decide (c.2>=512) then HL B t j (c.2-512) else []) 0 (bB t)
noncomputable def tags(B:Tb):List PV:=bI (λO t=>B3 B t) 0 B.keys
noncomputable def gg:List Nat:=[112,97,114,101,110,116]
noncomputable def i5(t:Int)(nm:List Nat):Bool:=(decide (2=t)&&(decide ([69,120,116,101,110,100,115]=nm)&&true))||((decide (20=t)&&(decide ([69,118,101,110,116,84,121,112,101]=nm)&&true))||false)
noncomputable def B4(B:Tb)(t:Int)(j:Nat)(s:Int)(m:Bool):List PV:=bI (λk r=>if !dq B s (cl r j) m then [aG t (k+1) gg] else []) 0 (B.R t)
noncomputable def Gh(B:Tb)(t:Int):List PV:=bI (λj c=>if decide (c.2<256)||fj t j then [] else B4 B t j c.2 (i5 t c.1)) 0 (bB t)
noncomputable def parents(B:Tb):List PV:=bI (λO t=>Gh B t) 0 B.keys
noncomputable def lX:List Nat:=[104,101,97,112]
noncomputable def HM(B:Tb)(t:Int)(j:Nat)(c:List Nat×Int):List PV:=bI (λk r=>if !jy B t c.1 c.2 (cl r j) then [aG t (k+1) lX] else []) 0 (B.R t)
noncomputable def B5(B:Tb)(t:Int):List PV:=bI (λj c=>HM B t j c) 0 (bB t)
noncomputable def B6(B:Tb):List PV:=bI (λO t=>B5 B t) 0 B.keys
noncomputable def fy:List Nat:=[108,105,115,116]
noncomputable def B7(B:Tb)(p:Nat)(o last:Int)(k:Nat)(r:Row):Bool:=decide (cl r p<last)||(decide (cl r p>cnt B o+1)||(decide ((k:Int)=0)&& !decide (cl r p=1)))
noncomputable def pA(B:Tb)(t:Int)(p:Nat)(o:Int)(last:Int)(k:Nat)(r:Row):Int×List PV:=
 if B7 B p o last k r then (last,[aG t (k+1) fy]) else (cl r p,[])
noncomputable def listOf(B:Tb)(t:Int)(p:Nat)(o:Int):List PV:=(if decide (cnt B t=0)&&decide (cnt B o>0) then [aG o 1 fy] else [])++(bH (pA B t p o) 1 0 (B.R t)).2
noncomputable def xC(B:Tb):List PV:=bI (λO r=>listOf B (cl r 0) (cl r 1).toNat (cl r 2)) 0 lists
theorem hY(k:Key)(v:PV)(es:Es):(cn es k v).length<=es.length+1:=by
 induction es with
 |nil=>exact Nat.le_refl _
 |cons p r ih=>
  show (if p.1=k then (p.1,v)::r else p::cn r k v).length<=_
  by_cases h:p.1=k
  ·rw[if_pos h];exact Nat.le_succ _
  ·rw[if_neg h];exact Nat.succ_le_succ ih
noncomputable def one:PV:=.int 1
noncomputable def B8:List Nat:=[109,97,112]
structure iG(B:Tb):Prop where
 len:∀t,(B.R t).length<=60000
 txt:B.txt.length<=60000
 gG:∀s∈B.gG,s.length<=60000
structure Shape(B:Tb):Prop extends iG B where
 keys:∀t∈B.keys,t∈aL
 OY:B.keys.length<=23
 nI:∀t,∀r∈B.R t,r.length=(bB t).length
structure Sound(B:Tb):Prop extends Shape B where
 tx:∀t,∀r∈B.R t,∀(j:Nat),((bB t)[j]?.map Prod.snd)=some 4->∃s,c6 B.txt (cl r j)=some s
 bl:∀t,∀r∈B.R t,∀(j:Nat),((bB t)[j]?.map Prod.snd)=some 5->∃s,c6 B.gG (cl r j)=some s
 nr:∀t,∀r∈B.R t,∀(j:Nat)(c:List Nat×Int),(bB t)[j]? =some c->(decide (c.2<256)||fj t j)=false->dq B c.2 (cl r j) (i5 t c.1)=true
 tg:∀t,∀r∈B.R t,∀(j:Nat)(c:List Nat×Int),(bB t)[j]? =some c->c.2>=512->∃p,dm (c.2-512) (cl r j)=some p
 ls:∀l∈lists,∀r∈B.R (cl l 0),1<=cl r (cl l 1).toNat/\cl r (cl l 1).toNat<=cnt B (cl l 2)+1
noncomputable def nm(B:Tb)(k:Int):List Nat:=(c6 B.txt k).getD []
noncomputable def bb(B:Tb)(k:Int):List Nat:=(c6 B.gG k).getD []
noncomputable def kx:List Nat:=[110,97,109,101]
noncomputable def named:List (Int×List Nat×Nat):=[(0,[78,97,109,101],1),(1,[84,121,112,101,78,97,109,101],1),(2,[84,121,112,101,78,97,109,101],1),(4,[78,97,109,101],1),(6,[78,97,109,101],3),(10,[78,97,109,101],1),(20,[78,97,109,101],1),(23,[78,97,109,101],1),(32,[78,97,109,101],7),(35,[78,97,109,101],6),(42,[78,97,109,101],3)]
noncomputable def en(x:Int×List Nat×Nat):PV:=.ah [.int x.1,.str x.2.1]
noncomputable def B9(B:Tb)(t:Int)(p:Nat):List PV:=bI (λk r=>if decide (nm B (cl r p)=[]) then [aG t (k+1) kx] else []) 0 (B.R t)
noncomputable def names(B:Tb):List PV:=bI (λO x=>B9 B x.1 x.2.2) 0 named
noncomputable def tO:List Nat:=[99,99,116,111,114]
noncomputable def lY(B:Tb):List PV:=bI (λk r=>if decide (nm B (cl r 3)=[46,99,99,116,111,114]) then (if !nz (Builtin.bitAnd (cl r 2) 16)|| !decide (bb B (cl r 4)=[0,0,1]) then [aG 6 (k+1) tO] else []) else []) 0 (B.R 6)
noncomputable def tP:List Nat:=[112,97,114,97,109]
noncomputable def HN(B:Tb)(last:Int)(_:Nat)(x:Int):Int×List PV:=
 (cl (bz B 8 x) 1,if decide (cl (bz B 8 x) 1<=last) then [aG 8 x tP] else [])
noncomputable def z4(B:Tb)(k:Int):List PV:=(bH (HN B) (-1) 0 (cL (fQ B 6 5 k) (gH B 6 5 8 k-fQ B 6 5 k).toNat)).2
noncomputable def params(B:Tb):List PV:=bI (λO k=>z4 B k) 0 (cL 1 (cnt B 6).toNat)
noncomputable def lZ:List Nat:=[105,102,97,99,101]
noncomputable def Mz(B:Tb)(x0 x1:Int):List PV:=bI (λO x=>if !nz (Builtin.bitAnd (cl (bz B 4 x) 0) 16) then [aG 4 x lZ] else []) 0 (cL x0 (x1-x0).toNat)
noncomputable def xD(B:Tb)(k:Nat)(r:Row):List PV:=if isIf r then (if nz ((cl r 3).fdiv 4) then [aG 2 (k+1) lZ] else [])++Mz B (fQ B 2 4 (k+1)) (gH B 2 4 4 (k+1)) else []
noncomputable def l5(B:Tb):List PV:=bI (xD B) 0 (B.R 2)
noncomputable def sk:List Nat:=[98,111,100,121]
noncomputable def tQ(r:Row):Bool:= !decide (decide (cl r 0=0)=(!decide (Builtin.bitAnd (cl r 2) 1024=0)||decide (cl r 1>4096)))
noncomputable def l7(l:List Row):List PV:=bI (λk r=>if tQ r then [aG 6 (k+1) sk] else []) 0 l
noncomputable abbrev IM:=List (Int×Int)
noncomputable def cD:IM->Int->Option Int
 |[],_=>.none
 |p::r,k=>if p.1=k then some p.2 else cD r k
noncomputable def gM:IM->Int->Int->IM
 |[],k,v=>[(k,v)]
 |p::r,k,v=>if p.1=k then (p.1,v)::r else p::gM r k v
noncomputable def ce(l:IM):Es:=l.map λp=>(.int p.1,.int p.2)
theorem pB{a b:Int}(h:Key.int a=Key.int b):a=b:=by cases h;rfl
theorem tR(k:Int)(l:IM):bj (ce l) (.int k)=(cD l k).map .int:=by
 induction l with
 |nil=>rfl
 |cons p r ih=>
  show (if Key.int p.1=Key.int k then some (PV.int p.2) else bj (ce r) (.int k))=(if p.1=k then some p.2 else cD r k).map .int
  by_cases h:p.1=k
  ·rw[if_pos (congrArg Key.int h),if_pos h];rfl
  ·rw[if_neg λe=>h (pB e),if_neg h,ih]
theorem MA(k v:Int)(l:IM):cn (ce l) (.int k) (.int v)=ce (gM l k v):=by
 induction l with
 |nil=>rfl
 |cons p r ih=>
  show (if Key.int p.1=Key.int k then (Key.int p.1,PV.int v)::ce r else (Key.int p.1,PV.int p.2)::cn (ce r) (.int k) (.int v))=ce (if p.1=k then (p.1,v)::r else p::gM r k v)
  by_cases h:p.1=k
  ·rw[if_pos (congrArg Key.int h),if_pos h];rfl
  ·rw[if_neg λe=>h (pB e),if_neg h,ih];rfl
theorem mX(k v:Int)(l:IM):(gM l k v).length<=l.length+1:=by
 induction l with
 |nil=>exact Nat.le_refl _
 |cons p r ih=>
  show (if p.1=k then (p.1,v)::r else p::gM r k v).length<=_
  by_cases h:p.1=k
  ·rw[if_pos h];exact Nat.le_succ _
  ·rw[if_neg h];exact Nat.succ_le_succ ih
noncomputable def HO(t:Int)(m:IM)(k:Nat)(r:Row):IM×List PV:=(gM m (cl r 0) 1,if (cD m (cl r 0)).isSome then [aG t (k+1) B8] else [])
noncomputable def vF(B:Tb)(t:Int):List PV:=(bH (HO t) [] 0 (B.R t)).2
noncomputable def Ca(B:Tb):List PV:=bI (λO t=>vF B t) 0 [18,21]
noncomputable def xF:List Nat:=[105,109,112,108]
noncomputable def fH(a b:Int):Key:=.ah [.i a,.i b]
noncomputable def bW(_:Tb)(c k:Int):Int×Int:=(dm c k).getD (0,0)
noncomputable def stepI(B:Tb)(es:Es)(k:Nat)(r:Row):Es×List PV:=(cn es (fH (cl r 0) (cl r 2)) one,
 if !decide ((bW B 4 (cl r 1)).1=6)|| !decide (eQ B 2 5 6 (bW B 4 (cl r 1)).2=cl r 0) then [aG 25 (k+1) xF] else if (bj es (fH (cl r 0) (cl r 2))).isSome then [aG 25 (k+1) xF] else [])
noncomputable def pC(B:Tb):List PV:=(bH (stepI B) [] 0 (B.R 25)).2
noncomputable def qY:List Nat:=[110,117,109,98,101,114]
noncomputable def eR:List Nat:=[116,119,105,99,101]
noncomputable def Gi(B:Tb)(r:Row):Key:=.ah [.i (cl r 2),.s (nm B (cl r 3))]
noncomputable def vG(B:Tb)(s:IM×Es)(k:Nat)(r:Row):(IM×Es)×List PV:=
 ((gM s.1 (cl r 2) (cl r 0+1),cn s.2 (Gi B r) one),
 (if !decide (cl r 0=(cD s.1 (cl r 2)).getD 0) then [aG 42 (k+1) qY] else [])++(if (bj s.2 (Gi B r)).isSome then [aG 42 (k+1) eR] else []))
noncomputable def i6(B:Tb):List PV:=(bH (vG B) ([],[]) 0 (B.R 42)).2
noncomputable def gC:List Nat:=[99,111,110,115,116,97,110,116]
noncomputable def MB(B:Tb)(es:Es)(p:Int×Int):Bool:=(bj es (fH p.1 p.2)).isSome||(!decide (p.1=4)|| !nz (Builtin.bitAnd (cl (bz B 4 p.2) 0) 64))
noncomputable def stepK(B:Tb)(es:Es)(k:Nat)(r:Row):Es×List PV:=
 (cn es (fH (bW B 1 (cl r 1)).1 (bW B 1 (cl r 1)).2) one,if MB B es (bW B 1 (cl r 1)) then [aG 11 (k+1) gC] else [])
noncomputable def Gj(es:Es)(k:Nat)(r:Row):Bool:=
 !decide ((!decide (Builtin.bitAnd (cl r 0) 32768=0))=(bj es (fH 4 (k+1))).isSome)||
 (nz (Builtin.bitAnd (cl r 0) 64)&& !((bj es (fH 4 (k+1))).isSome&&nz (Builtin.bitAnd (cl r 0) 16)))
noncomputable def MC(es:Es)(l:List Row):List PV:=bI (λk r=>if Gj es k r then [aG 4 (k+1) gC] else []) 0 l
noncomputable def constants(B:Tb):List PV:=(bH (stepK B) [] 0 (B.R 11)).2++MC (bH (stepK B) [] 0 (B.R 11)).1 (B.R 4)
noncomputable def cB(t:Int):Int:=if t=20 then 18 else 21
noncomputable def xG(B:Tb)(t k:Int):Int:=if eQ B (cB t) 1 t k=0 then-1 else cl (bz B (cB t) (eQ B (cB t) 1 t k)) 0
noncomputable def iH(k:Int):Int:=Builtin.bitOr (k*2) 0
noncomputable def pD:List Nat:=[115,101,109,97,110,116,105,99,115]
noncomputable def fh(B:Tb)(es:Es)(k:Nat)(r:Row):Es×List PV:=(cn es (fH (cl r 0) (cl r 2)) one,
 if !ov (cl r 0) (bW B 3 (cl r 2)).1||(bj es (fH (cl r 0) (cl r 2))).isSome then [aG 24 (k+1) pD]
 else if !decide (eQ B 2 5 6 (cl r 1)=xG B (bW B 3 (cl r 2)).1 (bW B 3 (cl r 2)).2) then [aG 24 (k+1) pD] else [])
noncomputable def MD(es:Es)(m:Int):List PV:=bI (λO x=>if !(bj es (fH 8 (iH x))).isSome|| !(bj es (fH 16 (iH x))).isSome then [aG 20 x pD] else []) 0 (cL 1 m.toNat)
noncomputable def gh(B:Tb):List PV:=(bH (fh B) [] 0 (B.R 24)).2++MD (bH (fh B) [] 0 (B.R 24)).1 (cnt B 20)
noncomputable def ky:List Nat:=[115,105,110,103,108,101]
noncomputable def mY:List Nat:=[109,111,100,117,108,101]
noncomputable def modName:List Nat:=[60,77,111,100,117,108,101,62]
noncomputable def D5(B:Tb):Bool:=match B.R 2 with
 |[]=>true
 |r::_=> !decide (nm B (cl r 1)=modName)||(isIf r||nz ((cl r 3).fdiv 4))
noncomputable def jZ(B:Tb):List PV:=bI (λO t=>if !decide (cnt B t=1) then [aG t (cnt B t) ky] else []) 0 [0,32]++(if D5 B then [aG 2 1 mY] else [])
noncomputable def hZ:List Nat:=[110,101,115,116,101,100]
noncomputable def jf(m:IM)(k:Nat)(r:Row):IM×List PV:=
 if (cD m (cl r 0)).isSome then (m,[aG 41 (k+1) hZ]) else (gM m (cl r 0) (cl r 1),[])
noncomputable def walk(m:IM)(r0:Int):Nat->Int->Int
 |0,x=>x
 |d+1,x=>match cD m x with
  |some v=>if x=r0 then x else walk m r0 d v
  |.none=>x
noncomputable def OZ(m:IM)(l:List Row):List PV:=bI (λk r=>if decide (walk m (cl r 0) (m.length+1) (cl r 1)=cl r 0) then [aG 41 (k+1) hZ] else []) 0 l
noncomputable def nested(B:Tb):List PV:=(bH jf [] 0 (B.R 41)).2++OZ (bH jf [] 0 (B.R 41)).1 (B.R 41)
noncomputable def qZ:List Nat:=[99,111,114,101]
noncomputable def xH:List Nat:=[79,98,106,101,99,116]
noncomputable def inner(B:Tb):List Int:=(B.R 41).map λr=>cl r 0
noncomputable def HP(B:Tb)(k:Nat)(r:Row):Option Int:=if (decide (nm B (cl r 2)=[])&&(decide (nm B (cl r 1)=xH)&&true))&& !qX (k+1) (inner B) then some ((k:Int)+1) else .none
noncomputable def lg(B:Tb):Int:=if decide (cnt B 32=0)|| !decide (nm B (cl (bz B 32 1) 7)=qZ) then 0 else (je (HP B) 0 (B.R 2)).getD 0
noncomputable def kz:List Nat:=[98,97,115,101]
noncomputable def tS(B:Tb)(root x:Int):Bool:= !isIf (bz B 2 x)&& !decide (decide ((cl (bz B 2 x) 3).fdiv 4=0)=decide (x=root))
noncomputable def bases(B:Tb):List PV:=bI (λO x=>if tS B (lg B) x then [aG 2 x kz] else []) 0 (cL 2 (cnt B 2-1).toNat)
noncomputable def encl(B:Tb):IM:=(bH (λ(m:IM) O r=>(gM m (cl r 0) (cl r 1),[])) [] 0 (B.R 41)).1
noncomputable def Cb(a:Int)(s t:List Nat):Key:=.ah [.i a,.s s,.s t]
noncomputable def stepT(B:Tb)(m:IM)(es:Es)(k:Nat)(r:Row):Es×List PV:=
 (cn es (Cb ((cD m (k+1)).getD 0) (nm B (cl r 2)) (nm B (cl r 1))) one,if (bj es (Cb ((cD m (k+1)).getD 0) (nm B (cl r 2)) (nm B (cl r 1)))).isSome then [aG 2 (k+1) eR] else [])
noncomputable def vH(B:Tb)(es:Es)(k:Nat)(r:Row):Es×List PV:=
 (cn es (Cb (cl r 0) (nm B (cl r 2)) (nm B (cl r 1))) one,if (bj es (Cb (cl r 0) (nm B (cl r 2)) (nm B (cl r 1)))).isSome then [aG 1 (k+1) eR] else [])
noncomputable def mZ(B:Tb)(r:Row)(sp:Int):List Nat:=if sp>=0 then bb B (cl r sp.toNat) else []
noncomputable def q9(s:List Nat)(b:List Nat):Key:=.ah [.s s,.n (b.map λ(n:Nat)=>(n:Int))]
noncomputable def sq(B:Tb)(o:Int)(np:Nat)(sp:Int)(es:Es)(_:Nat)(x:Int):Es×List PV:=
 (cn es (q9 (nm B (cl (bz B o x) np)) (mZ B (bz B o x) sp)) one,if (bj es (q9 (nm B (cl (bz B o x) np)) (mZ B (bz B o x) sp))).isSome then [aG o x eR] else [])
noncomputable def xI(B:Tb)(t:Int)(p:Nat)(o:Int)(np:Nat)(sp:Int)(k:Int):List PV:=(bH (sq B o np sp) [] 0 (cL (fQ B t p k) (gH B t p o k-fQ B t p k).toNat)).2
noncomputable def d0(B:Tb)(t:Int)(p:Nat)(o:Int)(np:Nat)(sp:Int):List PV:=bI (λO k=>xI B t p o np sp k) 0 (cL 1 (cnt B t).toNat)
noncomputable def kA(B:Tb):List PV:=(bH (vH B) [] 0 (B.R 1)).2
noncomputable def kB(B:Tb):List PV:=(bH (stepT B (encl B)) [] 0 (B.R 2)).2
noncomputable def ow(B:Tb):List PV:=kB B++(kA B++(d0 B 2 4 4 1 2++(d0 B 2 5 6 3 4++(d0 B 21 1 23 1 2++d0 B 18 1 20 1 (-1)))))
noncomputable def early(B:Tb):List PV:=tags B++(parents B++(xC B++B6 B))
noncomputable def rf(B:Tb):List PV:=jZ B++(Ca B++(names B++(ow B++(l5 B++(bases B++(lY B++(l7 (B.R 6)++(constants B++(params B++(i6 B++(gh B++(pC B++nested B))))))))))))
theorem bA(Z:af)(i:Nat)(o:MO)(h:ar Z i=some o):i<Z.length:=FR.bA h
theorem dJ(Z:af)(x:af)(i:Nat)(h:i<Z.length):ar (Z++x) i=ar Z i:=FR.dJ h
theorem bM(Z:af)(o:MO):ar (Z++[o]) Z.length=some o:=FR.bM Z o
theorem fT(Z:af)(i:Nat)(x:MO):(sset Z i x).length=Z.length:=FR.fT Z i x
theorem bO(Z:af)(i j:Nat)(x:MO)(h:j≠i):ar (sset Z i x) j=ar Z j:=FR.bO Z x h
theorem eN(Z:af)(i:Nat)(x:MO)(h:i<Z.length):ar (sset Z i x) i=some x:=FR.eN Z x h
theorem PS(Z:af)(i j:Nat)(x:MO):ar (sset Z i x) j=if j=i/\i<Z.length then some x else ar Z j:=by
 by_cases h:j=i
 ·subst h
  by_cases hl:j<Z.length
  ·rw[if_pos ⟨rfl,hl⟩,eN Z j x hl]
  ·rw[if_neg λh=>hl h.2]
   cases e:ar Z j with
   |some o=>exact absurd (bA Z j o e) hl
   |none=>cases e':ar (sset Z j x) j with
    |none=>rfl
    |some o=>exact absurd (fT Z j x▸bA _ j o e') hl
 ·rw[if_neg λc=>h c.1,bO Z i j x h]
structure KE(it:Nat)(Z ag:af):Prop where
 len:Z.length<=ag.length
 keep:∀i o,i≠it->ar Z i=some o->ar ag i=some o
theorem KE.refl(it:Nat)(Z:af):KE it Z Z:=⟨Nat.le_refl _,λO O O h=>h⟩
theorem KE.trans{it:Nat}{a b c:af}(h:KE it a b)(g:KE it b c):KE it a c:=
 ⟨bJ h.len g.len,λi o hi ho=>g.keep i o hi (h.keep i o hi ho)⟩
theorem KE.new(it:Nat)(Z:af)(o:MO):KE it Z (Z++[o]):=
 ⟨by rw[List.length_append];exact Nat.le_add_right _ _,λi p O hp=>(dJ Z [o] i (bA Z i p hp)).trans hp⟩
theorem KE.put(it:Nat)(Z:af)(o:MO):KE it Z (sset Z it o):=
 ⟨Nat.le_of_eq (fT Z it o).symm,λi O hi hp=>(bO Z it i o hi).trans hp⟩
structure Wc where
 it:Nat
 jt:Nat
 jx:Nat
 jb:Nat
 B:Tb
 kC:af
noncomputable def WS(c:Wc)(T:List PV)(Z:af):Prop:=(∀i,i<c.it->ar Z i=ar c.kC i)/\ar Z c.it=some (.list T)
theorem WS.lt{c:Wc}{T:List PV}{Z:af}(h:WS c T Z):c.it<Z.length:=bA _ _ _ h.2
theorem WS.new{c:Wc}{T:List PV}{Z:af}(h:WS c T Z)(o:MO):WS c T (Z++[o]):=
 ⟨λi hi=>(dJ Z [o] i (Nat.lt_trans hi h.lt)).trans (h.1 i hi),(dJ Z [o] _ h.lt).trans h.2⟩
theorem WS.put{c:Wc}{T:List PV}{Z:af}(h:WS c T Z)(T':List PV):WS c T' (sset Z c.it (.list T')):=
 ⟨λi hi=>(bO _ _ _ _ (Nat.ne_of_lt hi)).trans (h.1 i hi),eN _ _ _ h.lt⟩
inductive XV where
 |v (x:PV)
 |rl (w:Nat) (l:List Row)
 |d (kk:KK) (es:Es)
 |m (m:IM)
 |ts | tx | bl | aA
 |r (w:Nat) (r:Row)
 |rs (r:Row)
 |t (b:Bool)
 |o (s:List Nat)
 |kv (x:PV) (kk:KK) (k:Key)
 |il (l:List Int)
 |any
noncomputable def VX(c:Wc)(Z:af):XV->PV->Prop
 |.v x,p=>p=x
 |.rl w l,p=>∃i,p=.ref i/\i≠c.it/\ar Z i=some (.list (l.map pr))/\(∀r∈l,r.length=w)/\w<=65536
 |.d kk es,p=>∃r,p=.ref r/\c.it<r/\ar Z r=some (.dict kk es)
 |.m m,p=>∃r,p=.ref r/\c.it<r/\ar Z r=some (.dict .int (ce m))
 |.ts,p=>p=.inst 1 c.jt
 |.tx,p=>p=.inst 0 c.jx
 |.bl,p=>p=.inst 0 c.jb
 |.aA,p=>p=.ref c.it
 |.r w r,p=>p=pr r/\r.length=w/\w<=65536
 |.rs r,p=>p=pr r
 |.t b,p=>truth [] p=some b
 |.o s,p=>p=jI s
 |.kv x kk k,p=>p=x/\toKey kk x=some k
 |.il l,p=>∃i,p=.ref i/\i≠c.it/\ar Z i=some (.list (l.map .int))
 |.any,_=>False
noncomputable def jz(c:Wc)(Z:af):List XV->List PV->Prop
 |[],[]=>True
 |x::xs,v::vs=>VX c Z x v/\jz c Z xs vs
 |_,_=>False
theorem VX.mono{c:Wc}{Z ag:af}(k:KE c.it Z ag){x:XV}{v:PV}(h:VX c Z x v):VX c ag x v:=by
 cases x with
 |rl w l=>exact h.imp λi h=>⟨h.1,h.2.1,k.keep i _ h.2.1 h.2.2.1,h.2.2.2⟩
 |il l=>exact h.imp λi h=>⟨h.1,h.2.1,k.keep i _ h.2.1 h.2.2⟩
 |d kk es=>exact h.imp λi h=>⟨h.1,h.2.1,k.keep i _ (Nat.ne_of_gt h.2.1) h.2.2⟩
 |m m=>exact h.imp λi h=>⟨h.1,h.2.1,k.keep i _ (Nat.ne_of_gt h.2.1) h.2.2⟩
 |_=>exact h
theorem jz.mono{c:Wc}{Z ag:af}(k:KE c.it Z ag):∀{xs:List XV}{vs:List PV},jz c Z xs vs->jz c ag xs vs
 |[],[],_=>a_
 |_::_,_::_,h=>⟨h.1.mono k,jz.mono k h.2⟩
 |[],_::_,h=>h.elim
 |_::_,[],h=>h.elim
noncomputable def bQ:List XV->Nat->XV
 |[],_=>.any
 |x::_,0=>x
 |_::r,i+1=>bQ r i
noncomputable def dN:List XV->Nat->XV->List XV
 |[],_,_=>[]
 |_::r,0,x=>x::r
 |y::r,i+1,x=>y::dN r i x
noncomputable def gI:XV->Bool
 |.d _ _=>true
 |.m _=>true
 |_=>false
noncomputable def isA:XV->Bool
 |.any=>true
 |_=>false
structure LX(c:Wc)(n0:Nat)(Z:af)(aw:List XV)(J:aD):Prop where
 len:aw.length=J.length
 val:∀i,isA (bQ aw i)=false->∃v,bD J i=some v/\VX c Z (bQ aw i) v
 dn:∀i r,gI (bQ aw i)=true->bD J i=some (.ref r)->n0<=r
 al:∀i j r,gI (bQ aw i)=true->gI (bQ aw j)=true->bD J i=some (.ref r)->bD J j=some (.ref r)->i=j
theorem LX.mono{c:Wc}{n0:Nat}{Z ag:af}{aw:List XV}{J:aD}(h:LX c n0 Z aw J)(k:KE c.it Z ag):LX c n0 ag aw J:=
 {h with val:=λi hi=>(h.val i hi).imp λO g=>⟨g.1,g.2.mono k⟩}
noncomputable abbrev XR(α:Type):=Option (α×List Prop)
noncomputable def All:List Prop->Prop
 |[]=>True
 |p::r=>match r with
  |[]=>p
  |_::_=>p/\All r
theorem All.head{p:Prop}{r:List Prop}(h:All (p::r)):p/\All r:=by
 cases r with
 |nil=>exact⟨h,a_⟩
 |cons q r=>exact h
theorem All.app:∀{p q:List Prop},All (p++q)->All p/\All q
 |[],_,h=>⟨a_,h⟩
 |a::p,q,h=>by
  obtain ⟨h1,h2⟩:=All.head h
  obtain ⟨h3,h4⟩:=All.app h2
  refine⟨?_,h4⟩
  cases p with
  |nil=>exact h1
  |cons b p=>exact⟨h1,h3⟩
noncomputable def xb{α β:Type}(m:XR α)(k:α->XR β):XR β:=match m with
 |some (x,p)=>match k x with
  |some (y,q)=>some (y,p++q)
  |none=>none
 |none=>none
noncomputable def xo{α:Type}(m:Option α):XR α:=match m with
 |some x=>some (x,[])
 |none=>none
noncomputable def Sd{α:Type}(m:XR α)(P:α->Prop):Prop:=∀x ps,m=some (x,ps)->All ps->P x
section
variable{α β:Type}{P:α->Prop}{Q:β->Prop}
theorem Sd.none:Sd .none P:=λO O h=>nomatch h
theorem Sd.av{x:α}(h:P x):Sd (some (x,[])) P:=λO O e O=>by cases e;exact h
theorem Sd.opt{m:Option α}(h:∀x,m=some x->P x):Sd (xo m) P:=match m,h with
 |.none,_=>Sd.none
 |some x,h=>Sd.av (h x rfl)
theorem Sd.bind{m:XR α}{k:α->XR β}(h:Sd m P)(hk:∀x,P x->Sd (k x) Q):Sd (xb m k) Q:=match m,h with
 |.none,_=>Sd.none
 |some (x,p),h=>λz ps e a=>by
  simp only [xb] at e
  cases e2:k x with
  |none=>rw[e2] at e;cases e
  |some yq=>
   rw[e2] at e;cases e
   exact hk x (h x p rfl a.app.1) _ _ e2 a.app.2
end
noncomputable def sr{β:Type}(x:XV)(k:PV->XR β):XR β:=match x with
 |.v a=>k a
 |.r _ r=>k (pr r)
 |.rs r=>k (pr r)
 |.o s=>k (jI s)
 |.kv a _ _=>k a
 |_=>none
noncomputable def D6{β:Type}(x:XV)(k:PV->XR β):XR β:=match x with
 |.v a=>k a
 |_=>none
noncomputable def MF{β:Type}(a:PV)(k:Int->XR β):XR β:=match a with
 |.int i=>k i
 |_=>none
noncomputable def MG{β:Type}(a:PV)(k:List PV->XR β):XR β:=match a with
 |.ah l=>k l
 |_=>none
noncomputable def MH{β:Type}(a:PV)(k:List Nat->XR β):XR β:=match a with
 |.str l=>k l
 |_=>none
noncomputable def jA{β:Type}(x:XV)(k:Int->XR β):XR β:=D6 x λa=>MF a k
noncomputable def su{α β:Type}(m:Option α)(k:α->XR β):XR β:=match m with
 |some a=>k a
 |none=>none
noncomputable def D7{β:Type}(x:XV)(k:Bool->XR β):XR β:=match x with
 |.v a=>su (truth [] a) k
 |.t b=>k b
 |_=>none
noncomputable def HQ{β:Type}(kk:KK)(x:XV)(k:Key->XR β):XR β:=match x with
 |.kv _ PT k'=>if PT=kk then k k' else none
 |x=>sr x λv=>su (toKey kk v) k
noncomputable def ok{α:Type}(x:α):XR α:=some (x,[])
noncomputable def oy:XV->Bool
 |.v x=>match x with
  |.bool _=>true
  |_=>false
 |_=>false
noncomputable def Gk{β:Type}:List XV->(List PV->XR β)->XR β
 |[],k=>k []
 |x::r,k=>sr x λv=>Gk r λl=>k (v::l)
noncomputable def MJ(xs:List XV):XR XV:=match xs with
 |[]=>none
 |x::r=>match r with
  |[]=>none
  |y::r=>match r with
   |[]=>D6 x λa=>MH a λs=>match y with
    |.o u=>ok (.kv (.ah [.str s,jI u]) (.ah [.s,.n]) (q9 s u))
    |_=>none
   |_::_=>none
noncomputable def Gl(xs:List XV):XR XV:=match MJ xs with
 |some x=>some x
 |none=>Gk xs λvs=>if aS vs then ok (.v (.ah vs)) else none
noncomputable def yes(op:Cm)(b:Bool):XR Bool:=match op with
 |.isin=>ok b
 |.fK=>ok !b
 |_=>none
noncomputable def oz:PV->List Nat
 |.ah l=>l.map λx=>match x with
  |.int i=>i.toNat
  |_=>0
 |_=>[]
noncomputable def MK(op:Cm)(s:List Nat)(y:XV):XR Bool:=match op with
 |.ne=>D6 y λa=>some (!decide (s=oz a),[a=jI (oz a)])
 |_=>none
noncomputable def ML(op:Cm)(x y:XV):XR Bool:=sr x λa=>sr y λb=>su (kO op a b []) ok
noncomputable def MM(op:Cm)(x y:XV):XR Bool:=match y with
 |.d kk es=>HQ kk x λk=>yes op (bj es k).isSome
 |.m m=>jA x λi=>yes op (cD m i).isSome
 |.il l=>jA x λi=>yes op (qX i l)
 |y=>match x with
  |.o s=>MK op s y
  |x=>ML op x y
noncomputable def MN(x y:XV):XR XV:=match x with
 |.v a=>sr y λi=>su (index a i []) λr=>ok (.v r)
 |.r w r=>jA y λk=>if decide (0<=k)&&decide (k<(w:Int)) then ok (.v (.int (cl r k.toNat))) else none
 |.rs r=>jA y λk=>some (.v (.int (cl r k.toNat)),[0<=k/\k<r.length/\r.length<=65536])
 |.m m=>jA y λk=>some (.v (.int ((cD m k).getD 0)),[(cD m k).isSome=true])
 |.rl w l=>jA y λk=>if k=0 then match l with
  |r::_=>ok (.r w r)
  |[]=>none
  else none
 |_=>none
noncomputable def MP:XV->XR XV
 |.rl _ l=>some (.v (.int l.length),[aS l=true])
 |.m m=>some (.v (.int m.length),[aS (ce m)=true])
 |_=>none
noncomputable def Gm(x:XV):XR XV:=match isA x with
 |true=>none
 |false=>ok x
noncomputable def HR(B:Tb):XV->XR XV
 |.ts=>ok (.il B.keys)
 |_=>none
noncomputable def imp(a v:Bool):List Prop->List Prop
 |[]=>[]
 |p=>[a=v->All p]
noncomputable def PU(v:Bool)(m k:XR XV):XR XV:=match m with
 |some (x,p)=>match k with
  |some (y,q)=>D7 x λa=>D7 y λb=>some (bif oy x&&oy y then .v (.bool (bif v then a&&b else a||b)) else .t (bif v then a&&b else a||b),p++imp a v q)
  |none=>none
 |none=>none
section
variable(o:Nat->List XV->XR XV)(B:Tb)(J:List XV)
noncomputable def HS(x:XV)(n:Nat)(xs:List XV):XR XV:=match x with
 |.ts=>if n=3 then o 105 (.ts::xs) else if n=4 then o 106 (.ts::xs) else none
 |.m m=>if n=0 then match xs with
  |[]=>none
  |k::r=>jA k λk=>match r with
   |[]=>none
   |d::r=>jA d λd=>match r with
    |[]=>ok (.v (.int ((cD m k).getD d)))
    |_::_=>none
  else none
 |_=>none
mutual
noncomputable def xE:ME->XR XV
 |.k v=>ok (.v v)
 |.gl i=>ok (.v (ae i))
 |.aa i=>Gm (bQ J i)
 |.ah es=>xb (z5 es) Gl
 |.bin op a b=>xb (xE a) λx=>xb (xE b) λy=>jA x λi=>jA y λj=>su (gQ op i j) λz=>ok (.v (.int z))
 |.cmp op a b=>xb (xE a) λx=>xb (xE b) λy=>xb (MM op x y) λr=>ok (.v (.bool r))
 |.and es=>HT true es
 |.or es=>HT false es
 |.not e=>xb (xE e) λx=>D7 x λb=>ok (.v (.bool !b))
 |.neg e=>xb (xE e) λx=>jA x λi=>ok (.v (.int (-i)))
 |.aq a i=>xb (xE a) λx=>xb (xE i) λy=>MN x y
 |.aC f es=>xb (z5 es) λxs=>o f xs
 |.aO b e=>match b with
  |.len=>xb (xE e) MP
  |.sorted=>match e with
   |.attr e=>match e with
    |.aa i=>HR B (bQ J i)
    |_=>none
   |_=>none
  |_=>none
 |.aU e n es=>match e with
  |.aa i=>xb (z5 es) λxs=>HS o (bQ J i) n xs
  |_=>none
 |_=>none
noncomputable def z5:bZ->XR (List XV)
 |.nil=>some ([],[])
 |.cons e r=>xb (xE e) λx=>xb (z5 r) λxs=>some (x::xs,[])
noncomputable def HT(v:Bool):bZ->XR XV
 |.nil=>none
 |.cons e r=>match r with
  |.nil=>xE e
  |.cons e' r'=>PU v (xE e) (HT v (.cons e' r'))
end
end
noncomputable def cI(c:Wc)(Z:af)(T:List PV){α:Type}(P:α->af->Prop)(m:aF α):Prop:=∃v ag,m=some (.ok v,ag)/\WS c T ag/\KE c.it Z ag/\P v ag
noncomputable abbrev sv(c:Wc)(Z:af)(T:List PV)(x:XV)(m:aF PV):Prop:=cI c Z T (λv ag=>VX c ag x v) m
section
variable{c:Wc}{Z:af}{T:List PV}{α β:Type}{P:α->af->Prop}{Q:β->af->Prop}
theorem cI.ay{m:aF α}{k:α->af->aF β}(h:cI c Z T P m)(hk:∀v ag,WS c T ag->KE c.it Z ag->P v ag->cI c ag T Q (k v ag)):cI c Z T Q (ay m k):=by
 obtain ⟨v,ag,rfl,w,ke,p⟩:=h
 obtain ⟨u,s,e,w2,k2,q⟩:=hk v ag w ke p
 exact⟨u,s,e,w2,ke.trans k2,q⟩
theorem cI.av{v:α}(w:WS c T Z)(p:P v Z):cI c Z T P (av v Z):=⟨v,Z,rfl,w,.refl _ _,p⟩
theorem cI.read{x:Option α}{v:α}(w:WS c T Z)(e:x=some v)(p:P v Z):cI c Z T P (read Z x):=by rw[e];exact cI.av w p
theorem cI.lift{x:Option (α×af)}{v:α}(w:WS c T Z)(e:x=some (v,Z))(p:P v Z):cI c Z T P (lift x):=by rw[e];exact cI.av w p
theorem cI.pick{t:Option Bool}{b:Bool}{x y:aF α}(e:t=some b)(hx:b=true->cI c Z T P x)(hy:b=false->cI c Z T P y):cI c Z T P (pick t x y):=by
 rw[e];cases b with
 |true=>exact hx rfl
 |false=>exact hy rfl
end
noncomputable def dz(c:Wc)(cf:Nat->List PV->af->aF PV)(f:Nat)(xs:List XV)(x:XV):Prop:=∀vs T Z,jz c Z xs vs->WS c T Z->sv c Z T x (cf f vs Z)
structure uE(c:Wc):Prop where
 keys:∀T Z,WS c T Z->∃d,getAttr (.inst 1 c.jt) Z=some (.ref d)/\builtin .sorted (.ref d) Z=some (.ref Z.length,Z++[.list (c.B.keys.map .int)])
 PW:∀T Z,WS c T Z->∃r,ar Z c.jt=some (.attrs r)
theorem RG(i:Nat):ar [] i=.none:=rfl
theorem Cc{x y:PV}{r:Bool}{Z:af}(h:equal x y []=some r):equal x y Z=some r:=by
 cases x with
 |ref i=>cases y<;>cases h
 |_=>exact h
theorem Cd{x y:PV}{r:Bool}{Z:af}(h:among x y []=some r):among x y Z=some r:=by
 cases y with
 |ref i=>cases h
 |_=>exact h
theorem Ce{o:Cm}{x y:PV}{r:Bool}{Z:af}(h:kO o x y []=some r):kO o x y Z=some r:=by
 cases o with
 |eq=>exact Cc h
 |isin=>exact Cd h
 |fK=>cases y with
  |ref i=>cases h
  |_=>exact h
 |_=>exact h
theorem m6{x:PV}{r:Bool}{Z:af}(h:truth [] x=some r):truth Z x=some r:=by
 cases x with
 |ref i=>cases h
 |_=>exact h
theorem sx{x i:PV}{r:PV}{Z:af}(h:index x i []=some r):index x i Z=some r:=by
 cases x with
 |ref i=>cases h
 |_=>exact h
section
variable{α β:Type}{P:β->Prop}
noncomputable def Is(x:XV)(a:PV):Prop:=∀c Z v,VX c Z x v->v=a
theorem kD{x:XV}{k:PV->XR β}(h:∀a,Is x a->Sd (k a) P):Sd (sr x k) P:=by
 cases x with
 |v a=>exact h a λO O O e=>e
 |r w r=>exact h _ λO O O e=>e.1
 |rs r=>exact h _ λO O O e=>e
 |o s=>exact h _ λO O O e=>e
 |kv a _ _=>exact h _ λO O O e=>e.1
 |_=>exact Sd.none
theorem sy{x:XV}{k:PV->XR β}(h:∀a,Is x a->Sd (k a) P):Sd (D6 x k) P:=by
 cases x with
 |v a=>exact h a λO O O e=>e
 |_=>exact Sd.none
theorem JD{a:PV}{k:Int->XR β}(h:∀i,a=.int i->Sd (k i) P):Sd (MF a k) P:=by
 cases a with
 |int i=>exact h i rfl
 |_=>exact Sd.none
theorem JE{a:PV}{k:List PV->XR β}(h:∀i,a=.ah i->Sd (k i) P):Sd (MG a k) P:=by
 cases a with
 |ah i=>exact h i rfl
 |_=>exact Sd.none
theorem JF{a:PV}{k:List Nat->XR β}(h:∀i,a=.str i->Sd (k i) P):Sd (MH a k) P:=by
 cases a with
 |str i=>exact h i rfl
 |_=>exact Sd.none
theorem d4{x:XV}{k:Int->XR β}(h:∀i,Is x (.int i)->Sd (k i) P):Sd (jA x k) P:=sy λO ha=>JD λi e=>h i (e▸ha)
theorem kE{m:Option α}{k:α->XR β}(h:∀a,m=some a->Sd (k a) P):Sd (su m k) P:=by
 cases m with
 |some a=>exact h a rfl
 |none=>exact Sd.none
noncomputable def Tr(x:XV)(b:Bool):Prop:=∀c Z v,VX c Z x v->truth [] v=some b
theorem sz{x:XV}{k:Bool->XR β}(h:∀b,Tr x b->Sd (k b) P):Sd (D7 x k) P:=by
 cases x with
 |v a=>exact kE λb e=>h b λO O O hv=>by rw[show _=a from hv];exact e
 |t b=>exact h b λO O O hv=>hv
 |_=>exact Sd.none
theorem D8{kk:KK}{x:XV}{k:Key->XR β}(h:∀a,(∀c Z v,VX c Z x v->toKey kk v=some a)->Sd (k a) P):Sd (HQ kk x k) P:=by
 have gen:Sd (sr x λv=>su (toKey kk v) k) P:=kD λa ha=>kE λb e=>h b λc Z v hv=>by rw[ha c Z v hv];exact e
 cases x with
 |kv x PT k'=>
  rw[HQ]
  split
  ·rename_i hk;exact h k' λO O O hv=>by rw[<-hk,hv.1];exact hv.2
  ·exact Sd.none
 |_=>exact gen
theorem z6:∀{xs:List XV}{k:List PV->XR β},(∀l,(∀c Z vs,jz c Z xs vs->vs=l)->Sd (k l) P)->Sd (Gk xs k) P
 |[],_,h=>h [] λO O vs hv=>by
  cases vs with
  |nil=>rfl
  |cons _ _=>exact hv.elim
 |x::r,k,h=>kD λa ha=>z6 λl hl=>h (a::l) λc Z vs hv=>by
  cases vs with
  |nil=>exact hv.elim
  |cons v vs=>rw[ha c Z v hv.1,hl c Z vs hv.2]
end
theorem Tr.at{x:XV}{b:Bool}(h:Tr x b){c:Wc}{Z:af}{v:PV}(p:VX c Z x v):truth Z v=some b:=m6 (h c Z v p)
theorem D9{x:XV}(e:oy x=true){c:Wc}{Z:af}{v:PV}(h:VX c Z x v):∃b,v=.bool b:=by
 cases x with
 |v a=>
  cases a with
  |bool b=>exact⟨b,h⟩
  |_=>exact Bool.noConfusion e
 |_=>exact Bool.noConfusion e
theorem Ea(b:List Nat):ints? (b.map λ(n:Nat)=>PV.int n)=some (b.map λ(n:Nat)=>(n:Int)):=by
 induction b with
 |nil=>rfl
 |cons x b ih=>
  show ((ints? (b.map λ(n:Nat)=>PV.int n)).bind λl=>some ((x:Int)::l))=_
  rw[ih];rfl
theorem JG(s b:List Nat):toKey (.ah [.s,.n]) (.ah [.str s,jI b])=some (q9 s b):=by
 show ((((ints? (b.map λ(n:Nat)=>PV.int n)).bind λl=>some (K1.n l)).bind λk=>some [k]).bind λks=>some (K1.s s::ks)).bind (λks=>some (Key.ah ks))=_
 rw[Ea];rfl
noncomputable def TupOk(xs:List XV)(x:XV):Prop:=∀c Z T vs,jz c Z xs vs->WS c T Z->sv c Z T x (CC vs Z)
theorem MQ(xs:List XV):Sd (MJ xs) (TupOk xs):=by
 match xs with
 |[]=>exact Sd.none
 |[_]=>exact Sd.none
 |_::_::_::_=>exact Sd.none
 |[x,y]=>
  refine sy λa ha=>JF λs hs=> ?_
  cases y with
  |o u=>
   refine Sd.av λc Z T vs h w=> ?_
   match vs,h with
   |[_,_],h=>
    obtain ⟨h1,rfl,_⟩:=h
    rw[ha c Z _ h1,hs]
    exact cI.av w ⟨rfl,JG s u⟩
  |_=>exact Sd.none
theorem JH(xs:List XV):Sd (Gl xs) (TupOk xs):=by
 have h:=MQ xs
 unfold Gl
 cases e:MJ xs with
 |some y=>rw[e] at h;exact h
 |none=>
  refine z6 λl hl=> ?_
  split
  ·rename_i hf
   refine Sd.av λc Z T vs h w=> ?_
   show sv c Z T _ (aJ (aS vs) (av (.ah vs) Z))
   rw[hl c Z vs h,hf];exact cI.av w rfl
  ·exact Sd.none
theorem Gn(m:Nat)(s:List Nat):∀u:List Nat,hM (eqv m) (s.map λ(n:Nat)=>PV.int n) (u.map λ(n:Nat)=>PV.int n)=some (decide (s=u)):=by
 induction s with
 |nil=>exact λu=>by cases u<;>rfl
 |cons a s ih=>
  intro u
  cases u with
  |nil=>rfl
  |cons b u=>
   have h:eqv m (.int (a:Int)) (.int (b:Int))=some (decide ((a:Int)=b)):=by cases m<;>rfl
   show ((eqv m (.int (a:Int)) (.int (b:Int))).bind λx=>(hM (eqv m) (s.map λ(n:Nat)=>PV.int n) (u.map λ(n:Nat)=>PV.int n)).bind λy=>some (x&&y))=_
   rw[h,ih u,show decide ((a:Int)=b)=decide (a=b) from decide_eq_decide.mpr Int.ofNat_inj]
   show some (decide (a=b)&&decide (s=u))=_
   rw[<-Bool.decide_and];exact congrArg some (decide_eq_decide.mpr List.cons_eq_cons.symm)
noncomputable def sA(op:Cm)(x y:XV)(r:Bool):Prop:=∀c Z u v,VX c Z x u->VX c Z y v->kO op u v Z=some r
theorem xJ{op:Cm}{b:Bool}{x y:XV}(h:∀c Z u v,VX c Z x u->VX c Z y v->among u v Z=some b):Sd (yes op b) (sA op x y):=by
 cases op with
 |isin=>exact Sd.av h
 |fK=>exact Sd.av λc Z u v p q=>by show ((among u v Z).bind λr=>some (!r))=_;rw[h c Z u v p q];rfl
 |_=>exact Sd.none
theorem MU{op:Cm}{s:List Nat}{y:XV}:Sd (MK op s y) (sA op (.o s) y):=by
 cases op with
 |ne=>
  refine sy λa ha r ps e al c Z u v hu hv=> ?_
  cases e
  have h:eqv 6 (jI s) a=some (decide (s=oz a)):=(congrArg (eqv 6 (jI s)) al).trans (Gn 5 s (oz a))
  rw[ha c Z v hv,hu]
  show ((eqv 6 (jI s) a).bind λr=>some (!r))=_
  rw[h];rfl
 |_=>exact Sd.none
theorem MV{op:Cm}{x y:XV}:Sd (ML op x y) (sA op x y):=kD λa ha=>kD λb hb=>kE λr e=>Sd.av λc Z u v hu hv=>by
 rw[ha c Z u hu,hb c Z v hv];exact Ce e
theorem uF(t:Int)(l:List Int):isIn (.int t) (l.map .int)=some (qX t l):=by
 induction l with
 |nil=>rfl
 |cons y r ih=>
  show ((eqv 6 (.int y) (.int t)).bind λb=>(isIn (.int t) (r.map .int)).bind λc=>some (b||c))=_
  rw[ih];rfl
theorem Cf{Z:af}{i:Nat}{l:List PV}(u:PV)(g:ar Z i=some (.list l)):among u (.ref i) Z=isIn u l:=congrArg (λo=>Option.bind o (vO u)) g
theorem sC{Z:af}{i:Nat}{kk:KK}{es:Es}{u:PV}{k:Key}(g:ar Z i=some (.dict kk es))(e:toKey kk u=some k):among u (.ref i) Z=some (bj es k).isSome:=
 (congrArg (λo=>Option.bind o (vO u)) g).trans (congrArg (λo=>Option.bind o λk=>some (bj es k).isSome) e)
theorem JI{op:Cm}{x y:XV}:Sd (MM op x y) (sA op x y):=by
 have pl:Sd (match x with | .o s=>MK op s y | x=>ML op x y) (sA op x y):=by
  cases x with
  |o s=>exact MU
  |_=>exact MV
 cases y with
 |d kk es=>exact D8 λk hk=>xJ λc Z u v hu ⟨i,e,_,g⟩=>by rw[e];exact sC g (hk c Z u hu)
 |m m=>exact d4 λk hk=>xJ λc Z u v hu ⟨i,e,_,g⟩=>by rw[e,hk c Z u hu,sC g (k:=.int k) rfl,tR,Option.isSome_map]
 |il l=>exact d4 λk hk=>xJ λc Z u v hu ⟨i,e,_,g⟩=>by rw[e,hk c Z u hu,Cf _ g,uF]
 |_=>exact pl
theorem JJ(r:Row):∀(k:Nat),k<r.length->fN (r.map .int) k=some (.int (cl r k)):=by
 induction r with
 |nil=>intro k h;exact absurd h (Nat.not_lt_zero _)
 |cons x r ih=>
  intro k h
  cases k with
  |zero=>rfl
  |succ k=>exact ih k (Nat.lt_of_succ_lt_succ h)
section
variable{c:Wc}{Z:af}
theorem xK{k:Int}{n:Nat}(h:0<=k)(h2:k<n):seqIndex? k n=some k.toNat:=by
 show (if (0<=(if k<0 then k+n else k)&&(if k<0 then k+n else k)<n)=true then some (if k<0 then k+n else k).toNat else none)=_
 rw[if_neg (Int.not_lt.mpr h),if_pos (Bool.and_eq_true_iff.mpr ⟨decide_eq_true h,decide_eq_true h2⟩)]
theorem uG{l:List PV}{k:Int}(h0:0<=k)(h1:k<(l.length:Int))(hf:l.length<=65536):listAt l (.int k)=fN l k.toNat:=by
 have hs:small k=true:=Bool.and_eq_true_iff.mpr ⟨decide_eq_true (Int.lt_of_lt_of_le (by decide) h0),decide_eq_true (Int.lt_of_lt_of_le h1 (Int.le_trans (Int.ofNat_le.mpr hf) (by decide)))⟩
 show aJ (small k) ((seqIndex? k l.length).bind (fN l))=_
 rw[hs,xK h0 h1];rfl
theorem iI{r:Row}{k:Int}(h:0<=k/\k<r.length/\r.length<=65536):index (pr r) (.int k) Z=some (.int (cl r k.toNat)):=by
 show listAt (r.map .int) (.int k)=_
 rw[uG h.1 (by rw[List.length_map];exact h.2.1) (by rw[List.length_map];exact h.2.2)]
 exact JJ r _ ((Int.toNat_lt h.1).mpr h.2.1)
theorem gD{i:Nat}{l:List PV}{k:PV}(g:ar Z i=some (.list l)):index (.ref i) k Z=listAt l k:=congrArg (λo=>Option.bind o (AJ k)) g
theorem rg{i:Nat}{kk:KK}{es:Es}{k:PV}{y:Key}(g:ar Z i=some (.dict kk es))(e:toKey kk k=some y):index (.ref i) k Z=bj es y:=
 (congrArg (λo=>Option.bind o (AJ k)) g).trans (congrArg (λo=>Option.bind o (bj es)) e)
theorem JK{x y:XV}:Sd (MN x y) λz=>∀c Z u v,VX c Z x u->VX c Z y v->∃p,index u v Z=some p/\VX c Z z p:=by
 cases x with
 |v a=>exact kD λi hi=>kE λq hq=>Sd.av λc Z u v hx hy=>⟨q,by rw[hx,hi c Z v hy];exact sx hq,rfl⟩
 |r w r=>
  refine d4 λk hk=> ?_
  split
  ·rename_i hw
   rw[Bool.and_eq_true,decide_eq_true_eq,decide_eq_true_eq] at hw
   exact Sd.av λc Z u v hx hy=>⟨_,by rw[hx.1,hk c Z v hy];exact iI ⟨hw.1,hx.2.1▸hw.2,hx.2.1▸hx.2.2⟩,rfl⟩
  ·exact Sd.none
 |rs r=>exact d4 λk hk z ps e a c Z u v hx hy=>by cases e;exact⟨_,by rw[hx,hk c Z v hy];exact iI a,rfl⟩
 |m m=>
  refine d4 λk hk z ps e a c Z u v ⟨i,ei,_,g⟩ hy=> ?_
  cases e
  obtain ⟨b,hb⟩:=Option.isSome_iff_exists.mp (show (cD m k).isSome=true from a)
  exact⟨.int b,by rw[ei,hk c Z v hy,rg g (y:=.int k) rfl,tR,hb];rfl,by rw[hb];rfl⟩
 |rl w l=>
  refine d4 λk hk=> ?_
  split
  ·rename_i h0
   cases l with
   |nil=>exact Sd.none
   |cons r l=>
    refine Sd.av λc Z u v ⟨i,ei,_,g,hw,hm⟩ hy=>⟨pr r,?_,rfl,hw r cR,hm⟩
    rw[ei,hk c Z v hy,h0,gD g]
    exact congrArg (λo=>Option.bind o (fN ((r::l).map pr))) (xK (n:=((r::l).map pr).length) (Int.le_refl 0) (Int.ofNat_lt.mpr (Nat.succ_pos _)))
  ·exact Sd.none
 |_=>exact Sd.none
theorem len_list{i:Nat}{l:List PV}(g:ar Z i=some (.list l))(hf:aS l=true):builtin .len (.ref i) Z=some (.int l.length,Z):=
 (congrArg (λo=>Option.bind o (E7 Z)) g).trans (congrArg (λb=>aJ b (some (PV.int l.length,Z))) hf)
theorem len_dict{i:Nat}{es:Es}(g:ar Z i=some (.dict .int es))(hf:aS es=true):builtin .len (.ref i) Z=some (.int es.length,Z):=
 (congrArg (λo=>Option.bind o (E7 Z)) g).trans (congrArg (λb=>aJ b (some (PV.int es.length,Z))) hf)
theorem Gp{α β:Type}{l:List α}{f:α->β}(h:aS l=true):aS (l.map f)=true:=decide_eq_true (by rw[List.length_map];exact bV h)
theorem JL{x:XV}:Sd (MP x) λz=>∀c Z T u,VX c Z x u->WS c T Z->sv c Z T z (lift (builtin .len u Z)):=by
 cases x with
 |rl w l=>exact λz ps e a c Z T u ⟨i,ei,_,g,_⟩ w=>by cases e;exact cI.lift (v:=.int l.length) w (by rw[ei,len_list g (Gp a),List.length_map]) rfl
 |m m=>exact λz ps e a c Z T u ⟨i,ei,_,g⟩ w=>by cases e;exact cI.lift (v:=.int m.length) w (by rw[ei,len_dict g a,ce,List.length_map]) rfl
 |_=>exact Sd.none
end
section
variable{c:Wc}{n0:Nat}{cf:Nat->List PV->af->aF PV}{o:Nat->List XV->XR XV}{aw:List XV}
noncomputable def XGo(c:Wc)(n0:Nat)(aw:List XV)(m:aD->af->aF PV)(x:XV):Prop:=∀J T Z,LX c n0 Z aw J->WS c T Z->sv c Z T x (m J Z)
theorem XGo.aa{i:Nat}:Sd (Gm (bQ aw i)) (XGo c n0 aw (ai cf ae (.aa i))):=by
 unfold Gm
 cases e:isA (bQ aw i) with
 |true=>exact Sd.none
 |false=>exact Sd.av λJ T Z l w=>let ⟨v,e3,h⟩:=l.val i e;cI.read w e3 h
theorem xM(hw:uE c){T:List PV}{Z:af}(w:WS c T Z)(n:Nat)(h:n=3\/n=4):dj n (.inst 1 c.jt) Z=true:=by
 obtain ⟨r,g⟩:=hw.PW T Z w
 show (match ar Z c.jt with | some o=>(match o with | .attrs _=>bif Nat.beq 1 0 then Nat.beq n 3 else (Nat.beq 1 1&&(Nat.beq n 3||(Nat.beq n 4||Nat.beq n 5))) | _=>false) | .none=>false)=true
 rw[g]
 rcases h with rfl | rfl<;>rfl
theorem JM{Z:af}{i:Nat}{m:IM}(g:ar Z i=some (.dict .int (ce m)))(k d:Int):getM (.ref i) (.int k) (.int d) Z=some (.int ((cD m k).getD d),Z):=by
 show ((ar Z i).bind λo=>(ji o).bind λq=>(toKey q.1 (.int k)).bind λk=>some ((bj q.2 k).getD (.int d),Z))=_
 rw[g]
 show some ((bj (ce m) (.int k)).getD (.int d),Z)=_
 rw[tR]
 cases cD m k<;>rfl
theorem Gq(hw:uE c)(ho:∀f xs,Sd (o f xs) (dz c cf f xs)){x:XV}{n:Nat}{xs:List XV}:Sd (HS o x n xs) λz=>(∀T Z u,VX c Z x u->WS c T Z->dj n u Z=true)/\∀T Z u vs,VX c Z x u->jz c Z xs vs->WS c T Z->sv c Z T z (gw cf u n vs Z):=by
 cases x with
 |ts=>
  show Sd (if n=3 then _ else if n=4 then _ else none) _
  split
  ·rename_i hn
   subst hn
   exact λz ps e a=>⟨λT Z u hx w=>by cases hx;exact xM hw w 3 (.inl rfl),λT Z u vs hx hv w=>by cases hx;exact ho _ _ z ps e a _ T Z ⟨rfl,hv⟩ w⟩
  ·split
   ·rename_i hn
    subst hn
    exact λz ps e a=>⟨λT Z u hx w=>by cases hx;exact xM hw w 4 (.inr rfl),λT Z u vs hx hv w=>by cases hx;exact ho _ _ z ps e a _ T Z ⟨rfl,hv⟩ w⟩
   ·exact Sd.none
 |m m=>
  show Sd (if n=0 then _ else none) _
  split
  ·rename_i hn
   subst hn
   cases xs with
   |nil=>exact Sd.none
   |cons k r=>
    refine d4 λk' hk=> ?_
    cases r with
    |nil=>exact Sd.none
    |cons d r=>
     refine d4 λd' hd=> ?_
     cases r with
     |cons _ _=>exact Sd.none
     |nil=>exact Sd.av ⟨λT Z u ⟨i,e,_,g⟩ w=>by rw[e];show (match ar Z i with | some o=>(match o with | .dict _ _=>Nat.ble 0 1 | .list _=>Nat.beq 0 2 | .attrs _=>false) | .none=>false)=true;rw[g];rfl,λT Z u vs ⟨i,e,_,g⟩ hv w=>by
       match vs,hv with
       |[a,b],hv=>
        rw[e,hk c Z a hv.1,hd c Z b hv.2.1]
        exact cI.lift (v:=.int ((cD m k').getD d')) w (JM g k' d') rfl⟩
  ·exact Sd.none
 |_=>exact Sd.none
theorem oA{op:pV}{i j z:Int}{Z:af}(h:gQ op i j=some z):binop op (.int i) (.int j) Z=some (.int z,Z):=by
 show (gQ op i j).bind (λz=>some (PV.int z,Z))=_
 rw[h];rfl
theorem Eb{x y:XV}{a b:Bool}{Z ag:af}{u:PV}(h:(VX c ag x u\/VX c ag y u))(t:truth [] u=some b):VX c Z (bif oy x&&oy y then .v (.bool b) else .t b) u:=by
 cases e:oy x&&oy y with
 |false=>exact t
 |true=>
  rw[Bool.and_eq_true] at e
  obtain ⟨d,rfl⟩:∃d,u=.bool d:=h.elim (D9 e.1) (D9 e.2)
  cases t;rfl
theorem Ec{v:Bool}{m k:XR XV}{P Q:aD->af->aF PV}(hm:Sd m (XGo c n0 aw P))(hk:Sd k (XGo c n0 aw Q)):
  Sd (PU v m k) (XGo c n0 aw λJ Z=>ay (P J Z) λu Z=>bif v then pick (truth Z u) (Q J Z) (av u Z) else pick (truth Z u) (av u Z) (Q J Z)):=by
 cases m with
 |none=>exact Sd.none
 |some xp=>
  cases k with
  |none=>exact Sd.none
  |some yq=>
   obtain ⟨x,p⟩:=xp
   obtain ⟨y,q⟩:=yq
   refine sz λa ta=>sz λb tb z ps e al J T Z l w=> ?_
   cases e
   have hy:a=v->∀ag,LX c n0 ag aw J->WS c T ag->sv c ag T y (Q J ag):=λha ag l w=>by
    refine hk y q rfl ?_ J T ag l w
    have h:=al.app.2
    cases q with
    |nil=>exact a_
    |cons q r=>exact h ha
   refine(hm x p rfl al.app.1 J T Z l w).ay λu ak w1 k1 p1=> ?_
   have stop:a≠v->sv c ak T (bif oy x&&oy y then .v (.bool (bif v then a&&b else a||b)) else .t (bif v then a&&b else a||b)) (av u ak):=λha=>cI.av w1 (Eb (a:=a) (.inl p1) (by rw[ta c ak u p1];cases a<;>cases v<;>first | rfl | exact absurd rfl ha))
   have go:a=v->sv c ak T (bif oy x&&oy y then .v (.bool (bif v then a&&b else a||b)) else .t (bif v then a&&b else a||b)) (Q J ak):=λha=>by
    obtain ⟨t,bk,et,w2,k2,p2⟩:=hy ha ak (l.mono k1) w1
    exact⟨t,bk,et,w2,k2,Eb (a:=a) (.inr p2) (by rw[tb c bk t p2,ha];cases v<;>rfl)⟩
   cases v with
   |true=>exact cI.pick (ta.at p1) go λha=>stop (by rw[ha];exact Bool.noConfusion)
   |false=>exact cI.pick (ta.at p1) (λha=>stop (by rw[ha];exact Bool.noConfusion)) go
mutual
theorem b6(hw:uE c)(ho:∀f xs,Sd (o f xs) (dz c cf f xs)):∀e,Sd (xE o c.B aw e) (XGo c n0 aw (ai cf ae e))
 |.k v=>Sd.av λO O O O w=>cI.av w rfl
 |.gl i=>Sd.av λO O O O w=>cI.av w rfl
 |.aa i=>XGo.aa
 |.ah es=>Sd.bind (oB hw ho es) λxs hx=>λz ps e a J T Z l w=>(hx J T Z l w).ay λvs ak w1 O p1=>JH xs z ps e a c ak T vs p1 w1
 |.bin op a b=>Sd.bind (b6 hw ho a) λO hx=>Sd.bind (b6 hw ho b) λO hy=>d4 λi hi=>d4 λj hj=>kE λz hz=>Sd.av λJ T Z l w=>
   (hx J T Z l w).ay λu ak w1 k1 p1=>(hy J T _ (l.mono k1) w1).ay λv bk w2 k2 p2=>cI.lift (v:=.int z) w2 (by rw[hi c _ u p1,hj c _ v p2];exact oA hz) rfl
 |.cmp op a b=>Sd.bind (b6 hw ho a) λO hx=>Sd.bind (b6 hw ho b) λO hy=>Sd.bind JI λr hr=>Sd.av λJ T Z l w=>
   (hx J T Z l w).ay λu O w1 k1 p1=>(hy J T _ (l.mono k1) w1).ay λv O w2 k2 p2=>cI.read (v:=.bool r) w2 (by rw[hr c _ u v (p1.mono k2) p2];rfl) rfl
 |.and es=>sD hw ho true es
 |.or es=>sD hw ho false es
 |.not e=>Sd.bind (b6 hw ho e) λO hx=>sz λb hb=>Sd.av λJ T Z l w=>
   (hx J T Z l w).ay λu O w1 k1 p1=>cI.read (v:=.bool !b) w1 (by rw[hb.at p1];rfl) rfl
 |.neg e=>Sd.bind (b6 hw ho e) λO hx=>d4 λb hb=>Sd.av λJ T Z l w=>
   (hx J T Z l w).ay λu O w1 k1 p1=>by rw[hb c _ u p1];exact cI.av w1 rfl
 |.ite _ _ _=>Sd.none
 |.aq a b=>Sd.bind (b6 hw ho a) λO hx=>Sd.bind (b6 hw ho b) λO hy=>λz ps hz al J T Z l w=>
   (hx J T Z l w).ay λO O w1 k1 p1=>(hy J T _ (l.mono k1) w1).ay λO O w2 k2 p2=>by
    obtain ⟨p,e,h⟩:=JK z ps hz al c _ _ _ (p1.mono k2) p2
    exact cI.read w2 e h
 |.aC f es=>Sd.bind (oB hw ho es) λxs hx=>λz ps hz al J T Z l w=>(hx J T Z l w).ay λO O w1 O p1=>ho f xs z ps hz al _ T _ p1 w1
 |.aO b e=>by
  cases b with
  |len=>exact Sd.bind (b6 hw ho e) λO hx=>λz ps hz al J T Z l w=>(hx J T Z l w).ay λO O w1 O p1=>JL z ps hz al c _ T _ p1 w1
  |sorted=>
   cases e with
   |attr e=>
    cases e with
    |aa i=>
     show Sd (HR c.B (bQ aw i)) _
     cases e1:bQ aw i with
     |ts=>
      refine Sd.av λJ T Z l w=> ?_
      obtain ⟨v,e2,hv⟩:=l.val i (by rw[e1];rfl)
      rw[e1] at hv
      cases hv
      obtain ⟨d,hd,hb⟩:=hw.keys T Z w
      refine⟨.ref Z.length,Z++[.list (c.B.keys.map .int)],?_,w.new _,KE.new _ _ _,Z.length,rfl,Nat.ne_of_gt w.lt,bM _ _⟩
      show ay (ay (FR.read Z (bD J i)) λx Z=>FR.read Z (getAttr x Z)) _=_
      rw[e2]
      show ay (FR.read Z (getAttr _ Z)) _=_
      rw[hd]
      exact congrArg FR.lift hb
     |_=>exact Sd.none
    |_=>exact Sd.none
   |_=>exact Sd.none
  |_=>exact Sd.none
 |.aU e n es=>by
  cases e with
  |aa i=>
   refine Sd.bind (oB hw ho es) λxs hx=>λz ps hz al J T Z l w=> ?_
   have hA:isA (bQ aw i)=false:=by
    cases e1:bQ aw i with
    |any=>rw[e1] at hz;cases hz
    |_=>rfl
   obtain ⟨v,e3,h⟩:=l.val i hA
   obtain ⟨kn,cm⟩:=Gq hw ho z ps hz al
   show cI c Z T _ (ay (FR.read Z (bD J i)) λx Z=>aJ (dj n x Z) (ay (bw cf ae es J Z) λvs Z=>gw cf x n vs Z))
   rw[e3]
   show cI c Z T _ (aJ (dj n v Z) (ay (bw cf ae es J Z) λvs Z=>gw cf v n vs Z))
   rw[kn T Z v h w]
   exact(hx J T Z l w).ay λvs ak w1 k1 p1=>cm T ak v vs (h.mono k1) p1 w1
  |_=>exact Sd.none
 |.list _=>Sd.none
 |.dQ _=>Sd.none
 |.kN _ _=>Sd.none
 |.slice _ _ _=>Sd.none
 |.attr _=>Sd.none
 |.new _ _=>Sd.none
 |.comp _ _ _=>Sd.none
theorem oB(hw:uE c)(ho:∀f xs,Sd (o f xs) (dz c cf f xs)):∀es,Sd (z5 o c.B aw es) λxs=>∀J T Z,LX c n0 Z aw J->WS c T Z->cI c Z T (λvs ag=>jz c ag xs vs) (bw cf ae es J Z)
 |.nil=>Sd.av λO O O O w=>cI.av w a_
 |.cons e r=>Sd.bind (b6 hw ho e) λO hx=>Sd.bind (oB hw ho r) λO hy=>Sd.av λJ T Z l w=>
   (hx J T Z l w).ay λO O w1 k1 p1=>(hy J T _ (l.mono k1) w1).ay λO O w2 k2 p2=>cI.av w2 ⟨p1.mono k2,p2⟩
theorem sD(hw:uE c)(ho:∀f xs,Sd (o f xs) (dz c cf f xs)):∀(v:Bool)(es:bZ),Sd (HT o c.B aw v es) (XGo c n0 aw (bif v then evalAnd cf ae es else evalOr cf ae es))
 |_,.nil=>Sd.none
 |true,.cons e .nil=>b6 hw ho e
 |false,.cons e .nil=>b6 hw ho e
 |true,.cons e (.cons e' r)=>Ec (v:=true) (b6 hw ho e) (sD hw ho true (.cons e' r))
 |false,.cons e (.cons e' r)=>Ec (v:=false) (b6 hw ho e) (sD hw ho false (.cons e' r))
end
end
structure KS(it n0:Nat)(Z ag:af):Prop where
 len:Z.length<=ag.length
 keep:∀i o,i≠it->i<n0->ar Z i=some o->ar ag i=some o
 lst:∀i l,i≠it->ar Z i=some (.list l)->ar ag i=some (.list l)
theorem KS.refl(it n0:Nat)(Z:af):KS it n0 Z Z:=⟨Nat.le_refl _,λO O O O h=>h,λO O O h=>h⟩
theorem KS.trans{it n0:Nat}{a b c:af}(h:KS it n0 a b)(g:KS it n0 b c):KS it n0 a c:=
 ⟨bJ h.len g.len,λi o hi hn ho=>g.keep i o hi hn (h.keep i o hi hn ho),λi l hi ho=>g.lst i l hi (h.lst i l hi ho)⟩
theorem KE.ks{it n0:Nat}{a b:af}(h:KE it a b):KS it n0 a b:=⟨h.len,λi o hi O ho=>h.keep i o hi ho,λi O hi ho=>h.keep i _ hi ho⟩
theorem rh:∀(J:List XV)(i:Nat)(x:XV),(dN J i x).length=J.length
 |[],_,_=>rfl
 |_::_,0,_=>rfl
 |_::r,i+1,x=>congrArg (· +1) (rh r i x)
theorem xN:∀(J:aD)(i:Nat)(x:PV),(cU J i x).length=J.length
 |[],_,_=>rfl
 |_::_,0,_=>rfl
 |_::r,i+1,x=>congrArg (· +1) (xN r i x)
theorem tT:∀(aw:List XV)(J:aD)(i j:Nat)(x:XV)(v:PV),aw.length=J.length->
  (j=i/\bQ (dN aw i x) j=x/\bD (cU J i v) j=some v)\/(j≠i/\bQ (dN aw i x) j=bQ aw j/\bD (cU J i v) j=bD J j)\/bQ (dN aw i x) j=.any
 |[],[],_,_,_,_,_=>.inr (.inr rfl)
 |_::_,_::_,0,0,_,_,_=>.inl ⟨rfl,rfl,rfl⟩
 |_::_,_::_,0,_+1,_,_,_=>.inr (.inl ⟨Nat.succ_ne_zero _,rfl,rfl⟩)
 |_::_,_::_,_+1,0,_,_,_=>.inr (.inl ⟨(Nat.succ_ne_zero _).symm,rfl,rfl⟩)
 |_::aw,_::J,i+1,j+1,x,v,h=>(tT aw J i j x v (Nat.succ.inj h)).imp (λh=>⟨congrArg (· +1) h.1,h.2⟩) (Or.imp_left λh=>⟨λe=>h.1 (Nat.succ.inj e),h.2⟩)
theorem LX.set{c:Wc}{n0:Nat}{Z ag:af}{aw:List XV}{J:aD}(h:LX c n0 Z aw J)(k:∀x v,VX c Z x v->VX c ag x v)(i:Nat){x:XV}{v:PV}(hx:VX c ag x v)
  (hd:gI x=true->∀r,v=.ref r->n0<=r/\∀j,gI (bQ aw j)=true->bD J j≠some (.ref r)):LX c n0 ag (dN aw i x) (cU J i v):=by
 have at_:=λj=>tT aw J i j x v h.len
 refine⟨by rw[rh,xN];exact h.len,λj hj=> ?_,λj r hj g=> ?_,λa b r ha hb ga gb=> ?_⟩
 ·rcases at_ j with ⟨_,e1,e2⟩ | ⟨_,e1,e2⟩ | e
  ·rw[e1];exact⟨v,e2,hx⟩
  ·rw[e1] at hj⊢;rw[e2];exact(h.val j hj).imp λO g=>⟨g.1,k _ _ g.2⟩
  ·rw[e] at hj;cases hj
 ·rcases at_ j with ⟨_,e1,e2⟩ | ⟨_,e1,e2⟩ | e
  ·rw[e1] at hj;rw[e2] at g;exact(hd hj r (Option.some.inj g)).1
  ·rw[e1] at hj;rw[e2] at g;exact h.dn j r hj g
  ·rw[e] at hj;cases hj
 ·rcases at_ a with ⟨aE,a1,a2⟩ | ⟨aE,a1,a2⟩ | e
  ·rw[a1] at ha;rw[a2] at ga
   rcases at_ b with ⟨b0,b1,b2⟩ | ⟨b0,b1,b2⟩ | e
   ·rw[aE,b0]
   ·rw[b1] at hb;rw[b2] at gb;exact absurd gb ((hd ha r (Option.some.inj ga)).2 b hb)
   ·rw[e] at hb;cases hb
  ·rw[a1] at ha;rw[a2] at ga
   rcases at_ b with ⟨b0,b1,b2⟩ | ⟨b0,b1,b2⟩ | e
   ·rw[b1] at hb;rw[b2] at gb;exact absurd ga ((hd hb r (Option.some.inj gb)).2 a ha)
   ·rw[b1] at hb;rw[b2] at gb;exact h.al a b r ha hb ga gb
   ·rw[e] at hb;cases hb
  ·rw[e] at ha;cases ha
theorem LX.ri{c:Wc}{n0:Nat}{Z:af}{aw:List XV}{J:aD}(h:LX c n0 Z aw J)(i:Nat){x:XV}{v:PV}(nd:gI x=false)(hx:VX c Z x v):LX c n0 Z (dN aw i x) (cU J i v):=
 h.set (λO O h=>h) i hx λe=>absurd (nd.symm.trans e) Bool.noConfusion
noncomputable def uH:XV->Option (KK×Es)
 |.d kk es=>some (kk,es)
 |.m m=>some (.int,ce m)
 |_=>none
theorem pE{x:XV}{d:KK×Es}(e:uH x=some d):gI x=true:=by
 cases x with
 |d _ _=>rfl
 |m _=>rfl
 |_=>cases e
theorem JN{x:XV}(e:gI x=true):∃d,uH x=some d:=by
 cases x with
 |d _ _=>exact⟨_,rfl⟩
 |m _=>exact⟨_,rfl⟩
 |_=>cases e
theorem VX.dict{c:Wc}{Z:af}{x:XV}{d:KK×Es}{v:PV}(e:uH x=some d):VX c Z x v↔∃r,v=.ref r/\c.it<r/\ar Z r=some (.dict d.1 d.2):=by
 cases x with
 |d _ _=>cases e;exact Iff.rfl
 |m _=>cases e;exact Iff.rfl
 |_=>cases e
theorem LX.RH{c:Wc}{n0:Nat}{Z:af}{aw:List XV}{J:aD}{T:List PV}(w:WS c T Z)(h:LX c n0 Z aw J)(i:Nat){x:XV}{kk:KK}(e:uH x=some (kk,[]))(hs:n0<=Z.length):
  LX c n0 (Z++[.dict kk []]) (dN aw i x) (cU J i (.ref Z.length)):=
 h.set (λO O g=>g.mono (KE.new _ _ _)) i ((VX.dict e).mpr ⟨_,rfl,w.lt,bM _ _⟩) λO r er=>by
  cases er
  refine⟨hs,λj hj g=> ?_⟩
  obtain ⟨d,ed⟩:=JN hj
  obtain ⟨v,ev,hv⟩:=h.val j (by cases q:bQ aw j<;>rw[q] at hj<;>first | rfl | cases hj)
  obtain ⟨r,er,_,gr⟩:=(VX.dict ed).mp hv
  rw[ev,er] at g
  cases g
  exact absurd (bA _ _ _ gr) (Nat.lt_irrefl _)
theorem LX.putD{c:Wc}{n0:Nat}{Z:af}{aw:List XV}{J:aD}{T:List PV}(w:WS c T Z)(h:LX c n0 Z aw J){a:Nat}{x:XV}{kk:KK}{es D2:Es}(e:uH (bQ aw a)=some (kk,es))(e':uH x=some (kk,D2)):
  ∃r,bD J a=some (.ref r)/\ar Z r=some (.dict kk es)/\WS c T (sset Z r (.dict kk D2))/\KS c.it n0 Z (sset Z r (.dict kk D2))/\LX c n0 (sset Z r (.dict kk D2)) (dN aw a x) J:=by
 have ia:isA (bQ aw a)=false:=by cases q:bQ aw a<;>rw[q] at e<;>first | rfl | cases e
 obtain ⟨v,ev,hv⟩:=h.val a ia
 obtain ⟨r,rfl,hr,gr⟩:=(VX.dict e).mp hv
 have dv:=bA _ _ _ gr
 have nr:=h.dn a r (pE e) ev
 have ls:∀(J:aD)(i:Nat)(v:PV),bD J i=some v->cU J i v=J:=by
  intro J
  induction J with
  |nil=>intro i v e;cases e
  |cons o J ih=>intro i v e;cases i with
   |zero=>exact congrArg (· ::J) e.symm
   |succ i=>exact congrArg (o:: ·) (ih i v e)
 refine⟨r,ev,gr,⟨λi hi=>(bO _ _ _ _ (Nat.ne_of_lt (Nat.lt_trans hi hr))).trans (w.1 i hi),(bO _ _ _ _ (Nat.ne_of_lt hr)).trans w.2⟩,
  ⟨Nat.le_of_eq (fT _ _ _).symm,λi o O hi g=>(bO _ _ _ _ (Nat.ne_of_lt (Nat.lt_of_lt_of_le hi nr))).trans g,λi l O g=>(bO _ _ _ _ λq=>by rw[q,gr] at g;cases g).trans g⟩,?_⟩
 have at_:=λj=>tT aw J a j x (.ref r) h.len
 rw[ls J a _ ev] at at_
 refine⟨by rw[rh];exact h.len,λj hj=> ?_,λj r' hj g=> ?_,λi j r' hi hj gi gj=> ?_⟩
 ·rcases at_ j with ⟨_,e1,e2⟩ | ⟨jn,e1,e2⟩ | q
  ·rw[e1];exact⟨_,e2,(VX.dict e').mpr ⟨r,rfl,hr,eN _ _ _ dv⟩⟩
  ·rw[e1] at hj⊢
   obtain ⟨v,PX,hv⟩:=h.val j hj
   refine⟨v,PX,?_⟩
   have other:∀i,v=.ref i->gI (bQ aw j)=true->i≠r:=λi hi hd q=>jn (h.al j a r hd (pE e) (by rw[PX,hi,q]) ev)
   cases q:bQ aw j with
   |rl w l=>rw[q] at hv;obtain ⟨i,ei,ni,g,hl⟩:=hv;exact⟨i,ei,ni,(bO _ _ _ _ λq=>by rw[q,gr] at g;cases g).trans g,hl⟩
   |il l=>rw[q] at hv;obtain ⟨i,ei,ni,g⟩:=hv;exact⟨i,ei,ni,(bO _ _ _ _ λq=>by rw[q,gr] at g;cases g).trans g⟩
   |d VY VZ=>rw[q] at hv other;obtain ⟨i,ei,ni,g⟩:=hv;exact⟨i,ei,ni,(bO _ _ _ _ (other i ei rfl)).trans g⟩
   |m m=>rw[q] at hv other;obtain ⟨i,ei,ni,g⟩:=hv;exact⟨i,ei,ni,(bO _ _ _ _ (other i ei rfl)).trans g⟩
   |_=>rw[q] at hv;exact hv
  ·rw[q] at hj;cases hj
 ·rcases at_ j with ⟨j0,_,_⟩ | ⟨_,e1,_⟩ | q
  ·exact h.dn j r' (j0▸pE e) g
  ·rw[e1] at hj;exact h.dn j r' hj g
  ·rw[q] at hj;cases hj
 ·have dd:∀j,gI (bQ (dN aw a x) j)=true->gI (bQ aw j)=true:=λj hj=>by
   rcases at_ j with ⟨j0,_,_⟩ | ⟨_,e1,_⟩ | q
   ·exact j0▸pE e
   ·rw[e1] at hj;exact hj
   ·rw[q] at hj;cases hj
  exact h.al i j r' (dd i hi) (dd j hj) gi gj
noncomputable def oG:List XV->List XV->List XV
 |[],_=>[]
 |_::_,[]=>[.any]
 |a::as,b::bs=>(bif isA b then .any else a)::oG as bs
theorem z7:∀{a b:List XV},oG a b=b->a.length=b.length
 |[],_,h=>by rw[<-h];rfl
 |_::_,[],h=>by cases h
 |_::as,_::bs,h=>congrArg (· +1) (z7 (List.cons.inj h).2)
theorem oH:∀{a b:List XV},oG a b=b->∀i,isA (bQ b i)=false->bQ a i=bQ b i
 |[],_,h,i,e=>by rw[<-h] at e;cases e
 |_::_,[],h,_,_=>by cases h
 |a::as,b::bs,h,0,e=>by
  have h:=(List.cons.inj h).1
  have e:isA b=false:=e
  rw[e] at h;exact h
 |_::as,_::bs,h,i+1,e=>oH (List.cons.inj h).2 i e
theorem LX.weak{c:Wc}{n0:Nat}{Z:af}{a b:List XV}{J:aD}(h:LX c n0 Z a J)(e:oG a b=b):LX c n0 Z b J:=by
 have na:∀i,gI (bQ b i)=true->isA (bQ b i)=false:=λi h=>by cases q:bQ b i<;>rw[q] at h<;>first | rfl | cases h
 exact⟨(z7 e).symm.trans h.len,λi hi=>by have q:=oH e i hi;rw[<-q] at hi⊢;exact h.val i hi,λi r hi=>h.dn i r (by rw[oH e i (na i hi)];exact hi),
  λi j r hi hj=>h.al i j r (by rw[oH e i (na i hi)];exact hi) (by rw[oH e j (na j hj)];exact hj)⟩
noncomputable def cat:List (List PV)->List PV
 |[]=>[]
 |x::r=>match r with
  |[]=>x
  |_::_=>x++cat r
theorem xO(x:List PV)(r:List (List PV)):cat (x::r)=x++cat r:=by
 cases r with
 |nil=>exact(List.append_nil x).symm
 |cons _ _=>rfl
theorem l8:∀(g h:List (List PV)),cat (g++h)=cat g++cat h
 |[],_=>rfl
 |x::g,h=>by rw[List.cons_append,xO,xO,l8 g h,List.append_assoc]
noncomputable def vI:List XV->List Nat->List PV->Option (List XV)
 |J,[],vs=>match vs with
  |[]=>some J
  |_::_=>none
 |J,i::is,vs=>match vs with
  |[]=>none
  |v::vs=>vI (dN J i (.v v)) is vs
noncomputable def MW:KK->XV
 |.int=>.m []
 |kk=>.d kk []
noncomputable def MX(x k v:XV):XR XV:=match x with
 |.d kk es=>HQ kk k λk=>sr v λv=>some (.d kk (cn es k v),[aS es=true])
 |.m m=>jA k λk=>jA v λv=>some (.m (gM m k v),[aS (ce m)=true])
 |_=>none
noncomputable def sF:XV->Bool
 |.aA=>true
 |_=>false
section
variable(o:Nat->List XV->XR XV)(B:Tb)(J:List XV)
noncomputable def HU(e:ME):XR (List (List PV)):=match e with
 |.aU e n es=>match e with
  |.aa a=>match es with
   |.cons e r=>match r with
    |.nil=>bif sF (bQ J a)&&n == 2 then xb (xE o B J e) λx=>sr x λv=>ok [[v]] else none
    |_=>none
   |_=>none
  |_=>none
 |_=>none
noncomputable def TM(t:Bool)(a b:XR (List (List PV))):XR (List (List PV)):=match a with
 |some (g,p)=>match b with
  |some (g',p')=>some ([if t then cat g else cat g'],imp t true p++imp t false p')
  |none=>none
 |none=>none
mutual
noncomputable def xT:MS->XR (List (List PV))
 |.expr e=>HU o B J e
 |.ba c a b=>xb (xE o B J c) λx=>D7 x λt=>TM t (xP a) (xP b)
 |_=>none
noncomputable def xP:bG->XR (List (List PV))
 |.nil=>some ([],[])
 |.cons s r=>xb (xT s) λg=>xb (xP r) λg'=>some (g++g',[])
end
noncomputable def xS(s:MS):XR (List XV×List (List PV)):=match s with
 |.aK i e=>match e with
  |.dQ kk=>some ((dN J i (MW kk),[]),[])
  |e=>xb (xE o B J e) λx=>if gI x=false then some ((dN J i x,[]),[]) else none
 |.dR is e=>xb (xE o B J e) λx=>D6 x λa=>MG a λvs=>su (vI J is vs) λJ=>ok (J,[])
 |.b4 a i e=>match a with
  |.aa a=>xb (xE o B J e) λv=>xb (xE o B J i) λk=>xb (MX (bQ J a) k v) λx=>some ((dN J a x,[]),[])
  |_=>none
 |.aug i op e=>jA (bQ J i) λm=>xb (xE o B J e) λy=>jA y λn=>su (gQ op m n) λz=>ok (dN J i (.v (.int z)),[])
 |s=>xb (xT o B J s) λg=>some ((J,g),[])
end
noncomputable def MY(o:Nat->List XV->XR XV)(B:Tb):List XV->bG->XR (List XV×List (List PV))
 |J,.nil=>some ((J,[]),[])
 |J,.cons s r=>xb (xS o B J s) λa=>xb (MY o B a.1 r) λb=>some ((b.1,a.2++b.2),[])
structure Xc extends Wc where
 cf:Nat->List PV->af->aF PV
 o:Nat->List XV->XR XV
 hw:uE toWc
 ho:∀f xs,Sd (o f xs) (dz toWc cf f xs)
noncomputable def Bg(T:List PV)(g:List (List PV)):Prop:=g≠[]->big (T++cat g)
theorem cJ{T U V:List PV}(h:big (T++(U++V))):big (T++U):=by simp only [big,List.length_append] at h⊢;omega
theorem cK{T U V:List PV}(h:big (T++(U++V))):big (T++U++V):=by rwa [List.append_assoc]
theorem Bg.l{T:List PV}{g h:List (List PV)}(b:Bg T (g++h)):Bg T g:=λn=>cJ (V:=cat h) (by rw[<-l8];exact b λe=>n (List.append_eq_nil_iff.mp e).1)
theorem Bg.r{T:List PV}{g h:List (List PV)}(b:Bg T (g++h)):Bg (T++cat g) h:=λn=>cK (by rw[<-l8];exact b λe=>n (List.append_eq_nil_iff.mp e).2)
noncomputable def MZ(X:Xc)(n0:Nat)(aw:List XV)(m:aD->af->aF (Fl×aD))(g:List (List PV)):Prop:=
 ∀J T Z,LX X.toWc n0 Z aw J->WS X.toWc T Z->Bg T g->∃ag,m J Z=some (.ok (.next,J),ag)/\WS X.toWc (T++cat g) ag/\KE X.it Z ag
noncomputable def HV(X:Xc)(n0:Nat)(aw:List XV)(m:aD->af->aF (Fl×aD))(r:List XV×List (List PV)):Prop:=
 ∀J T Z,n0<=Z.length->LX X.toWc n0 Z aw J->WS X.toWc T Z->Bg T r.2->∃aY ag,m J Z=some (.ok (.next,aY),ag)/\WS X.toWc (T++cat r.2) ag/\KS X.it n0 Z ag/\LX X.toWc n0 ag r.1 aY
section
variable{X:Xc}{n0:Nat}{aw:List XV}
theorem aM{α:Type}{m:aF α}{v:α}{β:Type}{k:α->af->aF β}{r:aF β}{ak:af}(h:m=some (.ok v,ak))(hk:k v ak=r):ay m k=r:=by rw[h];exact hk
theorem Ef{x:XV}(e:sF x=true):x=.aA:=by
 cases x with
 |aA=>rfl
 |_=>exact Bool.noConfusion e
theorem Gs(e:ME):Sd (HU X.o X.B aw e) (MZ X n0 aw (br X.cf ae (.expr e))):=by
 cases e with
 |aU e n es=>
  cases e with
  |aa a=>
   cases es with
   |cons e r=>
    cases r with
    |nil=>
     show Sd (bif sF (bQ aw a)&&n == 2 then _ else none) _
     cases q:sF (bQ aw a)&&n == 2 with
     |false=>exact Sd.none
     |true=>
      rw[Bool.and_eq_true,beq_iff_eq] at q
      obtain ⟨q,rfl⟩:=q
      have q:=Ef q
      refine Sd.bind (b6 (n0:=n0) X.hw X.ho e) λx hx=>kD λv hv=>Sd.av λJ T Z l w hb=> ?_
      obtain ⟨u,eu,hu⟩:=l.val a (by rw[q];rfl)
      rw[q] at hu
      cases hu
      obtain ⟨y,ak,ey,w1,k1,p1⟩:=hx J T Z l w
      have hf:aS T=true:=decide_eq_true (by have hb:=hb (List.cons_ne_nil _ _);simp only [big,List.length_append] at hb;omega)
      refine⟨sset ak X.it (.list (T++[v])),?_,w1.put _,k1.trans (KE.put _ _ _)⟩
      refine aM (v:=.none) (ak:=sset ak X.it (.list (T++[v]))) ?_ rfl
      show ay (FR.read Z (bD J a)) (λx Z=>aJ (dj 2 x Z) (ay (ay (ai X.cf ae e J Z) λv Z=>ay (bw X.cf ae .nil J Z) λvs Z=>av (v::vs) Z) λvs Z=>gw X.cf x 2 vs Z))=_
      rw[eu]
      show aJ (dj 2 (.ref X.it) Z) (ay (ay (ai X.cf ae e J Z) λv Z=>ay (bw X.cf ae .nil J Z) λvs Z=>av (v::vs) Z) λvs Z=>gw X.cf (.ref X.it) 2 vs Z)=_
      rw[tA w.2,ey,hv _ _ _ p1]
      show FR.lift (te (.ref X.it) v ak)=_
      rw[wm w1.2 hf];rfl
    |cons _ _=>exact Sd.none
   |nil=>exact Sd.none
  |_=>exact Sd.none
 |_=>exact Sd.none
theorem z8{a v:Bool}{p:List Prop}(h:All (imp a v p))(e:a=v):All p:=by
 cases p with
 |nil=>exact a_
 |cons q p=>exact h e
mutual
theorem HW:∀s,Sd (xT X.o X.B aw s) (MZ X n0 aw (br X.cf ae s))
 |.expr e=>Gs e
 |.ba c a b=>Sd.bind (b6 (n0:=n0) X.hw X.ho c) λx hx=>sz λt ht=>by
  cases ha:xP X.o X.B aw a with
  |none=>exact Sd.none
  |some gp=>
   cases hb:xP X.o X.B aw b with
   |none=>exact Sd.none
   |some V3=>
    intro g ps e al J T Z l w hg
    cases e
    obtain ⟨u,ak,eu,w1,k1,p1⟩:=hx J T Z l w
    have e0:br X.cf ae (.ba c a b) J Z=pick (truth ak u) (au X.cf ae a J ak) (au X.cf ae b J ak):=by
     show ay (ai X.cf ae c J Z) (λv Z=>pick (truth Z v) (au X.cf ae a J Z) (au X.cf ae b J Z))=_
     rw[eu];rfl
    rw[e0,ht.at p1]
    have hg:=hg (List.cons_ne_nil _ _)
    cases t with
    |true=>obtain ⟨bk,e2,w2,k2⟩:=sG a _ _ ha (z8 al.app.1 rfl) J T ak (l.mono k1) w1 λO=>hg;exact⟨bk,e2,w2,k1.trans k2⟩
    |false=>obtain ⟨bk,e2,w2,k2⟩:=sG b _ _ hb (z8 al.app.2 rfl) J T ak (l.mono k1) w1 λO=>hg;exact⟨bk,e2,w2,k1.trans k2⟩
 |.aK _ _=>Sd.none
 |.dR _ _=>Sd.none
 |.b4 _ _ _=>Sd.none
 |.setAttr _ _=>Sd.none
 |.aug _ _ _=>Sd.none
 |.bt _ _ _=>Sd.none
 |.lG _ _=>Sd.none
 |.ret _=>Sd.none
 |.cont=>Sd.none
 |.fq _=>Sd.none
 |.lr _ _=>Sd.none
theorem sG:∀ss,Sd (xP X.o X.B aw ss) (MZ X n0 aw (au X.cf ae ss))
 |.nil=>Sd.av λJ T Z l w hb=>⟨Z,rfl,by rw[cat,List.append_nil];exact w,.refl _ _⟩
 |.cons s r=>Sd.bind (HW s) λg hg=>Sd.bind (sG r) λg' TN=>Sd.av λJ T Z l w hb=>by
  rw[l8]
  obtain ⟨ak,e1,w1,k1⟩:=hg J T Z l w hb.l
  obtain ⟨bk,e2,w2,k2⟩:=TN J _ ak (l.mono k1) w1 hb.r
  exact⟨bk,aM e1 e2,by rw[<-List.append_assoc];exact w2,k1.trans k2⟩
end
theorem rj{c:Wc}{Z:af}:∀{is:List Nat}{vs:List PV}{aw aZ:List XV}{J:aD},LX c n0 Z aw J->vI aw is vs=some aZ->∃aY,kP J is vs=some aY/\LX c n0 Z aZ aY
 |[],[],_,_,J,h,e=>by cases e;exact⟨J,rfl,h⟩
 |i::is,v::vs,aw,_,J,h,e=>rj (is:=is) (vs:=vs) (aw:=dN aw i (.v v)) (J:=cU J i v) (h.ri i rfl rfl) e
 |[],_::_,_,_,_,_,e=>by cases e
 |_::_,[],_,_,_,_,e=>by cases e
noncomputable def O0(x k v y:XV):Prop:=∃kk es k' v',uH x=some (kk,es)/\uH y=some (kk,cn es k' v')/\aS es=true/\Is v v'/\∀c Z a,VX c Z k a->toKey kk a=some k'
theorem JO{x k v:XV}:Sd (MX x k v) (O0 x k v):=by
 cases x with
 |d kk es=>exact D8 λk' h1=>kD λv' h2=>λy ps e al=>by cases e;exact⟨kk,es,k',v',rfl,rfl,al,h2,h1⟩
 |m m=>exact d4 λk' h1=>d4 λv' h2=>λy ps e al=>by cases e;exact⟨.int,ce m,.int k',.int v',rfl,congrArg (λe=>some (KK.int,e)) (MA k' v' m).symm,al,h2,λc Z a p=>by rw[h1 c Z a p];rfl⟩
 |_=>exact Sd.none
theorem quiet{c:Wc}{T:List PV}{Z:af}(w:WS c T Z):WS c (T++cat []) Z:=by rw[cat,List.append_nil];exact w
theorem HX(s:MS):Sd (xS X.o X.B aw s) (HV X n0 aw (br X.cf ae s)):=by
 have gen:∀s,Sd (xb (xT X.o X.B aw s) λg=>some ((aw,g),[])) (HV X n0 aw (br X.cf ae s)):=λs=>
  Sd.bind (HW s) λg hg=>Sd.av λJ T Z O l w hb=>by
   obtain ⟨ak,e1,w1,k1⟩:=hg J T Z l w hb
   exact⟨J,ak,e1,w1,k1.ks,l.mono k1⟩
 cases s with
 |aK i e=>
  have ga:Sd (xb (xE X.o X.B aw e) λx=>if gI x=false then some ((dN aw i x,([]:List (List PV))),[]) else none) (HV X n0 aw (br X.cf ae (.aK i e))):=
   Sd.bind (b6 X.hw X.ho e) λx hx=>by
    split
    ·rename_i hd
     refine Sd.av λJ T Z O l w hb=> ?_
     obtain ⟨u,ak,eu,w1,k1,p1⟩:=hx J T Z l w
     exact⟨cU J i u,ak,aM eu rfl,quiet w1,k1.ks,(l.mono k1).ri i hd p1⟩
    ·exact Sd.none
  cases e with
  |dQ kk=>exact Sd.av λJ T Z hs l w hb=>⟨cU J i (.ref Z.length),_,rfl,quiet (w.new (.dict kk [])),(KE.new _ _ _).ks,l.RH w i (by cases kk<;>rfl) hs⟩
  |_=>exact ga
 |dR is e=>
  refine Sd.bind (b6 (n0:=n0) X.hw X.ho e) λx hx=>sy λa ha=>JE λvs Eg=>kE λaZ h'=>Sd.av λJ T Z O l w hb=> ?_
  obtain ⟨u,ak,eu,w1,k1,p1⟩:=hx J T Z l w
  obtain ⟨aY,e2,l2⟩:=rj (l.mono k1) h'
  rw[ha _ _ u p1,Eg] at eu
  refine⟨aY,ak,?_,quiet w1,k1.ks,l2⟩
  show ay (ai X.cf ae e J Z) (λv Z=>FR.read Z ((fe (.many is) v J).bind λJ=>some (Fl.next,J)))=_
  rw[eu]
  show FR.read ak ((kP J is vs).bind λJ=>some (Fl.next,J))=_
  rw[e2];rfl
 |b4 a i e=>
  cases a with
  |aa a=>
   refine Sd.bind (b6 (n0:=n0) X.hw X.ho e) λv hv=>Sd.bind (b6 (n0:=n0) X.hw X.ho i) λk hk=>Sd.bind JO λy ⟨kk,es,k',v',d1,d2,hf,h2,h1⟩=>Sd.av λJ T Z O l w hb=> ?_
   obtain ⟨b,ak,eb,w1,k1,p1⟩:=hv J T Z l w
   obtain ⟨r,er,g,_⟩:=(l.mono k1).putD w1 d1 (x:=.d kk es) rfl
   obtain ⟨q,bk,eq,w2,k2,p2⟩:=hk J T ak (l.mono k1) w1
   obtain ⟨r',TO,g',w3,k3,l3⟩:=((l.mono k1).mono k2).putD w2 d1 d2
   cases er.symm.trans TO
   refine⟨J,_,?_,quiet w3,(k1.trans k2).ks.trans k3,l3⟩
   show ay (ai X.cf ae e J Z) (λv Z=>ay (FR.read Z (bD J a)) λa Z=>ay (ai X.cf ae i J Z) λi Z=>FR.put J (setItem a i v Z))=_
   rw[eb]
   show ay (FR.read ak (bD J a)) (λa Z=>ay (ai X.cf ae i J Z) λi Z=>FR.put J (setItem a i b Z))=_
   rw[er]
   show ay (ai X.cf ae i J ak) (λi Z=>FR.put J (setItem (.ref r) i b Z))=_
   rw[eq]
   show FR.put J (setItem (.ref r) q b bk)=_
   rw[nW g' (h1 _ _ q p2) hf,h2 _ _ b p1];rfl
  |_=>exact Sd.none
 |aug i op e=>
  cases hA:isA (bQ aw i) with
  |true=>
   show Sd (jA (bQ aw i) _) _
   cases q:bQ aw i with
   |any=>exact Sd.none
   |_=>rw[q] at hA;exact Bool.noConfusion hA
  |false=>
   refine d4 λm hm=>Sd.bind (b6 (n0:=n0) X.hw X.ho e) λy hy=>d4 λn hn=>kE λz hz=>Sd.av λJ T Z O l w hb=> ?_
   obtain ⟨u,eu,hu⟩:=l.val i hA
   obtain ⟨b,ak,eb,w1,k1,p1⟩:=hy J T Z l w
   refine⟨cU J i (.int z),ak,?_,quiet w1,k1.ks,(l.mono k1).ri i rfl rfl⟩
   show ay (FR.read Z (bD J i)) (λx Z=>ay (ai X.cf ae e J Z) λy Z=>ay (FR.read Z (bL x)) λm Z=>ay (FR.read Z (bL y)) λn Z=>ay (FR.lift (binop op (.int m) (.int n) Z)) λv Z=>av (Fl.next,cU J i v) Z)=_
   rw[eu,hm _ _ u hu]
   show ay (ai X.cf ae e J Z) (λy Z=>ay (FR.read Z (some m)) λm Z=>ay (FR.read Z (bL y)) λn Z=>ay (FR.lift (binop op (.int m) (.int n) Z)) λv Z=>av (Fl.next,cU J i v) Z)=_
   rw[eb,hn _ _ b p1]
   show ay (FR.lift (binop op (.int m) (.int n) ak)) (λv Z=>av (Fl.next,cU J i v) Z)=_
   rw[oA hz];rfl
 |expr e=>exact gen _
 |ba a b c=>exact gen _
 |_=>exact Sd.none
theorem Eh:∀(ss:bG)(aw:List XV),Sd (MY X.o X.B aw ss) (HV X n0 aw (au X.cf ae ss))
 |.nil,aw=>Sd.av λJ T Z O l w hb=>⟨J,Z,rfl,by rw[cat,List.append_nil];exact w,.refl _ _ _,l⟩
 |.cons s r,aw=>Sd.bind (HX s) λa ha=>Sd.bind (Eh r a.1) λb hb=>Sd.av λJ T Z hs l w hg=>by
  dsimp only at hg⊢
  rw[l8]
  obtain ⟨du,ak,e1,w1,k1,l1⟩:=ha J T Z hs l w hg.l
  obtain ⟨dP,bk,e2,w2,k2,l2⟩:=hb du _ ak (bJ hs k1.len) l1 w1 hg.r
  exact⟨dP,bk,aM e1 e2,by rw[<-List.append_assoc];exact w2,k1.trans k2,l2⟩
end
noncomputable def HY:XV->Option PV
 |.v x=>some x
 |.r _ r=>some (pr r)
 |.rs r=>some (pr r)
 |.o s=>some (jI s)
 |.kv x _ _=>some x
 |_=>none
noncomputable def xQ:XV->Option Bool
 |.v x=>truth [] x
 |.t b=>some b
 |_=>none
theorem M0{x:XV}{a:PV}(e:HY x=some a){c:Wc}{Z:af}{v:PV}(h:VX c Z x v):v=a:=by
 cases x with
 |v _=>cases e;exact h
 |r _ _=>cases e;exact h.1
 |rs _=>cases e;exact h
 |o _=>cases e;exact h
 |kv _ _ _=>cases e;exact h.1
 |_=>cases e
theorem sH{x:XV}{b:Bool}(e:xQ x=some b){c:Wc}{Z:af}{v:PV}(h:VX c Z x v):truth Z v=some b:=by
 cases x with
 |v _=>cases h;exact m6 e
 |t _=>cases e;exact m6 h
 |_=>cases e
noncomputable def HZ:Fl->Bool
 |.ret _=>true
 |_=>false
noncomputable def XS(X:Xc)(n0:Nat)(ss:bG)(aw:List XV)(T:List PV)(R:Fl->aD->af->Prop):Prop:=
 ∀J Z,n0<=Z.length->LX X.toWc n0 Z aw J->WS X.toWc T Z->∃f aY ag,au X.cf ae ss J Z=some (.ok (f,aY),ag)/\KS X.it n0 Z ag/\R f aY ag
noncomputable def Nx(X:Xc)(n0:Nat)(aw:List XV)(U:List PV)(f:Fl)(J:aD)(Z:af):Prop:=HZ f=false/\LX X.toWc n0 Z aw J/\WS X.toWc U Z
noncomputable def En(X:Xc)(U:List PV)(f:Fl)(_:aD)(Z:af):Prop:=f=.next/\WS X.toWc U Z
noncomputable def Rt(X:Xc)(v:PV)(U:List PV)(f:Fl)(_:aD)(Z:af):Prop:=f=.ret v/\WS X.toWc U Z
section
variable{X:Xc}{n0:Nat}{aw aZ:List XV}{T U:List PV}{R:Fl->aD->af->Prop}{ps:List Prop}
theorem oI{s:MS}{r:bG}(h:∀J Z,n0<=Z.length->LX X.toWc n0 Z aw J->WS X.toWc T Z->∃f aY ag,br X.cf ae s J Z=some (.ok (f,aY),ag)/\KS X.it n0 Z ag/\
  ((f=.next/\LX X.toWc n0 ag aZ aY/\WS X.toWc U ag)\/(HZ f=true/\R f aY ag))) (k:XS X n0 r aZ U R):XS X n0 (.cons s r) aw T R:=λJ Z hs l w=>by
 obtain ⟨f,du,ak,e1,k1,h⟩:=h J Z hs l w
 rcases h with ⟨rfl,l1,w1⟩ | ⟨hf,hr⟩
 ·obtain ⟨f,dP,bk,e2,k2,h2⟩:=k du ak (bJ hs k1.len) l1 w1
  exact⟨f,dP,bk,(eX e1).trans e2,k1.trans k2,h2⟩
 ·exact⟨f,du,ak,eY (λq=>by rw[q] at hf;exact Bool.noConfusion hf) e1,k1,hr⟩
theorem pF{s:MS}{r:bG}{g:List (List PV)}(e:xS X.o X.B aw s=some ((aZ,g),ps))(a:All ps)(hb:Bg T g)(k:XS X n0 r aZ (T++cat g) R):XS X n0 (.cons s r) aw T R:=
 oI (λJ Z hs l w=>let ⟨aY,ag,e,w,k,l⟩:=HX s _ _ e a J T Z hs l w hb;⟨.next,aY,ag,e,k,.inl ⟨rfl,l,w⟩⟩) k
theorem bu{s:MS}{r:bG}(e:xS X.o X.B aw s=some ((aZ,[]),ps))(a:All ps)(k:XS X n0 r aZ T R):XS X n0 (.cons s r) aw T R:=
 pF e a (λh=>absurd rfl h) (by rw[cat,List.append_nil];exact k)
theorem bP{ss:bG}{cP:List XV}{g:List (List PV)}(e:MY X.o X.B aw ss=some ((cP,g),ps))(a:All ps)(m:oG cP aZ=aZ)(hu:cat g=U)(hb:big (T++U)):XS X n0 ss aw T (Nx X n0 aZ (T++U)):=λJ Z hs l w=>by
 subst hu
 obtain ⟨aY,ag,e,w,k,l⟩:=Eh ss aw _ _ e a J T Z hs l w λO=>hb
 exact⟨.next,aY,ag,e,k,rfl,l.weak m,w⟩
theorem jB(m:oG aw aZ=aZ):XS X n0 .nil aw T (Nx X n0 aZ T):=λJ Z O l w=>⟨.next,J,Z,rfl,.refl _ _ _,rfl,l.weak m,w⟩
theorem dc:XS X n0 .nil aw T (En X T):=λJ Z O O w=>⟨.next,J,Z,rfl,.refl _ _ _,rfl,w⟩
theorem Sk{r:bG}(m:oG aw aZ=aZ):XS X n0 (.cons .cont r) aw T (Nx X n0 aZ T):=λJ Z O l w=>⟨.cont,J,Z,rfl,.refl _ _ _,rfl,l.weak m,w⟩
theorem d6{e:ME}{x:XV}{v:PV}{r:bG}(h:xE X.o X.B aw e=some (x,ps))(a:All ps)(hv:HY x=some v):XS X n0 (.cons (.ret e) r) aw T (Rt X v T):=λJ Z O l w=>by
 obtain ⟨u,ak,eu,w1,k1,p1⟩:=b6 X.hw X.ho e _ _ h a J T Z l w
 exact⟨.ret u,J,ak,eY nofun (tv eu),k1.ks,by rw[M0 hv p1],w1⟩
theorem vJ{c:ME}{a b:bG}{x:XV}{t:Bool}(h:xE X.o X.B aw c=some (x,ps))(al:All ps)(ht:xQ x=some t)(h1:t=true->XS X n0 a aw T (Nx X n0 aZ U))(h2:t=false->XS X n0 b aw T (Nx X n0 aZ U)):
  XS X n0 (.cons (.ba c a b) .nil) aw T (Nx X n0 aZ U):=λJ Z hs l w=>by
 obtain ⟨u,ak,eu,w1,k1,p1⟩:=b6 X.hw X.ho c _ _ h al J T Z l w
 have e0:br X.cf ae (.ba c a b) J Z=pick (truth ak u) (au X.cf ae a J ak) (au X.cf ae b J ak):=fU eu
 have go:∃f aY ag,br X.cf ae (.ba c a b) J Z=some (.ok (f,aY),ag)/\KS X.it n0 ak ag/\Nx X n0 aZ U f aY ag:=by
  rw[e0,sH ht p1]
  cases t with
  |true=>exact h1 rfl J ak (bJ hs k1.len) (l.mono k1) w1
  |false=>exact h2 rfl J ak (bJ hs k1.len) (l.mono k1) w1
 obtain ⟨f,aY,ag,e,k,hn⟩:=go
 exact⟨f,aY,ag,iX e,k1.ks.trans k,hn⟩
theorem eS{c:ME}{a r:bG}{x:XV}{t:Bool}(h:xE X.o X.B aw c=some (x,ps))(al:All ps)(ht:xQ x=some t)(h1:t=true->XS X n0 a aw T λf J Z=>f≠ .next/\R f J Z)(h2:t=false->XS X n0 r aw T R):
  XS X n0 (.cons (.ba c a .nil) r) aw T R:=λJ Z hs l w=>by
 obtain ⟨u,ak,eu,w1,k1,p1⟩:=b6 X.hw X.ho c _ _ h al J T Z l w
 have e0:br X.cf ae (.ba c a .nil) J Z=pick (truth ak u) (au X.cf ae a J ak) (au X.cf ae .nil J ak):=fU eu
 rw[sH ht p1] at e0
 cases t with
 |true=>
  obtain ⟨f,aY,ag,e,k,hn,hr⟩:=h1 rfl J ak (bJ hs k1.len) (l.mono k1) w1
  exact⟨f,aY,ag,eY hn (e0.trans e),k1.ks.trans k,hr⟩
 |false=>
  obtain ⟨f,aY,ag,e,k,hr⟩:=h2 rfl J ak (bJ hs k1.len) (l.mono k1) w1
  exact⟨f,aY,ag,(eX e0).trans e,k1.ks.trans k,hr⟩
theorem Rt.ne{v:PV}{ss:bG}(h:XS X n0 ss aw T (Rt X v U)):XS X n0 ss aw T λf J Z=>f≠ .next/\Rt X v U f J Z:=λJ Z hs l w=>
 let ⟨f,aY,ag,e,k,hf,w⟩:=h J Z hs l w
 ⟨f,aY,ag,e,k,by rw[hf];exact Fl.noConfusion,hf,w⟩
end
noncomputable def iJ(it:Nat)(Z:af)(s:Src)(l:List PV):Prop:=match s with
 |.ah l'=>l=l'
 |.live i=>i≠it/\ar Z i=some (.list l)
 |.range a n=>l=(cL a n).map .int
 |.dh _=>False
theorem nth_get?:∀(l:List PV)(k:Nat),fN l k=l[k]?
 |[],_=>rfl
 |_::_,0=>rfl
 |_::r,k+1=>nth_get? r k
theorem xR:∀(n:Nat)(a:Int)(k:Nat),(cL a n)[k]? =if k<n then some (a+(k:Int)) else .none
 |0,_,_=>rfl
 |n+1,a,0=>by rw[if_pos (Nat.succ_pos n)];exact congrArg some (Int.add_zero a).symm
 |n+1,a,k+1=>by
  rw[show (cL a (n+1))[k+1]? =(cL (a+1) n)[k]? from rfl,xR n (a+1) k]
  by_cases h:k<n
  ·rw[if_pos h,if_pos (Nat.succ_lt_succ h)];congr 1;omega
  ·rw[if_neg h,if_neg λq=>h (Nat.lt_of_succ_lt_succ q)]
theorem oJ:∀(k:Nat)(m:Int),(cL m k).length=k
 |0,_=>rfl
 |k+1,m=>congrArg (· +1) (oJ k (m+1))
theorem iJ.at{it:Nat}{Z:af}{s:Src}{l:List PV}(h:iJ it Z s l)(k:Nat):cC Z k s=some l[k]? :=by
 cases s with
 |ah l'=>cases h;exact congrArg some (nth_get? _ k)
 |live i=>
  show ((ar Z i).bind λo=>(c9 o).bind λl=>some (fN l k))=_
  rw[h.2];exact congrArg some (nth_get? _ k)
 |range a n=>
  cases h
  rw[List.getElem?_map,xR]
  show some (if k<n then some (PV.int (a+(k:Int))) else none)=_
  by_cases q:k<n
  ·rw[if_pos q,if_pos q];rfl
  ·rw[if_neg q,if_neg q];rfl
 |dh _=>exact h.elim
theorem iJ.length{it:Nat}{Z:af}{s:Src}{l:List PV}(h:iJ it Z s l):ew Z s=l.length:=by
 cases s with
 |ah l'=>cases h;rfl
 |live i=>
  show (match (ar Z i).bind c9 with | some l=>l.length | .none=>0)=_
  rw[h.2];rfl
 |range a n=>cases h;rw[List.length_map,oJ];rfl
 |dh _=>exact h.elim
theorem iJ.mono{it n0:Nat}{Z ag:af}{s:Src}{l:List PV}(h:iJ it Z s l)(k:KS it n0 Z ag):iJ it ag s l:=by
 cases s with
 |live i=>exact⟨h.1,k.lst i l h.1 h.2⟩
 |_=>exact h
noncomputable def iK{X:Type}(p:Nat->X->Option PV):Nat->List X->Option PV
 |_,[]=>.none
 |k,x::l=>match p k x with
  |some v=>some v
  |.none=>iK p (k+1) l
noncomputable def Bd(X:Xc)(n0:Nat)(t:jh)(en:Bool)(k:Nat)(v:PV)(aw cP:List XV):Prop:=∀J Z,LX X.toWc n0 Z aw J->∃du,fe t (wrap en k v) J=some du/\LX X.toWc n0 Z cP du
section
variable{X:Xc}{n0:Nat}{A S:Type}{body:bG}{t:jh}{en:Bool}{s:Src}{gT:A->PV}{l:List A}{step:S->Nat->A->S×List PV}{st:S->List XV}{I:Nat->S->Prop}{bx:S->Nat->A->List XV}
theorem H2(jw:∀s k x,l[k]? =some x->Bd X n0 t en k (gT x) (st s) (bx s k x))
  (hb:∀s k x T,l[k]? =some x->I k s->big (T++(step s k x).2)->I (k+1) (step s k x).1/\XS X n0 body (bx s k x) T (Nx X n0 (st (step s k x).1) (T++(step s k x).2))):
  ∀(m:List A)(n k:Nat)(a:S)(J:aD)(T:List PV)(Z:af),l=l.take k++m->k+m.length=l.length->m.length<n->n0<=Z.length->LX X.toWc n0 Z (st a) J->WS X.toWc T Z->iJ X.it Z s (l.map gT)->I k a->big (T++(bH step a k m).2)->
   ∃aY ag,forL (au X.cf ae body) t s en n k J Z=some (.ok (.next,aY),ag)/\KS X.it n0 Z ag/\LX X.toWc n0 ag (st (bH step a k m).1) aY/\WS X.toWc (T++(bH step a k m).2) ag/\I l.length (bH step a k m).1
 |_,0,_,_,_,_,_,_,_,hn,_,_,_,_,_,_=>absurd hn (Nat.not_lt_zero _)
 |[],n+1,k,a,J,T,Z,hl,hk,_,_,lx,w,so,hi,_=>by
  have hk:k=l.length:=hk
  refine⟨J,Z,?_,.refl _ _ _,lx,by rw[show (bH step a k []).2=[] from rfl,List.append_nil];exact w,hk▸hi⟩
  exact qB (by rw[so.at k,List.getElem?_map,List.getElem?_eq_none (Nat.le_of_eq hk.symm)];rfl)
 |x::m,n+1,k,a,J,T,Z,hl,hk,hn,hs,lx,w,so,hi,hT=>by
  have uI:k<l.length:=by rw[<-hk,List.length_cons];omega
  have hx:l[k]? =some x:=by
   rw[hl,List.getElem?_append_right (by rw[List.length_take];omega),List.length_take,Nat.min_eq_left (Nat.le_of_lt uI),Nat.sub_self];rfl
  have hT:big (T++((step a k x).2++(bH step (step a k x).1 (k+1) m).2)):=hT
  show ∃aY ag,forL (au X.cf ae body) t s en (n+1) k J Z=some (.ok (.next,aY),ag)/\KS X.it n0 Z ag/\LX X.toWc n0 ag (st (bH step (step a k x).1 (k+1) m).1) aY/\WS X.toWc (T++((step a k x).2++(bH step (step a k x).1 (k+1) m).2)) ag/\I l.length (bH step (step a k x).1 (k+1) m).1
  obtain ⟨du,e1,l1⟩:=jw a k x hx J Z lx
  obtain ⟨TP,H3⟩:=hb a k x T hx hi (cJ hT)
  obtain ⟨f,dP,bk,e2,k2,hf,l2,w2⟩:=H3 du Z hs l1 w
  obtain ⟨sI,l9,e3,k3,l3,w3,M1⟩:=H2 jw hb m n (k+1) (step a k x).1 dP (T++(step a k x).2) bk (by
    have h:=List.take_append_drop (k+1) l
    rw[List.take_add_one,hx] at h
    have h2:=hl.symm.trans h.symm
    rw[List.append_assoc] at h2
    have h3:=(List.cons.inj (List.append_cancel_left h2)).2
    rw[h3]
    exact(List.take_append_drop (k+1) l).symm) (by rw[<-hk,List.length_cons];omega) (Nat.lt_of_succ_lt_succ hn) (bJ hs k2.len) l2 w2 (so.mono k2) TP (cK hT)
  refine⟨sI,l9,?_,k2.trans k3,l3,by rw[<-List.append_assoc];exact w3,M1⟩
  rw[mI (by rw[so.at k,List.getElem?_map,hx];rfl) e1 e2]
  cases f with
  |ret v=>cases hf
  |_=>exact e3
theorem xU{aw:List XV}{T:List PV}{p:Nat->A->Option PV}{bx:Nat->A->List XV}(jw:∀k x,l[k]? =some x->Bd X n0 t en k (gT x) aw (bx k x))
  (hb:∀k x,l[k]? =some x->XS X n0 body (bx k x) T λf J Z=>match p k x with | some v=>Rt X v T f J Z | .none=>Nx X n0 aw T f J Z):
  ∀(m:List A)(n k:Nat)(J:aD)(Z:af),l=l.take k++m->k+m.length=l.length->m.length<n->n0<=Z.length->LX X.toWc n0 Z aw J->WS X.toWc T Z->iJ X.it Z s (l.map gT)->
   ∃f aY ag,forL (au X.cf ae body) t s en n k J Z=some (.ok (f,aY),ag)/\KS X.it n0 Z ag/\match iK p k m with | some v=>Rt X v T f aY ag | .none=>f=.next/\LX X.toWc n0 ag aw aY/\WS X.toWc T ag
 |_,0,_,_,_,_,_,hn,_,_,_,_=>absurd hn (Nat.not_lt_zero _)
 |[],n+1,k,J,Z,hl,hk,_,_,lx,w,so=>by
  have hk:k=l.length:=hk
  refine⟨.next,J,Z,?_,.refl _ _ _,rfl,lx,w⟩
  exact qB (by rw[so.at k,List.getElem?_map,List.getElem?_eq_none (Nat.le_of_eq hk.symm)];rfl)
 |x::m,n+1,k,J,Z,hl,hk,hn,hs,lx,w,so=>by
  have uI:k<l.length:=by rw[<-hk,List.length_cons];omega
  have hx:l[k]? =some x:=by
   rw[hl,List.getElem?_append_right (by rw[List.length_take];omega),List.length_take,Nat.min_eq_left (Nat.le_of_lt uI),Nat.sub_self];rfl
  obtain ⟨du,e1,l1⟩:=jw k x hx J Z lx
  obtain ⟨f,dP,bk,e2,k2,h2⟩:=hb k x hx du Z hs l1 w
  rw[mI (by rw[so.at k,List.getElem?_map,hx];rfl) e1 e2,show iK p k (x::m)=(match p k x with | some v=>some v | .none=>iK p (k+1) m) from rfl]
  cases hp:p k x with
  |some v=>
   rw[hp] at h2
   obtain ⟨rfl,w2⟩:=h2
   exact⟨_,dP,bk,rfl,k2,rfl,w2⟩
  |none=>
   rw[hp] at h2
   obtain ⟨hf,l2,w2⟩:=h2
   obtain ⟨f',sI,l9,e3,k3,h3⟩:=xU jw hb m n (k+1) dP bk (by
    have h:=List.take_append_drop (k+1) l
    rw[List.take_add_one,hx] at h
    have h2:=hl.symm.trans h.symm
    rw[List.append_assoc] at h2
    have h3:=(List.cons.inj (List.append_cancel_left h2)).2
    rw[h3]
    exact(List.take_append_drop (k+1) l).symm) (by rw[<-hk,List.length_cons];omega) (Nat.lt_of_succ_lt_succ hn) (bJ hs k2.len) l2 w2 (so.mono k2)
   refine⟨f',sI,l9,?_,k2.trans k3,h3⟩
   cases f with
   |ret v=>cases hf
   |_=>exact e3
noncomputable def jJ(X:Xc)(n0:Nat)(aw:List XV)(it:MI)(en:Bool)(l:List PV):Prop:=∀J T Z,LX X.toWc n0 Z aw J->WS X.toWc T Z->cI X.toWc Z T (λs ag=>s.2=en/\iJ X.it ag s.1 l) (fO X.cf ae it J Z)
variable{it:MI}{rest:bG}{aw:List XV}{T:List PV}{R:Fl->aD->af->Prop}
theorem eT(st:S->List XV)(I:Nat->S->Prop)(step:S->Nat->A->S×List PV)(s0:S)(m7:jJ X n0 (st s0) it en (l.map gT))(jw:∀s k x,l[k]? =some x->Bd X n0 t en k (gT x) (st s) (bx s k x))(hi:I 0 s0)(hT:big (T++(bH step s0 0 l).2))
  (hb:∀s k x T,l[k]? =some x->I k s->big (T++(step s k x).2)->I (k+1) (step s k x).1/\XS X n0 body (bx s k x) T (Nx X n0 (st (step s k x).1) (T++(step s k x).2)))
  (hk:I l.length (bH step s0 0 l).1->XS X n0 rest (st (bH step s0 0 l).1) (T++(bH step s0 0 l).2) R):XS X n0 (.cons (.bt t it body) rest) (st s0) T R:=λJ Z hs lx w=>by
 obtain ⟨⟨s,M3⟩,ak,e1,w1,k1,he,so⟩:=m7 J T Z lx w
 have he:M3=en:=he
 subst he
 obtain ⟨dP,bk,e2,k2,l2,w2,i2⟩:=H2 jw hb l (ew ak s+1) 0 s0 J T ak rfl (Nat.zero_add _) (by rw[so.length,List.length_map];exact Nat.lt_succ_self _) (bJ hs k1.len) (lx.mono k1) w1 so hi hT
 obtain ⟨f,sI,l9,e3,k3,h3⟩:=hk i2 dP bk (bJ (bJ hs k1.len) k2.len) l2 w2
 exact⟨f,sI,l9,(eX ((jX e1).trans e2)).trans e3,(k1.ks.trans k2).trans k3,h3⟩
theorem z9{bx:Nat->A->List XV}(p:Nat->A->Option PV)(m7:jJ X n0 aw it en (l.map gT))(jw:∀k x,l[k]? =some x->Bd X n0 t en k (gT x) aw (bx k x))
  (hb:∀k x,l[k]? =some x->XS X n0 body (bx k x) T λf J Z=>match p k x with | some v=>Rt X v T f J Z | .none=>Nx X n0 aw T f J Z)
  (h1:∀v,iK p 0 l=some v->∀f J Z,Rt X v T f J Z->R f J Z) (hk:iK p 0 l=.none->XS X n0 rest aw T R):XS X n0 (.cons (.bt t it body) rest) aw T R:=λJ Z hs lx w=>by
 obtain ⟨⟨s,M3⟩,ak,e1,w1,k1,he,so⟩:=m7 J T Z lx w
 have he:M3=en:=he
 subst he
 obtain ⟨f,dP,bk,e2,k2,h2⟩:=xU jw hb l (ew ak s+1) 0 J ak rfl (Nat.zero_add _) (by rw[so.length,List.length_map];exact Nat.lt_succ_self _) (bJ hs k1.len) (lx.mono k1) w1 so
 have e0:br X.cf ae (.bt t it body) J Z=some (.ok (f,dP),bk):=(jX e1).trans e2
 cases hf:iK p 0 l with
 |some v=>
  rw[hf] at h2
  have h3:=h1 v hf f dP bk h2
  obtain ⟨rfl,_⟩:=h2
  exact⟨.ret v,dP,bk,eY (f:=.ret v) nofun e0,k1.ks.trans k2,h3⟩
 |none=>
  rw[hf] at h2
  obtain ⟨rfl,l2,w2⟩:=h2
  obtain ⟨f,sI,l9,e3,k3,h3⟩:=hk hf dP bk (bJ (bJ hs k1.len) k2.len) l2 w2
  exact⟨f,sI,l9,(eX e0).trans e3,(k1.ks.trans k2).trans k3,h3⟩
noncomputable def vK:XV->Option (List PV)
 |.rl _ l=>some (l.map pr)
 |.il l=>some (l.map .int)
 |.v x=>match x with
  |.ah l=>some l
  |_=>none
 |_=>none
theorem gk{Z:af}{i:Nat}{l:List PV}(g:ar Z i=some (.list l)):srcOf Z (.ref i)=some (.live i):=by
 show ((ar Z i).bind λo=>(c9 o).bind λO=>some (Src.live i))=_
 rw[g];rfl
theorem xV{x:XV}{L:List PV}{c:Wc}{Z:af}{v:PV}(e:vK x=some L)(h:VX c Z x v):∃s,srcOf Z v=some s/\iJ c.it Z s L:=by
 cases x with
 |rl w l=>cases e;obtain ⟨i,rfl,ni,g,_⟩:=h;exact⟨.live i,gk g,ni,g⟩
 |il l=>cases e;obtain ⟨i,rfl,ni,g⟩:=h;exact⟨.live i,gk g,ni,g⟩
 |v a=>
  cases h
  cases v with
  |ah l=>cases e;exact⟨.ah _,rfl,rfl⟩
  |_=>cases e
 |_=>cases e
theorem eC{e:ME}{x:XV}{ps:List Prop}{L:List PV}(h:xE X.o X.B aw e=some (x,ps))(a:All ps)(hl:vK x=some L):jJ X n0 aw (.plain e) false L:=λJ T Z lx w=>
 cI.ay (k:=λv Z=>FR.read Z ((srcOf Z v).bind λs=>some (s,false))) (b6 X.hw X.ho e _ _ h a J T Z lx w) λv ak w1 O p1=>let ⟨s,e,so⟩:=xV hl p1;cI.read (v:=(s,false)) w1 (by rw[e];rfl) ⟨rfl,so⟩
theorem uJ{e:ME}{x:XV}{L:List PV}(h:XGo X.toWc n0 aw (ai X.cf ae e) x)(hl:vK x=some L):jJ X n0 aw (.enum e) true L:=λJ T Z lx w=>
 cI.ay (k:=λv Z=>FR.read Z ((srcOf Z v).bind λs=>some (s,true))) (h J T Z lx w) λv ak w1 O p1=>let ⟨s,e,so⟩:=xV hl p1;cI.read (v:=(s,true)) w1 (by rw[e];rfl) ⟨rfl,so⟩
theorem cw{e:ME}{x:XV}{ps:List Prop}{L:List PV}(h:xE X.o X.B aw e=some (x,ps))(a:All ps)(hl:vK x=some L):jJ X n0 aw (.enum e) true L:=uJ (b6 X.hw X.ho e _ _ h a) hl
theorem cN{bx:Nat->A->List XV}(p:Nat->A->List PV)(m7:jJ X n0 aw it en (l.map gT))(jw:∀k x,l[k]? =some x->Bd X n0 t en k (gT x) aw (bx k x))(hT:big (T++bI p 0 l))
  (hb:∀k x T,l[k]? =some x->big (T++p k x)->XS X n0 body (bx k x) T (Nx X n0 aw (T++p k x))) (hk:XS X n0 rest aw (T++bI p 0 l) R):XS X n0 (.cons (.bt t it body) rest) aw T R:=by
 have e:=D3 p l 0
 refine eT (S:=Unit) (λO=>aw) (λO O=>True) (λO k x=>((),p k x)) () m7 (bx:=λO=>bx) (λO=>jw) a_ (by rw[e];exact hT) (λO k x T hx O h=>⟨a_,hb k x T hx h⟩) λO=> ?_
 rw[e]
 exact hk
theorem src_range{a b:ME}{m n:Int}{ps qs:List Prop}(h:xE X.o X.B aw a=some (.v (.int m),ps))(al:All ps)(h':xE X.o X.B aw b=some (.v (.int n),qs))(M4:All qs)(hs: -100000<=m/\m<=100000/\ -100000<=n/\n<=100000):
  jJ X n0 aw (.dA a b) false ((cL m (n-m).toNat).map .int):=λJ T Z lx w=>
 (b6 X.hw X.ho a _ _ h al J T Z lx w).ay λu ak w1 k1 p1=>(b6 X.hw X.ho b _ _ h' M4 J T ak (lx.mono k1) w1).ay λv bk w2 k2 p2=>by
  have hm:small m=true:=Bool.and_eq_true_iff.mpr ⟨decide_eq_true (Int.lt_of_lt_of_le (by decide) hs.1),decide_eq_true (Int.lt_of_le_of_lt hs.2.1 (by decide))⟩
  have hn:small n=true:=Bool.and_eq_true_iff.mpr ⟨decide_eq_true (Int.lt_of_lt_of_le (by decide) hs.2.2.1),decide_eq_true (Int.lt_of_le_of_lt hs.2.2.2 (by decide))⟩
  cases p1
  cases p2
  show cI X.toWc bk T _ (FR.read bk (aJ (small m) (aJ (small n) (some (Src.range m (n-m).toNat,false)))))
  rw[hm,hn]
  exact cI.av w2 ⟨rfl,rfl⟩
theorem d7{i k:Nat}{v:PV}{x:XV}(hd:gI x=false)(hx:∀Z,VX X.toWc Z x v):Bd X n0 (.one i) false k v aw (dN aw i x):=λJ Z l=>⟨_,rfl,l.ri i hd (hx Z)⟩
theorem j1{i j k:Nat}{v:PV}{x:XV}(hd:gI x=false)(hx:∀Z,VX X.toWc Z x v):Bd X n0 (.many [i,j]) true k v aw (dN (dN aw i (.v (.int k))) j x):=λJ Z l=>
 ⟨_,rfl,(l.ri i (x:=.v (.int k)) (v:=.int k) rfl rfl).ri j hd (hx Z)⟩
theorem Aa{is:List Nat}{k:Nat}{vs:List PV}{aZ:List XV}(h:vI aw is vs=some aZ):Bd X n0 (.many is) false k (.ah vs) aw aZ:=λO O l=>rj l h
end
theorem jz.len{c:Wc}{Z:af}:∀{xs:List XV}{vs:List PV},jz c Z xs vs->xs.length=vs.length
 |[],[],_=>rfl
 |_::_,_::_,h=>congrArg (· +1) (jz.len h.2)
 |[],_::_,h=>h.elim
 |_::_,[],h=>h.elim
noncomputable def M5:Nat->List XV
 |0=>[]
 |n+1=>.any::M5 n
noncomputable def args:List XV->Nat->List XV
 |[],n=>M5 n
 |x::r,n=>x::args r n
theorem tU{c:Wc}{Z:af}(n:Nat):∀{xs:List XV}{vs:List PV},jz c Z xs vs->(args xs n).length=(vs.map some++List.replicate n none).length/\∀i,isA (bQ (args xs n) i)=false->∃v,bD (vs.map some++List.replicate n none) i=some v/\VX c Z (bQ (args xs n) i) v
 |[],[],_=>⟨by induction n with | zero=>rfl | succ n ih=>exact congrArg (· +1) ih,λi=>by
  induction n generalizing i with
  |zero=>exact λh=>nomatch h
  |succ n ih=>cases i with
   |zero=>exact λh=>nomatch h
   |succ i=>exact ih i⟩
 |x::xs,v::vs,h=>⟨congrArg (· +1) (tU n h.2).1,λi hi=>by
  cases i with
  |zero=>exact⟨v,rfl,h.1⟩
  |succ i=>exact(tU n h.2).2 i hi⟩
 |[],_::_,h=>h.elim
 |_::_,[],h=>h.elim
theorem Ab(n:Nat):∀{xs:List XV},xs.all (λx=> !gI x)=true->∀i,gI (bQ (args xs n) i)=false
 |[],_,i=>by
  induction n generalizing i with
  |zero=>rfl
  |succ n ih=>cases i with
   |zero=>rfl
   |succ i=>exact ih i
 |x::xs,h,i=>by
  rw[List.all_cons,Bool.and_eq_true] at h
  cases i with
  |zero=>exact Bool.not_eq_true' _ |>.mp h.1
  |succ i=>exact Ab n h.2 i
section
variable{X:Xc}{n f:Nat}{d:bo}{xs:List XV}{T U:List PV}
theorem Ei{R:Fl->aD->af->Prop}(hc:X.cf=ax aj ae n)(hd:aj f=some d)(hp:xs.length=d.params)(hn:xs.all (λx=> !gI x)=true)
  (h:∀n0,XS X n0 d.body (args xs (d.locals-d.params)) T R) {vs:List PV} {Z:af} (hv:jz X.toWc Z xs vs) (w:WS X.toWc T Z):
  ∃g aY ag,au (ax aj ae n) ae d.body (vs.map some++List.replicate (d.locals-d.params) none) Z=some (.ok (g,aY),ag)/\KE X.it Z ag/\R g aY ag/\(∀r,outF g ag=r->ax aj ae (n+1) f vs Z=r):=by
 have ao:=tU (d.locals-d.params) hv
 have nd:=Ab (d.locals-d.params) hn
 obtain ⟨g,aY,ag,e,k,r⟩:=h Z.length (vs.map some++List.replicate (d.locals-d.params) none) Z (Nat.le_refl _) ⟨ao.1,ao.2,λi O h=>absurd ((nd i).symm.trans h) Bool.noConfusion,λi O O h=>absurd ((nd i).symm.trans h) Bool.noConfusion⟩ w
 rw[hc] at e
 refine⟨g,aY,ag,e,⟨k.len,λi o hi ho=>k.keep i o hi (bA _ _ _ ho) ho⟩,r,λq hq=> ?_⟩
 rw[nV hd (hv.len.symm.trans hp) e,<-hq]
theorem gm{v:PV}(hc:X.cf=ax aj ae n)(hd:aj f=some d)(hp:xs.length=d.params)(hn:xs.all (λx=> !gI x)=true)
  (h:∀n0 T,XS X n0 d.body (args xs (d.locals-d.params)) T (Rt X v T)):dz X.toWc (ax aj ae (n+1)) f xs (.v v):=λvs T Z hv w=>by
 obtain ⟨g,aY,ag,e,k,⟨rfl,w'⟩,q⟩:=Ei hc hd hp hn (λn0=>h n0 T) hv w
 exact⟨v,ag,q _ rfl,w',k,rfl⟩
noncomputable def Tells(c:Wc)(cf:Nat->List PV->af->aF PV)(f:Nat)(xs:List XV)(M:List PV):Prop:=∀vs T Z,jz c Z xs vs->WS c T Z->big (T++M)->∃ag,cf f vs Z=some (.ok .none,ag)/\WS c (T++M) ag/\KE c.it Z ag
theorem bX{M:List PV}(hc:X.cf=ax aj ae n)(hd:aj f=some d)(hp:xs.length=d.params)(hn:xs.all (λx=> !gI x)=true)
  (h:∀n0 T,big (T++M)->XS X n0 d.body (args xs (d.locals-d.params)) T (En X (T++M))):Tells X.toWc (ax aj ae (n+1)) f xs M:=λvs T Z hv w hb=>by
 obtain ⟨g,aY,ag,e,k,⟨rfl,w'⟩,q⟩:=Ei hc hd hp hn (λn0=>h n0 T hb) hv w
 exact⟨ag,q _ rfl,w',k⟩
end
structure WW(c:Wc):Prop where
 it:c.it=c.kC.length
 H4:∃d es ks,ar c.kC c.jt=some (.attrs (some (.ref d)))/\ar c.kC d=some (.dict .int es)/\
  (∀t,(bj es (.int t)=.none/\c.B.R t=[])\/∃i,bj es (.int t)=some (.ref i)/\ar c.kC i=some (.list ((c.B.R t).map pr)))/\
  intKeys es=some ks/\ks.length<64/\gV (ks.map .int)=some (c.B.keys.map .int)
 txt:∃i,ar c.kC c.jx=some (.attrs (some (.ref i)))/\ar c.kC i=some (.list (c.B.txt.map .str))
 gG:∃i,ar c.kC c.jb=some (.attrs (some (.ref i)))/\ar c.kC i=some (.list (c.B.gG.map .bytes))/\aS c.B.gG=true
section
variable{c:Wc}{T:List PV}{Z:af}
theorem WW.get(h:WW c)(w:WS c T Z){i:Nat}{o:MO}(g:ar c.kC i=some o):ar Z i=some o:=
 (w.1 i (by rw[h.it];exact bA _ _ _ g)).trans g
theorem Ac{cl j i:Nat}(g:ar Z j=some (.attrs (some (.ref i))))(hc:cl<=1):getAttr (.inst cl j) Z=some (.ref i):=by
 show ((ar Z j).bind λa=>(lI a).bind λr=>r.bind λv=>(o8 v).bind λi=>aJ (Nat.ble cl 1) (some (PV.ref i)))=_
 rw[g]
 show aJ (Nat.ble cl 1) _=_
 rw[Nat.ble_eq_true_of_le hc];rfl
theorem WW.ok(h:WW c):uE c where
 keys T Z w:=by
  obtain ⟨d,es,ks,g1,g2,_,hk,hl,hs⟩:=h.H4
  refine⟨d,Ac (h.get w g1) (Nat.le_refl _),?_⟩
  show ((ar Z d).bind (vw Z))=_
  rw[h.get w g2]
  show ((intKeys es).bind λks=>aJ (decide (ks.length<64)) ((gV (ks.map .int)).bind λl=>some (PV.ref Z.length,Z++[.list l])))=_
  rw[hk]
  show aJ (decide (ks.length<64)) _=_
  rw[decide_eq_true hl,hs];rfl
 PW T Z w:=by obtain ⟨d,es,ks,g1,_⟩:=h.H4;exact⟨_,h.get w g1⟩
variable{cf:Nat->List PV->af->aF PV}{J:aD}{ak:af}
theorem iv{o:ME}{m:Nat}{es:bZ}{x:PV}{vs:List PV}(h:ai cf ae o J Z=some (.ok x,Z))(k:dj m x Z=true)(h2:bw cf ae es J Z=some (.ok vs,ak)):ai cf ae (.aU o m es) J Z=gw cf x m vs ak:=by
 show ay (ai cf ae o J Z) (λx Z=>aJ (dj m x Z) (ay (bw cf ae es J Z) λvs Z=>gw cf x m vs Z))=_
 rw[h]
 show aJ (dj m x Z) (ay (bw cf ae es J Z) λvs Z=>gw cf x m vs Z)=_
 rw[k,h2];rfl
theorem md{cl j i k:Nat}(hl:bD J k=some (.inst cl j))(g:ar Z j=some (.attrs (some (.ref i))))(hc:cl<=1):ai cf ae (.attr (.aa k)) J Z=some (.ok (.ref i),Z):=by
 show ay (FR.read Z (bD J k)) (λx Z=>FR.read Z (getAttr x Z))=_
 rw[hl]
 show FR.read Z (getAttr (.inst cl j) Z)=_
 rw[Ac g hc];rfl
theorem bR{a i:ME}{x y v:PV}(ha:ai cf ae a J Z=some (.ok x,Z))(hi:ai cf ae i J Z=some (.ok y,Z))(h:index x y Z=some v):ai cf ae (.aq a i) J Z=some (.ok v,Z):=
 aM ha (aM hi (by rw[h];rfl))
theorem d8{o:Cm}{a b:ME}{x y:PV}{r:Bool}(ha:ai cf ae a J Z=some (.ok x,Z))(hb:ai cf ae b J Z=some (.ok y,ak))(h:kO o x y ak=some r):ai cf ae (.cmp o a b) J Z=some (.ok (.bool r),ak):=
 aM ha (aM hb (by rw[h];rfl))
theorem df{o:pV}{a b:ME}{x y z:Int}(ha:ai cf ae a J Z=some (.ok (.int x),Z))(hb:ai cf ae b J Z=some (.ok (.int y),Z))(h:gQ o x y=some z):ai cf ae (.bin o a b) J Z=some (.ok (.int z),Z):=
 aM ha (aM hb (by rw[oA h];rfl))
theorem oK{a b:ME}{x y:Bool}{bk:af}(ha:ai cf ae a J Z=some (.ok (.bool x),ak))(hb:x=false->ai cf ae b J ak=some (.ok (.bool y),bk)):
  ai cf ae (.or (.cons a (.cons b .nil))) J Z=some (.ok (.bool (x||y)),bif x then ak else bk):=by
 show ay (ai cf ae a J Z) (λv Z=>pick (truth Z v) (av v Z) (ai cf ae b J Z))=_
 rw[ha]
 show pick (some x) _ _=_
 cases x with
 |true=>rfl
 |false=>exact hb rfl
theorem sJ{i:Nat}{e:ME}{r:bG}{v:PV}{R:aF (Fl×aD)}(h:ai cf ae e J Z=some (.ok v,ak))(k:au cf ae r (cU J i v) ak=R):au cf ae (.cons (.aK i e) r) J Z=R:=
 (eX (dX h)).trans k
theorem y_ret{e:ME}{r:bG}{v:PV}(h:ai cf ae e J Z=some (.ok v,ak)):au cf ae (.cons (.ret e) r) J Z=some (.ok (.ret v,J),ak):=
 eY nofun (tv h)
theorem ic{e:ME}{a b r:bG}{t:Bool}{R:aF (Fl×aD)}(h:ai cf ae e J Z=some (.ok (.bool t),ak))(k:(ay (bif t then au cf ae a J ak else au cf ae b J ak) λf Z=>match f.1 with | .next=>au cf ae r f.2 Z | _=>av f Z)=R):
  au cf ae (.cons (.ba e a b) r) J Z=R:=by
 show ay (br cf ae (.ba e a b) J Z) (λf Z=>match f.1 with | .next=>au cf ae r f.2 Z | _=>av f Z)=R
 rw[fU h]
 cases t<;>exact k
theorem bN{n f:Nat}{d:bo}{vs:List PV}{v:PV}{aY:aD}(hd:aj f=some d)(hp:vs.length=d.params)(h:au (ax aj ae n) ae d.body (vs.map some++List.replicate (d.locals-d.params) none) Z=some (.ok (.ret v,aY),ak)):ax aj ae (n+1) f vs Z=some (.ok v,ak):=nV hd hp h
theorem m8{n f:Nat}{d:bo}{vs:List PV}{aY:aD}(hd:aj f=some d)(hp:vs.length=d.params)(h:au (ax aj ae n) ae d.body (vs.map some++List.replicate (d.locals-d.params) none) Z=some (.ok (.next,aY),ak)):ax aj ae (n+1) f vs Z=some (.ok .none,ak):=nV hd hp h
theorem oM{n f:Nat}{d:bo}{vs:List PV}(hd:aj f=some d)(hp:vs.length=d.params)(h:au (ax aj ae n) ae d.body (vs.map some++List.replicate (d.locals-d.params) none) Z=some (.error .fresh,ak)):ax aj ae (n+1) f vs Z=some (.error .iy,ak):=y4 hd hp h
theorem Ad(h:WW c)(w:WS c T Z)(t:Int)(J:aD)(h0:bD J 0=some (.inst 1 c.jt))(h1:bD J 1=some (.int t))(cf:Nat->List PV->af->aF PV):
  ∃i,ai cf ae (.aU (.attr (.aa 0)) 0 (.cons (.aa 1) (.cons (.list .nil) .nil))) J Z=some (.ok (.ref i),Z++[.list []])/\i≠c.it/\ar (Z++[.list []]) i=some (.list ((c.B.R t).map pr)):=by
 obtain ⟨d,es,ks,g1,g2,hr,_⟩:=h.H4
 have g1:=h.get w g1
 have g2:=h.get w g2
 have Mw:ar (Z++[.list []]) d=some (.dict .int es):=(dJ _ _ _ (bA _ _ _ g2)).trans g2
 have e:ai cf ae (.aU (.attr (.aa 0)) 0 (.cons (.aa 1) (.cons (.list .nil) .nil))) J Z=some (.ok ((bj es (.int t)).getD (.ref Z.length)),Z++[.list []]):=by
  refine(iv (x:=.ref d) (vs:=[.int t,.ref Z.length]) (ak:=Z++[.list []]) (md h0 g1 (Nat.le_refl _)) (zL g2) ?_).trans ?_
  ·exact aM (v:=.int t) (ak:=Z) (by show FR.read Z (bD J 1)=_;rw[h1];rfl) rfl
  ·show FR.lift (getM (.ref d) (.int t) (.ref Z.length) (Z++[.list []]))=_
   rw[Kx Mw (y:=.int t) rfl];rfl
 rcases hr t with ⟨hn,he⟩ | ⟨i,hi,gi⟩
 ·refine⟨Z.length,by rw[e,hn];rfl,Nat.ne_of_gt w.lt,by rw[bM,he];rfl⟩
 ·refine⟨i,by rw[e,hi];rfl,?_,(dJ _ _ _ (bA _ _ _ (h.get w gi))).trans (h.get w gi)⟩
  have:=bA _ _ _ gi;rw[h.it];omega
theorem cx{α β:Type}{l:List α}{f:α->β}(h:l.length<=65536):aS (l.map f)=true:=decide_eq_true (by rw[List.length_map];exact h)
theorem M6(h:WW c)(sh:Shape c.B)(n:Nat)(t:Int):dz c (ax aj ae (n+1)) 5 [.ts,.v (.int t)] (.rl (bB t).length (c.B.R t)):=λvs T Z hv w=>by
 match vs,hv with
 |[_,_],hv=>
  obtain ⟨rfl,rfl,_⟩:=hv
  obtain ⟨i,e,ni,g⟩:=Ad h w t [some (.inst 1 c.jt),some (.int t)] rfl rfl (ax aj ae n)
  exact⟨_,_,bN d5 rfl (y_ret e),w.new _,KE.new _ _ _,i,rfl,ni,g,sh.nI t,bJ (fk t) (by decide)⟩
theorem Ae(h:WW c)(fi:iG c.B)(n:Nat)(t:Int)(w:WS c T Z):ax aj ae (n+1) 106 [.inst 1 c.jt,.int t] Z=some (.ok (.int (cnt c.B t)),Z++[.list []]):=by
 obtain ⟨i,e,ni,g⟩:=Ad h w t [some (.inst 1 c.jt),some (.int t)] rfl rfl (ax aj ae n)
 have hf:aS ((c.B.R t).map pr)=true:=cx (bJ (fi.len t) (by decide))
 have e2:ai (ax aj ae n) ae (.aO .len (.aU (.attr (.aa 0)) 0 (.cons (.aa 1) (.cons (.list .nil) .nil)))) [some (.inst 1 c.jt),some (.int t)] Z=some (.ok (.int (cnt c.B t)),Z++[.list []]):=aM e (by rw[len_list g hf,List.length_map];rfl)
 exact bN RF rfl (y_ret e2)
theorem JP(h:WW c)(fi:iG c.B)(n:Nat)(t:Int):dz c (ax aj ae (n+1)) 106 [.ts,.v (.int t)] (.v (.int (cnt c.B t))):=λvs T Z hv w=>by
 match vs,hv with
 |[_,_],hv=>
  obtain ⟨rfl,rfl,_⟩:=hv
  exact⟨_,_,Ae h fi n t w,w.new _,KE.new _ _ _,rfl⟩
theorem i1{r:Row}(h:1<r.length)(h2:r.length<=65536):index (pr r) (.int 1) []=some (.int (cl r 1)):=iI ⟨by decide,Int.ofNat_lt.mpr h,h2⟩
theorem i7{r:Row}(h:7<r.length)(h2:r.length<=65536):index (pr r) (.int 7) []=some (.int (cl r 7)):=iI ⟨by decide,Int.ofNat_lt.mpr h,h2⟩
theorem dM{x:Int}(h: -100000<=x)(h2:x<=100000):small x=true:=Bool.and_eq_true_iff.mpr ⟨decide_eq_true (Int.lt_of_lt_of_le (by decide) h),decide_eq_true (Int.lt_of_le_of_lt h2 (by decide))⟩
theorem gE{l:List PV}{k:Int}(h0:0<=k)(h1:k<(l.length:Int))(hf:aS l=true):listAt l (.int k)=fN l k.toNat:=uG h0 h1 (bV hf)
theorem tV{B:Tb}{t k:Int}(h1:1<=k)(h2:k<=cnt B t):(B.R t)[(k-1).toNat]? =some (bz B t k):=by
 have dv:(k-1).toNat<(B.R t).length:=(Int.toNat_lt (Int.sub_nonneg_of_le h1)).mpr (Int.lt_of_lt_of_le (Int.sub_lt_self k (by decide)) h2)
 rw[bz,List.getD_eq_getElem?_getD,List.getElem?_eq_getElem dv];rfl
theorem ie{B:Tb}{t k:Int}(h1:1<=k)(h2:k<=cnt B t):bz B t k∈B.R t:=List.mem_of_getElem? (tV h1 h2)
theorem H5(h:WW c)(sh:Shape c.B)(n:Nat)(t k:Int)(h1:1<=k/\k<=cnt c.B t):dz c (ax aj ae (n+2)) 105 [.ts,.v (.int t),.v (.int k)] (.r (bB t).length (bz c.B t k)):=λvs T Z hv w=>by
 match vs,hv with
 |[_,_,_],hv=>
  obtain ⟨rfl,rfl,rfl,_⟩:=hv
  have hw:=sh.nI t _ (ie h1.1 h1.2)
  refine⟨_,Z++[.list []],?_,w.new _,KE.new _ _ _,rfl,hw,bJ (fk t) (by decide)⟩
  have w1:=w.new (.list [])
  obtain ⟨d,es,ks,g1,g2,hr,_⟩:=h.H4
  have g0:=h.get w g1
  have g1:=h.get w1 g1
  have g2:=h.get w1 g2
  have a1:ai (ax aj ae (n+1)) ae (.cmp .lt (.aa 2) (.k (.int 1))) [some (.inst 1 c.jt),some (.int t),some (.int k)] Z=some (.ok (.bool (decide (k<1))),Z):=rfl
  have a2:ai (ax aj ae (n+1)) ae (.cmp .gt (.aa 2) (.aU (.aa 0) 4 (.cons (.aa 1) .nil))) [some (.inst 1 c.jt),some (.int t),some (.int k)] Z=some (.ok (.bool (decide (k>cnt c.B t))),Z++[.list []]):=
   d8 (x:=.int k) (y:=.int (cnt c.B t)) rfl ((iv (x:=.inst 1 c.jt) (vs:=[.int t]) rfl (tB g0) rfl).trans (Ae h sh.toiG n t w)) rfl
  have e1:=oK a1 λO=>a2
  rw[decide_eq_false (show ¬k<1 by omega),decide_eq_false (show ¬k>cnt c.B t by omega)] at e1
  rcases hr t with ⟨hn,he⟩ | ⟨i,hi,gi⟩
  ·have:cnt c.B t=0:=by simp only [cnt,he];rfl
   omega
  ·have gi:=h.get w1 gi
   have hl:((c.B.R t).map pr).length<=60000:=by rw[List.length_map];exact sh.len t
   have hc:cnt c.B t=(((c.B.R t).map pr).length:Int):=by rw[List.length_map];rfl
   have ix:index (.ref i) (.int (k-1)) (Z++[.list []])=some (pr (bz c.B t k)):=by
    rw[gD gi,gE (by omega) (by omega) (decide_eq_true (by omega)),nth_get?,List.getElem?_map,tV h1.1 h1.2];rfl
   have e2:ai (ax aj ae (n+1)) ae (.aq (.aq (.attr (.aa 0)) (.aa 1)) (.bin .sub (.aa 2) (.k (.int 1)))) [some (.inst 1 c.jt),some (.int t),some (.int k)] (Z++[.list []])=some (.ok (pr (bz c.B t k)),Z++[.list []]):=
    bR (x:=.ref i) (y:=.int (k-1)) (bR (x:=.ref d) (y:=.int t) (md rfl g1 (Nat.le_refl _)) rfl (rg g2 (y:=.int t) rfl |>.trans hi)) rfl ix
   exact bN RE rfl (ic e1 (y_ret e2))
noncomputable def oh{α:Type}(f:α->PV):Option α->Except Ex PV
 |some x=>.ok (f x)
 |none=>.error .iy
theorem JQ{α:Type}{l:List α}{k:Int}(h:k<0\/k>=(l.length:Int)):c6 l k=none:=by
 rcases h with h | h
 ·exact if_pos h
 ·rw[c6];split
  ·rfl
  ·exact List.getElem?_eq_none (by omega)
theorem Ej{α:Type}{l:List α}{f:α->PV}{j i:Nat}(g1:ar Z j=some (.attrs (some (.ref i))))(g2:ar Z i=some (.list (l.map f)))(hf:aS l=true)(n:Nat)(k:Int):
  ax aj ae (n+1) 102 [.inst 0 j,.int k] Z=some (oh f (c6 l k),Z):=by
 have hl:l.length<=65536:=bV hf
 have e0:ai (ax aj ae n) ae (.attr (.aa 0)) [some (.inst 0 j),some (.int k)] Z=some (.ok (.ref i),Z):=md rfl g1 (Nat.zero_le _)
 have a2:ai (ax aj ae n) ae (.cmp .ge (.aa 1) (.aO .len (.attr (.aa 0)))) [some (.inst 0 j),some (.int k)] Z=some (.ok (.bool (decide (k>=(l.length:Int)))),Z):=
  d8 (x:=.int k) (y:=.int l.length) rfl (aM e0 (by rw[len_list g2 (cx hl),List.length_map];rfl)) rfl
 have e1:=oK (x:=decide (k<0)) (cf:=ax aj ae n) (J:=[some (.inst 0 j),some (.int k)]) (a:=.cmp .lt (.aa 1) (.k (.int 0))) rfl λO=>a2
 have cs:(bif decide (k<0) then Z else Z)=Z:=by cases decide (k<0)<;>rfl
 rw[cs] at e1
 by_cases hk:k<0\/k>=(l.length:Int)
 ·rw[JQ hk]
  rw[show (decide (k<0)||decide (k>=(l.length:Int)))=true by rw[<-Bool.decide_or];exact decide_eq_true hk] at e1
  exact oM My rfl (ic e1 rfl)
 ·have dE:k.toNat<l.length:=by omega
  have iL:c6 l k=some l[k.toNat]:=by rw[c6,if_neg (by omega),List.getElem?_eq_getElem dE]
  have ix:index (.ref i) (.int k) Z=some (f l[k.toNat]):=by
   rw[gD g2,gE (by omega) (by rw[List.length_map];omega) (cx hl),nth_get?,List.getElem?_map,List.getElem?_eq_getElem dE];rfl
  rw[show (decide (k<0)||decide (k>=(l.length:Int)))=false by rw[<-Bool.decide_or];exact decide_eq_false hk] at e1
  rw[iL]
  exact bN My rfl (ic e1 (y_ret (bR e0 (y:=.int k) rfl ix)))
theorem M7(h:WW c)(fi:iG c.B)(n:Nat)(k:Int)(w:WS c T Z):ax aj ae (n+1) 102 [.inst 0 c.jx,.int k] Z=some (oh .str (c6 c.B.txt k),Z):=by
 obtain ⟨i,g1,g2⟩:=h.txt
 exact Ej (h.get w g1) (h.get w g2) (decide_eq_true (bJ fi.txt (by decide))) n k
theorem M8(h:WW c)(n:Nat)(k:Int)(w:WS c T Z):ax aj ae (n+1) 102 [.inst 0 c.jb,.int k] Z=some (oh .bytes (c6 c.B.gG k),Z):=by
 obtain ⟨i,g1,g2,hf⟩:=h.gG
 exact Ej (h.get w g1) (h.get w g2) hf n k
theorem jT{j i:Nat}(g:ar Z j=some (.attrs (some (.ref i)))):dj 3 (.inst 0 j) Z=true:=tB g
theorem RI(h:WW c)(fi:iG c.B)(n:Nat)(k:Int)(hk:∃s,c6 c.B.txt k=some s):dz c (ax aj ae (n+2)) 6 [.tx,.v (.int k)] (.v (.str (nm c.B k))):=λvs T Z hv w=>by
 match vs,hv with
 |[_,_],hv=>
  obtain ⟨rfl,rfl,_⟩:=hv
  obtain ⟨s,hs⟩:=hk
  obtain ⟨i,g1,_⟩:=h.txt
  have e:ax aj ae (n+1) 102 [.inst 0 c.jx,.int k] Z=_:=M7 h fi n k w
  rw[hs] at e
  refine⟨_,Z,bN rfl rfl (y_ret ((iv (x:=.inst 0 c.jx) (vs:=[.int k]) rfl (jT (h.get w g1)) rfl).trans e)),w,.refl _ _,?_⟩
  rw[nm,hs];rfl
theorem Af{α:Type}{l:List α}{k:Int}{s:α}(h:c6 l k=some s):s∈l:=by
 rw[c6] at h;split at h
 ·cases h
 ·exact List.mem_of_getElem? h
theorem RJ(h:WW c)(fi:iG c.B)(n:Nat)(k:Int)(hk:∃s,c6 c.B.gG k=some s):dz c (ax aj ae (n+2)) 7 [.bl,.v (.int k)] (.o (bb c.B k)):=λvs T Z hv w=>by
 match vs,hv with
 |[_,_],hv=>
  obtain ⟨rfl,rfl,_⟩:=hv
  obtain ⟨s,hs⟩:=hk
  obtain ⟨i,g1,_⟩:=h.gG
  have e:ax aj ae (n+1) 102 [.inst 0 c.jb,.int k] Z=_:=M8 h n k w
  rw[hs] at e
  have hf:aS s=true:=decide_eq_true (bJ (fi.gG s (Af hs)) (by decide))
  have e2:ai (ax aj ae (n+1)) ae (.aO .tuple (.aU (.aa 0) 3 (.cons (.aa 1) .nil))) [some (.inst 0 c.jb),some (.int k)] Z=some (.ok (jI s),Z):=
   aM ((iv (x:=.inst 0 c.jb) (vs:=[.int k]) rfl (jT (h.get w g1)) rfl).trans e) (by show FR.lift (aJ (aS s) _)=_;rw[hf];rfl)
  refine⟨_,Z,bN rfl rfl (y_ret e2),w,.refl _ _,?_⟩
  rw[bb,hs];rfl
end
noncomputable def H6:List (Nat×(List XV->XR XV))->Nat->List XV->XR XV
 |[],_,_=>none
 |e::r,f,xs=>if e.1=f then e.2 xs else H6 r f xs
noncomputable def Ah(c:Wc)(cf:Nat->List PV->af->aF PV):List (Nat×(List XV->XR XV))->Prop
 |[]=>True
 |e::r=>(∀xs,Sd (e.2 xs) (dz c cf e.1 xs))/\Ah c cf r
theorem Ek{c:Wc}{cf:Nat->List PV->af->aF PV}:∀{es:List (Nat×(List XV->XR XV))},Ah c cf es->∀f xs,Sd (H6 es f xs) (dz c cf f xs)
 |[],_,_,_=>Sd.none
 |e::r,h,f,xs=>by
  rw[H6]
  split
  ·rename_i q;rw[<-q];exact h.1 xs
  ·exact Ek h.2 f xs
noncomputable def iT(c:Wc)(h:uE c)(n:Nat)(es:List (Nat×(List XV->XR XV)))(ok:Ah c (ax aj ae n) es):Xc:=⟨c,ax aj ae n,H6 es,h,Ek ok⟩
noncomputable def qm(k:List XV->XR XV):List XV->XR XV
 |[]=>none
 |x::r=>match x with
  |.ts=>k r
  |_=>none
noncomputable def H7(k:List XV->XR XV):List XV->XR XV
 |[]=>none
 |x::r=>match x with
  |.tx=>k r
  |_=>none
noncomputable def M9(k:List XV->XR XV):List XV->XR XV
 |[]=>none
 |x::r=>match x with
  |.bl=>k r
  |_=>none
noncomputable def aV(k:PV->List XV->XR XV):List XV->XR XV
 |[]=>none
 |x::r=>match x with
  |.v v=>k v r
  |_=>none
noncomputable def aR(k:Nat->Row->List XV->XR XV):List XV->XR XV
 |[]=>none
 |x::r=>match x with
  |.r w row=>k w row r
  |_=>none
noncomputable def aI(k:Int->List XV->XR XV):List XV->XR XV:=aV λv r=>match v with
 |.int i=>k i r
 |_=>none
noncomputable def aE(r:XR XV):List XV->XR XV
 |[]=>r
 |_::_=>none
section
variable{P:List XV->XV->Prop}
theorem iM{k:List XV->XR XV}(h:∀r,Sd (k r) (P (.ts::r))):∀xs,Sd (qm k xs) (P xs)
 |[]=>Sd.none
 |x::r=>by cases x with
  |ts=>exact h r
  |_=>exact Sd.none
theorem xW{k:List XV->XR XV}(h:∀r,Sd (k r) (P (.tx::r))):∀xs,Sd (H7 k xs) (P xs)
 |[]=>Sd.none
 |x::r=>by cases x with
  |tx=>exact h r
  |_=>exact Sd.none
theorem El{k:List XV->XR XV}(h:∀r,Sd (k r) (P (.bl::r))):∀xs,Sd (M9 k xs) (P xs)
 |[]=>Sd.none
 |x::r=>by cases x with
  |bl=>exact h r
  |_=>exact Sd.none
theorem Cg{k:PV->List XV->XR XV}(h:∀v r,Sd (k v r) (P (.v v::r))):∀xs,Sd (aV k xs) (P xs)
 |[]=>Sd.none
 |x::r=>by cases x with
  |v a=>exact h a r
  |_=>exact Sd.none
theorem O1{k:Nat->Row->List XV->XR XV}(h:∀w row r,Sd (k w row r) (P (.r w row::r))):∀xs,Sd (aR k xs) (P xs)
 |[]=>Sd.none
 |x::r=>by cases x with
  |r w row=>exact h w row r
  |_=>exact Sd.none
theorem b8{k:Int->List XV->XR XV}(h:∀i r,Sd (k i r) (P (.v (.int i)::r))):∀xs,Sd (aI k xs) (P xs):=Cg λv r=>by cases v with
 |int i=>exact h i r
 |_=>exact Sd.none
theorem d9{r:XR XV}(h:Sd r (P [])):∀xs,Sd (aE r xs) (P xs)
 |[]=>h
 |_::_=>Sd.none
theorem Sd.of{α:Type}{x:α}{p:Prop}{P:α->Prop}(h:p->P x):Sd (some (x,[p])) P:=λO O e a=>by cases e;exact h a
end
noncomputable abbrev Oe:=Nat×(List XV->XR XV)
section
variable(B:Tb)
noncomputable def pG:Oe:=(5,qm (aI λt=>aE (some (.rl (bB t).length (B.R t),[]))))
noncomputable def i8:Oe:=(106,qm (aI λt=>aE (some (.v (.int (cnt B t)),[]))))
noncomputable def Gu:Oe:=(105,qm (aI λt=>aI λk=>aE (some (.r (bB t).length (bz B t k),[1<=k/\k<=cnt B t]))))
noncomputable def lh:Oe:=(105,qm (aI λt=>aI λk=>aE (some (.rs (bz B t k),[1<=k/\k<=cnt B t]))))
noncomputable def uK:Oe:=(6,H7 (aI λk=>aE (some (.v (.str (nm B k)),[∃s,c6 B.txt k=some s]))))
noncomputable def xX:Oe:=(7,M9 (aI λk=>aE (some (.o (bb B k),[∃s,c6 B.gG k=some s]))))
noncomputable def PY:Oe:=(23,aR λw r=>aE (some (.v (.bool (isIf r)),[0<w])))
noncomputable def H8:Oe:=(33,aI λm=>aI λt=>aE (some (.v (.bool (ov m t)),[])))
noncomputable def Em:Oe:=(2,aI λc=>aI λk=>aE (some (.v (.ah [.int (bW B c k).1,.int (bW B c k).2]),[(0<=c/\c<=6)/\∃p,dm c k=some p])))
noncomputable def iN(s k:Int):PV:=match dm (s-512) k with
 |some p=>.ah [.int p.1,.int p.2]
 |.none=>.none
noncomputable def m9(v:PV):Oe:=(13,aI λs=>aI λk=>aE (some (.v v,[(512<=s/\s<=518)/\iN s k=v])))
noncomputable def jC:Oe:=(18,qm (aI λt=>aI λP=>aI λo=>aI λk=>aE (some (.v (.ah [.int (fQ B t P.toNat k),.int (gH B t P.toNat o k)]),[(0<=P/\P<(bB t).length)/\1<=k/\k<=cnt B t]))))
noncomputable def Gv:Oe:=(19,qm (aI λt=>aI λP=>aI λo=>aI λk=>aE (some (.v (.int (eQ B t P.toNat o k)),[0<=P/\P<(bB t).length]))))
noncomputable def Eo:Oe:=(34,qm (aI λt=>aI λk=>aE (some (.v (.int (xG B t k)),[]))))
noncomputable def eList:Oe:=(14,aI λt=>aI λP=>aE (some (.v (.bool (fj t P)),[])))
noncomputable def eName:Oe:=(16,qm (aI λs=>aI λk=>aV λv=>match v with
 |.bool b=>aE (some (.v (.bool (dq B s k b)),[s<=518]))
 |_=>λO=>none))
end
section
variable{c:Wc}(h:WW c)
include h
theorem rk(sh:Shape c.B)(n:Nat):∀xs,Sd ((pG c.B).2 xs) (dz c (ax aj ae (n+1)) 5 xs):=iM (b8 λt=>d9 (Sd.av (M6 h sh n t)))
theorem j2(fi:iG c.B)(n:Nat):∀xs,Sd ((i8 c.B).2 xs) (dz c (ax aj ae (n+1)) 106 xs):=iM (b8 λt=>d9 (Sd.av (JP h fi n t)))
theorem Ai(sh:Shape c.B)(n:Nat):∀xs,Sd ((Gu c.B).2 xs) (dz c (ax aj ae (n+2)) 105 xs):=iM (b8 λt=>b8 λk=>d9 (Sd.of (H5 h sh n t k)))
omit h in
theorem dz.imp{cf:Nat->List PV->af->aF PV}{f:Nat}{xs:List XV}{x y:XV}(k:dz c cf f xs x)(g:∀Z v,VX c Z x v->VX c Z y v):dz c cf f xs y:=λvs T Z hv w=>
 let ⟨v,ag,e,w,ke,p⟩:=k vs T Z hv w;⟨v,ag,e,w,ke,g _ _ p⟩
theorem rn(sh:Shape c.B)(n:Nat):∀xs,Sd ((lh c.B).2 xs) (dz c (ax aj ae (n+2)) 105 xs):=iM (b8 λt=>b8 λk=>d9 (Sd.of λhk=>dz.imp (y:=.rs (bz c.B t k)) (H5 h sh n t k hk) λO O p=>p.1))
theorem xY(fi:iG c.B)(n:Nat):∀xs,Sd ((uK c.B).2 xs) (dz c (ax aj ae (n+2)) 6 xs):=xW (b8 λk=>d9 (Sd.of (RI h fi n k)))
theorem Ep(fi:iG c.B)(n:Nat):∀xs,Sd ((xX c.B).2 xs) (dz c (ax aj ae (n+2)) 7 xs):=El (b8 λk=>d9 (Sd.of (RJ h fi n k)))
theorem Na(n:Nat):∀xs,Sd (PY.2 xs) (dz c (ax aj ae (n+1)) 23 xs):=O1 λw r=>d9 (Sd.of λh0 vs T Z hv ws=>by
 match vs,hv with
 |[_],hv=>
  obtain ⟨⟨rfl,rfl,hw⟩,_⟩:=hv
  exact gm (X:=iT c h.ok n [] a_) (xs:=[.rs r]) rfl rfl rfl rfl (λn0 T=>d6 (x:=.v (.bool (isIf r))) (ps:=[0<=(0:Int)/\(0:Int)<r.length/\r.length<=65536]) rfl ⟨Int.le_refl 0,by omega,hw⟩ rfl) _ T Z ⟨rfl,a_⟩ ws)
theorem Gw(n:Nat):∀xs,Sd (H8.2 xs) (dz c (ax aj ae (n+1)) 33 xs):=b8 λm=>b8 λt=>d9 (Sd.av (gm (X:=iT c h.ok n [] a_) rfl rfl rfl rfl λn0 T=>
 eS (x:=.v (.bool (decide (t=20)))) (ps:=[]) (t:=decide (t=20)) rfl a_ rfl
  (λe=>by rw[ov,if_pos (bV e)];exact Rt.ne (d6 (x:=.v (.bool (decide (m=8)||decide (m=16)))) (ps:=[]) rfl a_ rfl))
  (λe=>by rw[ov,if_neg (of_decide_eq_false e)];exact d6 (x:=.v (.bool (decide (m=1)||decide (m=2)))) (ps:=[]) rfl a_ rfl)))
theorem oN(sh:Shape c.B)(n:Nat):∀xs,Sd ((jC c.B).2 xs) (dz c (ax aj ae (n+3)) 18 xs):=iM (b8 λt=>b8 λP=>b8 λo=>b8 λk=>d9 (Sd.of λhk=>by
 obtain ⟨hP,hk⟩:=hk
 have hw:=λj(hj:1<=j/\j<=cnt c.B t)=>show 0<=P/\P<(bz c.B t j).length/\(bz c.B t j).length<=65536 by
  rw[sh.nI t _ (ie hj.1 hj.2)];exact⟨hP.1,hP.2,bJ (fk t) (by decide)⟩
 refine gm (X:=iT c h.ok (n+2) [i8 c.B,lh c.B] ⟨j2 h sh.toiG (n+1),rn h sh n,a_⟩) rfl rfl rfl rfl λn0 T=> ?_
 refine bu (aZ:=[.ts,.v (.int t),.v (.int P),.v (.int o),.v (.int k),.v (.int (fQ c.B t P.toNat k))]) (ps:=[1<=k/\k<=cnt c.B t,0<=P/\P<(bz c.B t k).length/\(bz c.B t k).length<=65536]) rfl ⟨hk,hw k hk⟩ ?_
 refine eS (x:=.v (.bool (decide (k<cnt c.B t)))) (ps:=[]) (t:=decide (k<cnt c.B t)) rfl a_ rfl (λe=> ?_) λe=> ?_
 ·rw[gH,if_pos (bV e)]
  have PZ:1<=k+1/\k+1<=cnt c.B t:=⟨Int.le_trans hk.1 (Int.le_add_of_nonneg_right (by decide)),bV e⟩
  exact Rt.ne (d6 (x:=.v (.ah [.int (fQ c.B t P.toNat k),.int (cl (bz c.B t (k+1)) P.toNat)])) (ps:=[1<=k+1/\k+1<=cnt c.B t,0<=P/\P<(bz c.B t (k+1)).length/\(bz c.B t (k+1)).length<=65536]) rfl ⟨PZ,hw _ PZ⟩ rfl)
 ·rw[gH,if_neg (of_decide_eq_false e)]
  exact d6 (x:=.v (.ah [.int (fQ c.B t P.toNat k),.int (cnt c.B o+1)])) (ps:=[]) rfl a_ rfl))
end
section
variable{c:Wc}
theorem oO{X:Type}(q:Nat->X->Option Int):∀(l:List X)(k:Nat),iK (λk x=>(q k x).map PV.int) k l=(je q k l).map PV.int
 |[],_=>rfl
 |x::l,k=>by
  simp only [iK,je]
  cases q k x with
  |none=>exact oO q l (k+1)
  |some v=>rfl
theorem XS.imp{X:Xc}{n0:Nat}{ss:bG}{aw:List XV}{T:List PV}{R R':Fl->aD->af->Prop}(h:XS X n0 ss aw T R)(g:∀f J Z,R f J Z->R' f J Z):XS X n0 ss aw T R':=λJ Z hs l w=>
 let ⟨f,aY,ag,e,k,r⟩:=h J Z hs l w;⟨f,aY,ag,e,k,g _ _ _ r⟩
noncomputable def Ht(X:Xc)(n0:Nat)(aw:List XV)(b:Bool)(v:PV)(T:List PV)(f:Fl)(J:aD)(Z:af):Prop:=(b=true->Rt X v T f J Z)/\(b=false->Nx X n0 aw T f J Z)
theorem xZ{X:Xc}{n0:Nat}{aw aZ:List XV}{T:List PV}{ce e:ME}{x y:XV}{t:Bool}{v:PV}{ps qs:List Prop}(h:xE X.o X.B aw ce=some (x,ps))(al:All ps)(ht:xQ x=some t)(h':xE X.o X.B aw e=some (y,qs))(M4:All qs)(hv:HY y=some v)(m:oG aw aZ=aZ):
  XS X n0 (.cons (.ba ce (.cons (.ret e) .nil) .nil) .nil) aw T (Ht X n0 aZ t v T):=
 eS h al ht (λht=>(Rt.ne (d6 h' M4 hv)).imp λO O O r=>⟨r.1,λO=>r.2,λe=>absurd (ht.symm.trans e) Bool.noConfusion⟩)
  λht=>(jB m).imp λO O O r=>⟨λe=>absurd (e.symm.trans ht) Bool.noConfusion,λO=>r⟩
theorem x3{X:Xc}{n0:Nat}{A:Type}{body:bG}{t:jh}{en:Bool}{gT:A->PV}{l:List A}{it:MI}{e:ME}{r:bG}{aw:List XV}{T:List PV}{bx:Nat->A->List XV}{x:XV}{ps:List Prop}{d:Int}(q:Nat->A->Option Int)(m7:jJ X n0 aw it en (l.map gT))(jw:∀k x,l[k]? =some x->Bd X n0 t en k (gT x) aw (bx k x))
  (hb:∀k x,l[k]? =some x->∃b i,q k x=(if b=true then some i else .none)/\XS X n0 body (bx k x) T (Ht X n0 aw b (.int i) T))
  (he:xE X.o X.B aw e=some (x,ps)) (a:All ps) (hd:HY x=some (.int d)):XS X n0 (.cons (.bt t it body) (.cons (.ret e) r)) aw T (Rt X (.int ((je q 0 l).getD d)) T):=by
 refine z9 (λk x=>(q k x).map PV.int) m7 jw (λk x hx=> ?_) (λv hv f J Z h=> ?_) λhv=> ?_
 ·obtain ⟨b,i,e,h⟩:=hb k x hx
  refine h.imp λf J Z h=> ?_
  rw[e]
  cases b with
  |true=>exact h.1 rfl
  |false=>exact h.2 rfl
 ·rw[oO] at hv
  obtain ⟨w,hw,e⟩:=Option.map_eq_some_iff.mp hv
  rw[hw];rw[<-e] at h;exact h
 ·rw[oO,Option.map_eq_none_iff] at hv
  rw[hv]
  exact d6 he a hd
theorem mf(fi:iG c.B)(t:Int):0<=cnt c.B t/\cnt c.B t<=60000:=⟨Int.natCast_nonneg _,Int.ofNat_le.mpr (fi.len t)⟩
theorem x4{m n x:Int}{k:Nat}(h:(cL m (n-m).toNat)[k]? =some x):m<=x/\x<n:=by
 have h:=(uD _ _ _).mp (List.mem_of_getElem? h)
 omega
theorem mh{X:Xc}{n0:Nat}{aw:List XV}{a b:ME}{t m:Int}(fi:iG X.B)(h:xE X.o X.B aw a=some (.v (.int m),[]))(h':xE X.o X.B aw b=some (.v (.int (cnt X.B t+1)),[]))(hm:0<=m/\m<=2):jJ X n0 aw (.dA a b) false ((cL m (cnt X.B t+1-m).toNat).map .int):=
 src_range h a_ h' a_ (by have:=mf (c:=X.toWc) fi t;omega)
theorem Nb(B:Tb)(t:Int)(p:Nat)(o k:Int):eQ B t p o k=(je (xA B t p o k) 0 (cL 1 (cnt B t+1-1).toNat)).getD 0:=by rw[eQ,Int.add_sub_cancel]
variable(h:WW c)
include h
theorem Aj(sh:Shape c.B)(n:Nat):∀xs,Sd ((Gv c.B).2 xs) (dz c (ax aj ae (n+4)) 19 xs):=iM (b8 λt=>b8 λP=>b8 λo=>b8 λk=>d9 (Sd.of λhP=>by
 refine gm (X:=iT c h.ok (n+3) [i8 c.B,jC c.B] ⟨j2 h sh.toiG (n+2),oN h sh n,a_⟩) rfl rfl rfl rfl λn0 T=> ?_
 rw[Nb]
 refine x3 (x:=.v (.int 0)) (ps:=[]) (bx:=λO x=>[.ts,.v (.int t),.v (.int P),.v (.int o),.v (.int k),.v (.int x),.any,.any]) (xA c.B t P.toNat o k) (mh sh.toiG rfl rfl (by decide)) (λO O O=>d7 (x:=.v (.int _)) rfl λO=>rfl) (λj x hx=>⟨_,x,rfl,?_⟩) rfl a_ rfl
 have hr:=x4 hx
 exact bu (ps:=[(0<=P/\P<(bB t).length)/\1<=x/\x<=cnt c.B t]) (aZ:=[.ts,.v (.int t),.v (.int P),.v (.int o),.v (.int k),.v (.int x),.v (.int (fQ c.B t P.toNat x)),.v (.int (gH c.B t P.toNat o x))]) rfl ⟨hP,hr.1,Int.le_of_lt_add_one hr.2⟩
  (xZ (x:=.v (.bool (decide (k>=fQ c.B t P.toNat x)&&decide (k<gH c.B t P.toNat o x)))) (y:=.v (.int x)) (ps:=[]) (qs:=[]) rfl a_ rfl rfl a_ rfl rfl)))
end
section
variable{Z:af}
noncomputable def x5(c k:Int):Except Ex PV:=match dm c k with
 |some p=>.ok (.ah [.int p.1,.int p.2])
 |.none=>.error .iy
theorem bitAnd_nn(x y:Int)(h:0<=y):0<=Builtin.bitAnd x y:=by
 unfold Builtin.bitAnd
 simp only [h,decide_true]
 split
 ·exact Int.natCast_nonneg _
 ·rename_i h1 h2;cases h2
 ·have:=Nat.and_le_left (n:=y.toNat) (m:=(Builtin.bitNot x).toNat);omega
 ·rename_i h1 h2;cases h2
theorem Gy{c:Int}(hc:0<=c/\c<=6):index zJ (.int c) Z=some (.ah [.int (coded c).1,.ah ((coded c).2.map .int)])/\(0<=(coded c).1/\(coded c).1<=3)/\(coded c).2.length<=5:=by
 have h:c=0\/c=1\/c=2\/c=3\/c=4\/c=5\/c=6:=by omega
 rcases h with h | h | h | h | h | h | h<;>subst h<;>exact⟨rfl,by decide,by decide⟩
theorem Ak(n:Nat){c:Int}(hc:0<=c/\c<=6)(k:Int):ax aj ae (n+1) 2 [.int c,.int k] Z=some (x5 c k,Z):=by
 obtain ⟨g,hb,hl⟩:=Gy (Z:=Z) hc
 rw[x5,dm]
 generalize coded c=co at g hb hl⊢
 obtain ⟨b,l⟩:=co
 dsimp only at g hb hl⊢
 have hp:(0:Int)<2 ^ b.toNat:=Int.pow_pos (by decide)
 have P0:=bitAnd_nn k (2 ^ b.toNat-1) (by omega)
 have RK:gQ .shl 1 b=some (2 ^ b.toNat):=by
  show aJ (small 1) (aJ (decide (0<=b)) (aJ (decide (b<=64)) (some (1*2 ^ b.toNat))))=_
  rw[decide_eq_true hb.1,decide_eq_true (Int.le_trans hb.2 (by decide)),Int.one_mul];rfl
 have RL:gQ .shr k b=some (k.fdiv (2 ^ b.toNat)):=by
  show aJ (decide (0<=b)) (aJ (decide (b<=64)) (some (k.fdiv (2 ^ b.toNat))))=_
  rw[decide_eq_true hb.1,decide_eq_true (Int.le_trans hb.2 (by decide))];rfl
 have ix:∀{j:Int},0<=j->j<l.length->index (.ah (l.map .int)) (.int j) Z=some (.int (cl l j.toNat)):=λh0 h1=>iI (r:=l) ⟨h0,h1,by omega⟩
 have hf:aS (l.map PV.int)=true:=cx (by omega)
 generalize hA:Builtin.bitAnd k (2 ^ b.toNat-1)=A at P0⊢
 have pre:∀{R},au (ax aj ae n) ae (.cons (.ba (.or (.cons (.cmp .ge (.aa 3) (.aO .len (.aq (.aa 2) (.k (.int 1))))) (.cons (.cmp .lt (.aq (.aq (.aa 2) (.k (.int 1))) (.aa 3)) (.k (.int 0))) .nil))) (.cons (.fq (.cons (.k (.str [116,97,103])) (.cons (.aa 1) .nil))) .nil) .nil)
   (.cons (.ret (.ah (.cons (.aq (.aq (.aa 2) (.k (.int 1))) (.aa 3)) (.cons (.bin .shr (.aa 1) (.aq (.aa 2) (.k (.int 0)))) .nil)))) .nil)) [some (.int c),some (.int k),some (.ah [.int b,.ah (l.map .int)]),some (.int A)] Z=R->au (ax aj ae n) ae nD.body [some (.int c),some (.int k),none,none] Z=R:=λh=>
  sJ (v:=.ah [.int b,.ah (l.map .int)]) (bR rfl rfl g) (sJ (v:=.int A) (df (x:=k) (y:=2 ^ b.toNat-1) (z:=A) rfl (df (x:=2 ^ b.toNat) (y:=1) (df (x:=1) (y:=b) rfl (bR (x:=.ah [.int b,.ah (l.map .int)]) (y:=.int 0) rfl rfl rfl) RK) rfl rfl) (congrArg some hA)) h)
 have t1:ai (ax aj ae n) ae (.cmp .ge (.aa 3) (.aO .len (.aq (.aa 2) (.k (.int 1))))) [some (.int c),some (.int k),some (.ah [.int b,.ah (l.map .int)]),some (.int A)] Z=some (.ok (.bool (decide (A>=(l.length:Int)))),Z):=
  d8 (x:=.int A) (y:=.int l.length) rfl (aM (bR (x:=.ah [.int b,.ah (l.map .int)]) (y:=.int 1) rfl rfl rfl) ((congrArg (λq=>FR.lift (aJ q (some (PV.int (l.map PV.int).length,Z)))) hf).trans (by rw[List.length_map];rfl))) rfl
 by_cases dv:A<l.length
 ·have hn:A.toNat<l.length:=by omega
  have i2:=bR (cf:=ax aj ae n) (J:=[some (.int c),some (.int k),some (.ah [.int b,.ah (l.map .int)]),some (.int A)]) (a:=.aq (.aa 2) (.k (.int 1))) (i:=.aa 3) (bR (x:=.ah [.int b,.ah (l.map .int)]) (y:=.int 1) rfl rfl rfl) rfl (ix P0 dv)
  have e1:=oK t1 λO=>d8 (o:=.lt) (b:=.k (.int 0)) (y:=.int 0) (r:=decide (cl l A.toNat<0)) i2 rfl rfl
  rw[decide_eq_false (show ¬A>=(l.length:Int) by omega),Bool.false_or] at e1
  rw[List.getElem?_eq_getElem hn]
  have DS:l[A.toNat]=cl l A.toNat:=by rw[cl,List.getD_eq_getElem?_getD,List.getElem?_eq_getElem hn];rfl
  dsimp only
  rw[DS]
  by_cases h0:cl l A.toNat<0
  ·rw[if_pos h0]
   rw[decide_eq_true h0] at e1
   exact oM rfl rfl (pre (ic e1 rfl))
  ·rw[if_neg h0]
   rw[decide_eq_false h0] at e1
   have e2:ai (ax aj ae n) ae (.ah (.cons (.aq (.aq (.aa 2) (.k (.int 1))) (.aa 3)) (.cons (.bin .shr (.aa 1) (.aq (.aa 2) (.k (.int 0)))) .nil))) [some (.int c),some (.int k),some (.ah [.int b,.ah (l.map .int)]),some (.int A)] Z=some (.ok (.ah [.int (cl l A.toNat),.int (k.fdiv (2 ^ b.toNat))]),Z):=
    aM (v:=[.int (cl l A.toNat),.int (k.fdiv (2 ^ b.toNat))]) (aM i2 (aM (v:=[.int (k.fdiv (2 ^ b.toNat))]) (aM (df (x:=k) (y:=b) rfl (bR (x:=.ah [.int b,.ah (l.map .int)]) (y:=.int 0) rfl rfl rfl) RL) rfl) rfl)) rfl
   exact bN rfl rfl (pre (ic e1 (y_ret e2)))
 ·have e1:=oK (b:=.cmp .lt (.aq (.aq (.aa 2) (.k (.int 1))) (.aa 3)) (.k (.int 0))) (y:=true) (bk:=Z) t1 λe=>absurd (of_decide_eq_false e) (λh=>h (by omega))
  rw[decide_eq_true (show A>=(l.length:Int) by omega)] at e1
  rw[List.getElem?_eq_none (by omega)]
  exact oM rfl rfl (pre (ic e1 rfl))
end
section
variable{c:Wc}
theorem Er(n:Nat):∀xs,Sd ((Em c.B).2 xs) (dz c (ax aj ae (n+1)) 2 xs):=b8 λs=>b8 λk=>d9 (Sd.of λhk vs T Z hv w=>by
 match vs,hv with
 |[_,_],hv=>
  obtain ⟨rfl,rfl,_⟩:=hv
  obtain ⟨hc,p,hp⟩:=hk
  exact⟨_,Z,(Ak n hc k).trans (by rw[x5,hp]),w,.refl _ _,by rw[bW,hp];rfl⟩)
theorem x6(v:PV)(n:Nat):∀xs,Sd ((m9 v).2 xs) (dz c (ax aj ae (n+2)) 13 xs):=b8 λs=>b8 λk=>d9 (Sd.of λhk vs T Z hv w=>by
 match vs,hv with
 |[_,_],hv=>
  obtain ⟨rfl,rfl,_⟩:=hv
  obtain ⟨hc,rfl⟩:=hk
  have e:=Ak (Z:=Z) n (c:=s-512) (by omega) k
  have e0:ai (ax aj ae (n+1)) ae (.aC 2 (.cons (.bin .sub (.aa 0) (.gl 13)) (.cons (.aa 1) .nil))) [some (.int s),some (.int k)] Z=some (x5 (s-512) k,Z):=e
  refine⟨iN s k,Z,?_,w,.refl _ _,rfl⟩
  rw[x5] at e0
  rw[iN]
  cases hs:dm (s-512) k with
  |none=>
   rw[hs] at e0
   have e1:br (ax aj ae (n+1)) ae (.lr (.cons (.ret (.aC 2 (.cons (.bin .sub (.aa 0) (.gl 13)) (.cons (.aa 1) .nil)))) .nil) .none) [some (.int s),some (.int k)] Z=some (.ok (.ret .none,[some (.int s),some (.int k)]),Z):=by
    show jj (ay (ay (ai _ _ _ _ _) _) _) _ _=_
    rw[e0];rfl
   exact bN rfl rfl (aM e1 rfl)
  |some p=>
   rw[hs] at e0
   have e1:br (ax aj ae (n+1)) ae (.lr (.cons (.ret (.aC 2 (.cons (.bin .sub (.aa 0) (.gl 13)) (.cons (.aa 1) .nil)))) .nil) .none) [some (.int s),some (.int k)] Z=some (.ok (.ret (.ah [.int p.1,.int p.2]),[some (.int s),some (.int k)]),Z):=by
    show jj (ay (ay (ai _ _ _ _ _) _) _) _ _=_
    rw[e0];rfl
   exact bN rfl rfl (aM e1 rfl))
theorem sL{s k:Int}{p:Int×Int}(e:dm (s-512) k=some p):iN s k=.ah [.int p.1,.int p.2]:=by rw[iN,e]
theorem sM{s k:Int}(e:dm (s-512) k=.none):iN s k=.none:=by rw[iN,e]
theorem rp{A:Type}(f:A->Bool):∀(l:List A)(k:Nat),iK (λO r=>if f r=true then some (PV.bool true) else .none) k l=if l.any f=true then some (PV.bool true) else .none
 |[],_=>rfl
 |r::l,k=>by
  show (match (if f r=true then some (PV.bool true) else none) with | some v=>some v | .none=>iK (λO r=>if f r=true then some (PV.bool true) else .none) (k+1) l)=if (f r||l.any f)=true then some (PV.bool true) else none
  cases f r with
  |true=>rfl
  |false=>exact rp f l (k+1)
variable(h:WW c)
include h
theorem Gz(fi:iG c.B)(n:Nat):∀xs,Sd ((eName c.B).2 xs) (dz c (ax aj ae (n+3)) 16 xs):=iM (b8 λs=>b8 λk=>Cg λv=>by
 cases v with
 |bool nn=>
  refine d9 (r:=some (.v (.bool (dq c.B s k nn)),[s<=518])) (Sd.of λhs=> ?_)
  have bT:=λv=>show Ah c (ax aj ae (n+2)) [i8 c.B,m9 v] from ⟨j2 h fi (n+1),x6 v n,a_⟩
  refine gm (X:=iT c h.ok (n+2) [i8 c.B,m9 .none] (bT _)) rfl rfl rfl rfl λn0 T=> ?_
  rw[dq]
  refine eS (x:=.v (.bool (decide (s<512)))) (ps:=[]) (t:=decide (s<512)) rfl a_ rfl (λe=> ?_) λe=> ?_
  ·rw[if_pos (bV e)]
   exact Rt.ne (d6 (x:=.v (.bool (decide (k>=1)&&decide (k<=cnt c.B (s-256))))) (ps:=[]) rfl a_ rfl)
  ·have e:=of_decide_eq_false e
   rw[if_neg e]
   cases hp:dm (s-512) k with
   |none=>exact bu (aZ:=[.ts,.v (.int s),.v (.int k),.v (.bool nn),.v .none]) (ps:=[(512<=s/\s<=518)/\iN s k=.none]) rfl ⟨⟨by omega,hs⟩,sM hp⟩ (eS (x:=.v (.bool true)) (ps:=[]) (t:=true) rfl a_ rfl (λO=>Rt.ne (d6 (x:=.v (.bool true)) (ps:=[]) rfl a_ rfl)) Bool.noConfusion)
   |some p=>
    dsimp only
    refine(show XS (iT c h.ok (n+2) [i8 c.B,m9 (.ah [.int p.1,.int p.2])] (bT _)) n0 _ _ T _ from ?_ :)
    refine bu (aZ:=[.ts,.v (.int s),.v (.int k),.v (.bool nn),.v (.ah [.int p.1,.int p.2])]) (ps:=[(512<=s/\s<=518)/\iN s k=.ah [.int p.1,.int p.2]]) rfl ⟨⟨by omega,hs⟩,sL hp⟩
     (eS (x:=.v (.bool false)) (ps:=[]) (t:=false) rfl a_ rfl (Bool.noConfusion) λO=>
      eS (x:=.v (.bool (decide (p.2=0)))) (ps:=[]) (t:=decide (p.2=0)) rfl a_ rfl (λe=> ?_) λe=> ?_)
    ·rw[if_pos (bV e)];exact Rt.ne (d6 (x:=.v (.bool nn)) (ps:=[]) rfl a_ rfl)
    ·rw[if_neg (of_decide_eq_false e)];exact d6 (x:=.v (.bool (decide (p.2>=1)&&decide (p.2<=cnt c.B p.1)))) (ps:=[]) rfl a_ rfl
 |_=>exact λO=>Sd.none)
theorem GA(n:Nat):∀xs,Sd (eList.2 xs) (dz c (ax aj ae (n+1)) 14 xs):=b8 λt=>b8 λP=>d9 (Sd.av (gm (X:=iT c h.ok n [] a_) rfl rfl rfl rfl λn0 T=>by
 refine z9 (l:=lists) (gT:=pr) (bx:=λO r=>[.v (.int t),.v (.int P),.r 3 r]) (λO r=>if (decide (cl r 0=t)&&decide (cl r 1=P))=true then some (.bool true) else .none) (eC (x:=.v (.ah (lists.map pr))) (ps:=[]) rfl a_ rfl) (λk r hr=>d7 (x:=.r 3 r) rfl λZ=>⟨rfl,?_,by decide⟩) (λk r hr=> ?_) (λv hv f J Z hr=> ?_) λhv=> ?_
 ·have:∀r∈lists,r.length=3:=by decide
  exact this r (List.mem_of_getElem? hr)
 ·refine(xZ (x:=.v (.bool (decide (cl r 0=t)&&decide (cl r 1=P)))) (y:=.v (.bool true)) (aZ:=[.v (.int t),.v (.int P),.any]) (ps:=[]) (qs:=[]) rfl a_ rfl rfl a_ rfl rfl).imp λf J Z q=> ?_
  cases hb:(decide (cl r 0=t)&&decide (cl r 1=P)) with
  |true=>exact q.1 hb
  |false=>exact q.2 hb
 ·rw[rp λr:Row=>decide (cl r 0=t)&&decide (cl r 1=P)] at hv
  split at hv
  ·rename_i q;cases hv;rw[fj,q];exact hr
  ·cases hv
 ·rw[rp λr:Row=>decide (cl r 0=t)&&decide (cl r 1=P)] at hv
  split at hv
  ·cases hv
  ·rename_i q;rw[fj,Bool.eq_false_iff.mpr q];exact d6 (x:=.v (.bool false)) (ps:=[]) rfl a_ rfl))
end
section
variable{X:Xc}{n0:Nat}{aw:List XV}{T:List PV}{R:Fl->aD->af->Prop}
theorem sN{i:Nat}{e:ME}{r:bG}{x:XV}(hd:gI x=false)(h:XGo X.toWc n0 aw (ai X.cf ae e) x)(k:XS X n0 r (dN aw i x) T R):XS X n0 (.cons (.aK i e) r) aw T R:=
 oI (λJ Z O l w=>let ⟨v,ag,e,w',k',p⟩:=h J T Z l w;⟨.next,_,ag,aM e rfl,k'.ks,.inl ⟨rfl,(l.mono k').ri i hd p,w'⟩⟩) k
theorem LX.at{c:Wc}{Z:af}{J:aD}(l:LX c n0 Z aw J)(i:Nat){v:PV}(e:bQ aw i=.v v):bD J i=some v:=by
 obtain ⟨u,eu,hu⟩:=l.val i (by rw[e];rfl)
 rw[e] at hu
 cases hu
 exact eu
theorem Vw{ss:bG}{V4:aD}(h:∀J Z,LX X.toWc n0 Z aw J->WS X.toWc T Z->∃f aY ag,au X.cf ae ss J Z=some (.ok (f,aY),ag)/\KE X.it Z ag/\R f aY ag):XS X n0 ss aw T R:=λJ Z O l w=>
 let ⟨f,aY,ag,e,k,r⟩:=h J Z l w;⟨f,aY,ag,e,k.ks,r⟩
end
section
variable{cf:Nat->List PV->af->aF PV}{J:aD}{Z ak bk:af}
theorem Nc{e a b:ME}{t:Bool}{v:PV}(h:ai cf ae e J Z=some (.ok (.bool t),ak))(k:ai cf ae (bif t then a else b) J ak=some (.ok v,bk)):ai cf ae (.ite e a b) J Z=some (.ok v,bk):=
by
 show ay (ai cf ae e J Z) (λu Z=>pick (truth Z u) (ai cf ae a J Z) (ai cf ae b J Z))=_
 rw[h]
 cases t<;>exact k
theorem eD{i:Nat}{v:PV}(h:bD J i=some v):ai cf ae (.aa i) J Z=some (.ok v,Z):=by show FR.read Z (bD J i)=_;rw[h];rfl
theorem Eu{a:ME}{r:aF PV}(h:ai cf ae a J Z=r):ai cf ae (.or (.cons a .nil)) J Z=r:=h
theorem x7{a b:ME}{r:bZ}{x y:Bool}(ha:ai cf ae a J Z=some (.ok (.bool x),Z))(hb:ai cf ae (.or (.cons b r)) J Z=some (.ok (.bool y),Z)):ai cf ae (.or (.cons a (.cons b r))) J Z=some (.ok (.bool (x||y)),Z):=by
 show ay (ai cf ae a J Z) (λv Z=>pick (truth Z v) (av v Z) (ai cf ae (.or (.cons b r)) J Z))=_
 rw[ha]
 show pick (some x) _ _=_
 cases x with
 |true=>rfl
 |false=>exact hb
end
section
variable{c:Wc}
theorem Ew(t:List Nat)(l:List (List Nat)):isIn (.str t) (l.map .str)=some (tM t l):=by
 induction l with
 |nil=>rfl
 |cons y r ih=>
  show ((eqv 6 (.str y) (.str t)).bind λb=>(isIn (.str t) (r.map .str)).bind λc=>some (b||c))=_
  rw[ih];rfl
theorem uL{Z:af}{x:PV}{l:List PV}{b:Bool}(h:isIn x l=some b):kO .fK x (.ah l) Z=some !b:=by
 show ((isIn x l).bind λr=>some (!r))=_
 rw[h];rfl
theorem uM{X:Type}{p:Nat->X->Option Int}{Q:Int->Prop}:∀(l:List X)(k:Nat)(v:Int),(∀k x v,x∈l->p k x=some v->Q v)->je p k l=some v->Q v
 |x::l,k,v,h,e=>by
  rw[je] at e
  cases hp:p k x with
  |some w=>rw[hp] at e;cases e;exact h k x _ cR hp
  |none=>rw[hp] at e;exact uM l (k+1) v (λk x v hx=>h k x v (List.mem_cons_of_mem _ hx)) e
theorem GB{B:Tb}(t:Int)(p:Nat)(o k:Int)(h:¬eQ B t p o k=0):1<=eQ B t p o k/\eQ B t p o k<=cnt B t:=by
 rw[eQ] at h⊢
 cases e:je (xA B t p o k) 0 (cL 1 (cnt B t).toNat) with
 |none=>rw[e] at h;exact absurd rfl h
 |some v=>
  refine uM (Q:=λv=>1<=v/\v<=cnt B t) _ _ _ (λj x v hx hv=> ?_) e
  rw[xA] at hv
  split at hv
  ·cases hv;rw[uD] at hx;omega
  ·cases hv
theorem JR(n:Nat){k:Int}(hk:1<=k/\k<=60000):dz c (ax aj ae (n+2)) 1 [.v (.int 3),.v (.int 20),.v (.int k)] (.v (.int (iH k))):=λvs T Z hv w=>by
 match vs,hv with
 |[_,_,_],hv=>
  obtain ⟨rfl,rfl,rfl,_⟩:=hv
  have e0:ax aj ae (n+1) 0 [.int k] Z=some (.ok .none,Z):=by
   have e1:=oK (cf:=ax aj ae n) (J:=[some (.int k)]) (Z:=Z) (a:=.cmp .lt (.aa 0) (.k (.int 0))) (b:=.cmp .ge (.aa 0) (.gl 0)) (x:=decide (k<0)) (y:=decide (k>=16777216)) rfl λO=>rfl
   rw[decide_eq_false (show ¬k<0 by omega),decide_eq_false (show ¬k>=16777216 by omega)] at e1
   have e2:au (ax aj ae n) ae rI.body [some (.int k)] Z=some (.ok (.next,[some (.int k)]),Z):=ic e1 rfl
   exact m8 rfl rfl e2
  have hs:gQ .shl k 1=some (k*2):=by
   show aJ (small k) (aJ (decide ((0:Int)<=1)) (aJ (decide ((1:Int)<=64)) (some (k*2 ^ (1:Int).toNat))))=_
   rw[dM (by omega) (by omega)];rfl
  have e1:ai (ax aj ae (n+1)) ae (.bin .bor (.bin .shl (.aa 2) (.aq (.aa 3) (.k (.int 0)))) (.aa 4)) [some (.int 3),some (.int 20),some (.int k),some (.ah [.int 1,.ah [.int 20,.int 23]]),some (.int 0),some (.int 20)] Z=some (.ok (.int (iH k)),Z):=
   df (x:=k*2) (y:=0) (df (x:=k) (y:=1) rfl (bR (x:=.ah [.int 1,.ah [.int 20,.int 23]]) (y:=.int 0) rfl rfl rfl) hs) rfl rfl
  have e2:br (ax aj ae (n+1)) ae (.bt (.many [4,5]) (.enum (.aq (.aa 3) (.k (.int 1)))) (.cons (.ba (.and (.cons (.cmp .eq (.aa 5) (.aa 1)) (.cons (.cmp .ge (.aa 1) (.k (.int 0))) .nil))) (.cons (.ret (.bin .bor (.bin .shl (.aa 2) (.aq (.aa 3) (.k (.int 0)))) (.aa 4))) .nil) .nil) .nil))
    [some (.int 3),some (.int 20),some (.int k),some (.ah [.int 1,.ah [.int 20,.int 23]]),none,none] Z=some (.ok (.ret (.int (iH k)),[some (.int 3),some (.int 20),some (.int k),some (.ah [.int 1,.ah [.int 20,.int 23]]),some (.int 0),some (.int 20)]),Z):=
   (jX (s:=.ah [.int 20,.int 23]) (en:=true) rfl).trans (mI (du:=[some (.int 3),some (.int 20),some (.int k),some (.ah [.int 1,.ah [.int 20,.int 23]]),some (.int 0),some (.int 20)]) rfl rfl (Fd rfl (y_ret e1)))
  exact⟨_,Z,bN rfl rfl (aM (aM e0 rfl) (sJ (v:=.ah [.int 1,.ah [.int 20,.int 23]]) rfl (aM e2 rfl))),w,.refl _ _,rfl⟩
variable(h:WW c)
include h
theorem Ey(sh:Shape c.B)(n:Nat):∀xs,Sd ((Eo c.B).2 xs) (dz c (ax aj ae (n+5)) 34 xs):=iM (b8 λt=>b8 λk=>d9 (Sd.av (gm (X:=iT c h.ok (n+4) [Gv c.B,lh c.B] ⟨Aj h sh n,rn h sh (n+2),a_⟩) rfl rfl rfl rfl λn0 T=>by
 have hm:(bB (cB t)).length=2:=by rw[cB];split<;>rfl
 refine sN (x:=.v (.int (cB t))) rfl (λJ T Z l w=> ?_) ?_
 ·have e:ai (ax aj ae (n+4)) ae (.ite (.cmp .eq (.aa 1) (.gl 18)) (.gl 12) (.gl 11)) J Z=some (.ok (.int (cB t)),Z):=by
   refine Nc (d8 (r:=decide (t=20)) (eD (l.at 1 rfl)) (y:=.int 20) rfl rfl) ?_
   rw[cB]
   by_cases ht:t=20
   ·rw[if_pos ht,decide_eq_true ht];rfl
   ·rw[if_neg ht,decide_eq_false ht];rfl
  exact⟨_,Z,e,w,.refl _ _,rfl⟩
 ·rw[xG]
  refine bu (aZ:=[.ts,.v (.int t),.v (.int k),.v (.int (cB t)),.v (.int (eQ c.B (cB t) 1 t k))]) (ps:=[(0:Int)<=1/\(1:Int)<(bB (cB t)).length]) rfl ⟨by decide,by rw[hm];decide⟩ ?_
  refine eS (x:=.v (.bool (decide (eQ c.B (cB t) 1 t k=0)))) (ps:=[]) (t:=decide (eQ c.B (cB t) 1 t k=0)) rfl a_ rfl (λe=> ?_) λe=> ?_
  ·rw[if_pos (bV e)];exact Rt.ne (d6 (x:=.v (.int (-1))) (ps:=[]) rfl a_ rfl)
  ·have e:=of_decide_eq_false e
   rw[if_neg e]
   have hr:=GB (B:=c.B) (cB t) 1 t k e
   have hw:(bz c.B (cB t) (eQ c.B (cB t) 1 t k)).length=2:=by rw[sh.nI _ _ (ie hr.1 hr.2),hm]
   exact d6 (x:=.v (.int (cl (bz c.B (cB t) (eQ c.B (cB t) 1 t k)) 0))) (ps:=[1<=eQ c.B (cB t) 1 t k/\eQ c.B (cB t) 1 t k<=cnt c.B (cB t),0<=(0:Int)/\(0:Int)<(bz c.B (cB t) (eQ c.B (cB t) 1 t k)).length/\(bz c.B (cB t) (eQ c.B (cB t) 1 t k)).length<=65536]) rfl ⟨hr,by rw[hw];exact⟨by decide,by decide,by decide⟩⟩ rfl)))
theorem JS(fi:iG c.B){T:List PV}{Z:af}(w:WS c T Z)(n:Nat)(t:Int)(nm:List Nat)(s k:Int):
  ax aj ae (n+2) 9 [.inst 0 c.jx,.inst 0 c.jb,.int t,.ah [.str nm,.int s],.int k] Z=some (.ok (.bool (jy c.B t nm s k)),Z):=by
 obtain ⟨ix,gx,_⟩:=h.txt
 obtain ⟨ib,gb,_⟩:=h.gG
 have ex:ai (ax aj ae (n+1)) ae (.aU (.aa 0) 3 (.cons (.aa 4) .nil)) [some (.inst 0 c.jx),some (.inst 0 c.jb),some (.int t),some (.ah [.str nm,.int s]),some (.int k),none] Z=some (oh .str (c6 c.B.txt k),Z):=
  (iv (x:=.inst 0 c.jx) (vs:=[.int k]) rfl (jT (h.get w gx)) rfl).trans (M7 h fi n k w)
 have eb:ai (ax aj ae (n+1)) ae (.aU (.aa 1) 3 (.cons (.aa 4) .nil)) [some (.inst 0 c.jx),some (.inst 0 c.jb),some (.int t),some (.ah [.str nm,.int s]),some (.int k),none] Z=some (oh .bytes (c6 c.B.gG k),Z):=
  (iv (x:=.inst 0 c.jb) (vs:=[.int k]) rfl (jT (h.get w gb)) rfl).trans (M8 h n k w)
 have c4:ai (ax aj ae (n+1)) ae (.cmp .eq (.aq (.aa 3) (.k (.int 1))) (.gl 3)) [some (.inst 0 c.jx),some (.inst 0 c.jb),some (.int t),some (.ah [.str nm,.int s]),some (.int k),none] Z=some (.ok (.bool (decide (s=4))),Z):=
  d8 (x:=.int s) (y:=.int 4) (bR (x:=.ah [.str nm,.int s]) (y:=.int 1) rfl rfl rfl) rfl rfl
 have c5:ai (ax aj ae (n+1)) ae (.cmp .eq (.aq (.aa 3) (.k (.int 1))) (.gl 4)) [some (.inst 0 c.jx),some (.inst 0 c.jb),some (.int t),some (.ah [.str nm,.int s]),some (.int k),none] Z=some (.ok (.bool (decide (s=5))),Z):=
  d8 (x:=.int s) (y:=.int 5) (bR (x:=.ah [.str nm,.int s]) (y:=.int 1) rfl rfl rfl) rfl rfl
 have tr:∀{b:bG}{r:aF (Fl×aD)}{v:PV}{J:aD},au (ax aj ae (n+1)) ae b [some (.inst 0 c.jx),some (.inst 0 c.jb),some (.int t),some (.ah [.str nm,.int s]),some (.int k),none] Z=r->
   (ay (jj r (.bool false) [some (.inst 0 c.jx),some (.inst 0 c.jb),some (.int t),some (.ah [.str nm,.int s]),some (.int k),none]) λf Z=>match f.1 with | .next=>au (ax aj ae (n+1)) ae (.cons (.ret (.k (.bool true))) .nil) f.2 Z | _=>av f Z)=some (.ok (.ret v,J),Z)->
   au (ax aj ae (n+1)) ae (.cons (.lr b (.bool false)) (.cons (.ret (.k (.bool true))) .nil)) [some (.inst 0 c.jx),some (.inst 0 c.jb),some (.int t),some (.ah [.str nm,.int s]),some (.int k),none] Z=some (.ok (.ret v,J),Z):=λ{b}{O}{O}{O} h1 h2=>by
  show ay (jj (au (ax aj ae (n+1)) ae b _ Z) (.bool false) _) (λf Z=>match f.1 with | .next=>au (ax aj ae (n+1)) ae (.cons (.ret (.k (.bool true))) .nil) f.2 Z | _=>av f Z)=_
  rw[h1];exact h2
 rw[jy]
 by_cases h4:s=4
 ·rw[if_pos h4]
  rw[decide_eq_true h4] at c4
  cases hs:c6 c.B.txt k with
  |none=>rw[hs] at ex;exact bN rfl rfl (tr (ic c4 (congrArg (λm=>ay m _) (wk (tw ex)))) rfl)
  |some u=>rw[hs] at ex;exact bN rfl rfl (tr (ic c4 (congrArg (λm=>ay m _) (iX (j8 ex)))) rfl)
 ·rw[if_neg h4]
  rw[decide_eq_false h4] at c4
  by_cases h5:s=5
  ·rw[if_pos h5]
   rw[decide_eq_true h5] at c5
   cases hs:c6 c.B.gG k with
   |none=>
    rw[hs] at eb
    exact bN rfl rfl (tr (ic c4 (congrArg (λm=>ay m _) (ic c5 (congrArg (λm=>ay m _) (wk (tw (tw eb))))))) rfl)
   |some u=>
    rw[hs] at eb
    have hf:aS u=true:=decide_eq_true (bJ (fi.gG u (Af hs)) (by decide))
    have el:ai (ax aj ae (n+1)) ae (.aO .len (.aU (.aa 1) 3 (.cons (.aa 4) .nil))) [some (.inst 0 c.jx),some (.inst 0 c.jb),some (.int t),some (.ah [.str nm,.int s]),some (.int k),none] Z=some (.ok (.int u.length),Z):=aM eb (congrArg (λq=>FR.lift (aJ q (some (PV.int u.length,Z)))) hf)
    have eo:ai (ax aj ae (n+1)) ae (.or (.cons (.cmp .gt (.aa 5) (.k (.int 0))) (.cons (.cmp .fK (.aa 2) (.gl 6)) (.cons (.cmp .fK (.aq (.aa 3) (.k (.int 0))) (.gl 5)) .nil)))) [some (.inst 0 c.jx),some (.inst 0 c.jb),some (.int t),some (.ah [.str nm,.int s]),some (.int k),some (.int u.length)] Z=some (.ok (.bool (decide ((u.length:Int)>0)||(!qX t B1|| !tM nm B2))),Z):=
     x7 (d8 (x:=.int u.length) (y:=.int 0) rfl rfl rfl) (x7 (d8 (x:=.int t) (y:=.ah (B1.map .int)) rfl rfl (uL (uF t B1))) (Eu (d8 (x:=.str nm) (y:=.ah (B2.map .str)) (bR (x:=.ah [.str nm,.int s]) (y:=.int 0) rfl rfl rfl) rfl (uL (Ew nm B2)))))
    exact bN rfl rfl (tr (ic c4 (congrArg (λm=>ay m _) (ic c5 (congrArg (λm=>ay m _) (sJ el (y_ret eo)))))) rfl)
  ·rw[if_neg h5]
   rw[decide_eq_false h5] at c5
   exact bN rfl rfl (tr (ic c4 (congrArg (λm=>ay m _) (ic c5 rfl))) rfl)
omit h in
theorem uN{cf:Nat->List PV->af->aF PV}{J:aD}{i:Nat}:∀(m l:List Row)(k n:Nat)(Z:af),ar Z i=some (.list (l.map pr))->(∀r∈l,0<r.length/\r.length<=65536)->l=l.take k++m->k+m.length=l.length->m.length<n->l.length<=65536->
  cu (λx Z=>bp (dk cf ae .no [some x] Z) λc Z=>pick (iz Z c) (bp (ai cf ae (.aq (.aa 0) (.k (.int 0))) [some x] Z) λy Z=>av (some y) Z) (av .none Z)) (.live i) false n k Z=some (.ok (m.map λr=>.int (cl r 0)),Z)
 |_,_,_,0,_,_,_,_,_,hn,_=>absurd hn (Nat.not_lt_zero _)
 |[],l,k,n+1,Z,g,_,_,hk,_,_=>by
  have hk:k=l.length:=hk
  exact jr ((gz g).trans (by rw[nth_get?,List.getElem?_map,List.getElem?_eq_none (Nat.le_of_eq hk.symm)];rfl))
 |x::m,l,k,n+1,Z,g,hr,hl,hk,hn,hf=>by
  have uI:k<l.length:=by rw[<-hk,List.length_cons];omega
  have hx:l[k]? =some x:=by
   rw[hl,List.getElem?_append_right (by rw[List.length_take];omega),List.length_take,Nat.min_eq_left (Nat.le_of_lt uI),Nat.sub_self];rfl
  have hw:=hr x (List.mem_of_getElem? hx)
  have ih:=uN (cf:=cf) (J:=J) m l (k+1) n Z g hr (by
    have h:=List.take_append_drop (k+1) l
    rw[List.take_add_one,hx] at h
    have h2:=hl.symm.trans h.symm
    rw[List.append_assoc] at h2
    have h3:=(List.cons.inj (List.append_cancel_left h2)).2
    rw[h3]
    exact(List.take_append_drop (k+1) l).symm) (by rw[<-hk,List.length_cons];omega) (Nat.lt_of_succ_lt_succ hn) hf
  have e:ai cf ae (.aq (.aa 0) (.k (.int 0))) [some (pr x)] Z=some (.ok (.int (cl x 0)),Z):=bR (x:=pr x) (y:=.int 0) rfl rfl (iI ⟨Int.le_refl 0,by omega,hw.2⟩)
  exact nU (x:=pr x) ((gz g).trans (by rw[nth_get?,List.getElem?_map,hx];rfl)) (bJ (Nat.le_of_lt uI) hf) (by
   show bp (ai cf ae (.aq (.aa 0) (.k (.int 0))) [some (pr x)] Z) (λy Z=>av (some y) Z)=_
   rw[e];rfl) ih
noncomputable def H9(B:Tb):Oe:=(25,qm (H7 (aE (some (.v (.int (lg B)),[])))))
theorem GC(so:Sound c.B)(n:Nat):∀xs,Sd ((H9 c.B).2 xs) (dz c (ax aj ae (n+3)) 25 xs):=iM (xW (d9 (Sd.av (by
 let X:=iT c h.ok (n+2) [pG c.B,i8 c.B,Gu c.B,uK c.B] ⟨rk h so.toShape (n+1),j2 h so.toiG (n+1),Ai h so.toShape n,xY h so.toiG n,a_⟩
 refine gm (X:=X) rfl rfl rfl rfl λn0 T=> ?_
 rw[lg]
 refine eS (x:=.v (.bool (decide (cnt c.B 32=0)|| !decide (nm c.B (cl (bz c.B 32 1) 7)=qZ)))) (ps:=[decide (cnt c.B 32=0)=false->(1<=(1:Int)/\(1:Int)<=cnt c.B 32)/\∃s,c6 c.B.txt (cl (bz c.B 32 1) 7)=some s]) (t:=decide (cnt c.B 32=0)|| !decide (nm c.B (cl (bz c.B 32 1) 7)=qZ)) rfl (λe=> ?_) rfl (λe=> ?_) λe=> ?_
 ·have e:=of_decide_eq_false e
  have hc:=mf so.toiG 32
  have h1:(1:Int)<=cnt c.B 32:=by omega
  exact⟨⟨Int.le_refl 1,h1⟩,so.tx 32 _ (ie (Int.le_refl 1) h1) 7 rfl⟩
 ·rw[e];exact Rt.ne (d6 (x:=.v (.int 0)) (ps:=[]) rfl a_ rfl)
 ·rw[e]
  refine sN (x:=.il (inner c.B)) rfl (λJ T Z l w=> ?_) ?_
  ·obtain ⟨v,ak,e1,w1,k1,i,rfl,ni,g,_⟩:=b6 (X.hw) (X.ho) (.aC 5 (.cons (.aa 0) (.cons (.gl 23) .nil))) (.rl 2 (c.B.R 41)) [] rfl a_ J T Z l w
   have Ia:∀r∈c.B.R 41,0<r.length/\r.length<=65536:=λr hr=>by rw[so.nI 41 r hr];exact⟨by decide,by decide⟩
   have hl:=bJ (so.len 41) (show 60000<=65536 by decide)
   have ec:=uN (cf:=X.cf) (J:=J) (c.B.R 41) (c.B.R 41) 0 ((c.B.R 41).length+1) ak g Ia rfl (Nat.zero_add _) (Nat.lt_succ_self _) hl
   refine⟨.ref ak.length,ak++[.list ((c.B.R 41).map λr=>.int (cl r 0))],?_,w1.new _,k1.trans (KE.new _ _ _),ak.length,rfl,Nat.ne_of_gt w1.lt,by rw[bM,inner,List.map_map];rfl⟩
   refine lQ (jq e1 (gk g)) ?_
   rw[fD g,List.length_map]
   exact ec
  ·refine x3 (x:=.v (.int 0)) (ps:=[]) (bx:=λk r=>[.ts,.tx,.il (inner c.B),.v (.int k),.r 6 r]) (HP c.B) (cw (x:=.rl 6 (c.B.R 2)) (ps:=[]) rfl a_ rfl) (λk r hr=>j1 (x:=.r 6 r) rfl λZ=>⟨rfl,so.nI 2 r (List.mem_of_getElem? hr),by decide⟩) (λk r hr=>⟨_,(k:Int)+1,rfl,?_⟩) rfl a_ rfl
   have hr:=List.mem_of_getElem? hr
   exact xZ (x:=.v (.bool ((decide (nm c.B (cl r 2)=[])&&(decide (nm c.B (cl r 1)=xH)&&true))&& !qX (k+1) (inner c.B)))) (y:=.v (.int (k+1))) (ps:=[∃s,c6 c.B.txt (cl r 2)=some s,∃s,c6 c.B.txt (cl r 1)=some s]) (qs:=[]) rfl ⟨so.tx 2 r hr 2 rfl,so.tx 2 r hr 1 rfl⟩ rfl rfl a_ rfl rfl))))
end
noncomputable def Ez:Oe:=(1,aI λa=>aI λb=>aI λk=>aE (some (.v (.int (iH k)),[(a=3/\b=20)/\1<=k/\k<=60000])))
noncomputable def qI:PV->List Nat
 |.ah (.str s::_)=>s
 |_=>[]
noncomputable def Nd:PV->Int
 |.ah (_::.int i::_)=>i
 |_=>0
noncomputable def EA(B:Tb):Oe:=(9,H7 (M9 (aI λt=>aV λv=>aI λk=>aE (some (.v (.bool (jy B t (qI v) (Nd v) k)),[v=ec (qI v,Nd v)])))))
noncomputable def oE(B:Tb):List Oe:=[pG B,i8 B,Gu B,uK B,xX B,PY,H8,Em B,jC B,Gv B,Eo B,eList,eName B,Ez,EA B]
section
variable{c:Wc}(h:WW c)
theorem EB(n:Nat):∀xs,Sd (Ez.2 xs) (dz c (ax aj ae (n+2)) 1 xs):=b8 λa=>b8 λb=>b8 λk=>d9 (Sd.of λhk=>by
 obtain ⟨⟨rfl,rfl⟩,hk⟩:=hk
 exact JR n hk)
include h
theorem EC(fi:iG c.B)(n:Nat):∀xs,Sd ((EA c.B).2 xs) (dz c (ax aj ae (n+2)) 9 xs):=xW (El (b8 λt=>Cg λv=>b8 λk=>d9 (Sd.of λhv vs T Z Eg w=>by
 match vs,Eg with
 |[_,_,_,_,_],Eg=>
  obtain ⟨rfl,rfl,rfl,e,rfl,_⟩:=Eg
  rw[e.trans hv]
  exact⟨_,Z,JS h fi w n t _ _ k,w,.refl _ _,rfl⟩)))
theorem Ib(sh:Shape c.B)(n:Nat):Ah c (ax aj ae (n+5)) (oE c.B):=
 ⟨rk h sh (n+4),j2 h sh.toiG (n+4),Ai h sh (n+3),xY h sh.toiG (n+3),Ep h sh.toiG (n+3),Na h (n+4),Gw h (n+4),Er (n+4),oN h sh (n+2),Aj h sh (n+1),Ey h sh n,GA h (n+4),Gz h sh.toiG (n+2),EB (n+3),EC h sh.toiG (n+3),a_⟩
end
noncomputable def XX{c:Wc}(h:WW c)(sh:Shape c.B)(n:Nat):Xc:=iT c h.ok (n+5) (oE c.B) (Ib h sh n)
section
variable{X:Xc}{n0:Nat}{aw aZ:List XV}{T:List PV}{R:Fl->aD->af->Prop}
theorem XS.sw{X iP:Xc}{n0:Nat}{aw aZ:List XV}{T U:List PV}{ss:bG}(hc:iP.toWc=X.toWc)(hf:iP.cf=X.cf)(k:XS iP n0 ss aw T (Nx iP n0 aZ U)):XS X n0 ss aw T (Nx X n0 aZ U):=by
 unfold XS Nx at k⊢
 rw[hc,hf] at k
 exact k
theorem pH{f:Nat}{es:bZ}{r:bG}{xs:List XV}{ps:List Prop}{M:List PV}(e:z5 X.o X.B aw es=some (xs,ps))(a:All ps)(ht:Tells X.toWc X.cf f xs M)(hb:big (T++M))(k:XS X n0 r aw (T++M) R):XS X n0 (.cons (.expr (.aC f es)) r) aw T R:=
 oI (λJ Z O l w=>by
  obtain ⟨vs,ak,e1,w1,k1,p1⟩:=oB X.hw X.ho es _ _ e a J T Z l w
  obtain ⟨bk,e2,w2,k2⟩:=ht vs T ak p1 w1 hb
  exact⟨.next,J,bk,aM (aM e1 e2) rfl,(k1.trans k2).ks,.inl ⟨rfl,(l.mono k1).mono k2,w2⟩⟩) k
theorem Al(m:oG aw aZ=aZ):XS X n0 (.cons .cont .nil) aw T λf J Z=>f≠ .next/\Nx X n0 aZ T f J Z:=λJ Z O l w=>⟨.cont,J,Z,rfl,.refl _ _ _,Fl.noConfusion,rfl,l.weak m,w⟩
end
theorem e9{X:Xc}{n0:Nat}{A:Type}{body:bG}{t:jh}{en:Bool}{gT:A->PV}{l:List A}{it:MI}{aw aZ:List XV}{T:List PV}{bx:Nat->A->List XV}(p:Nat->A->List PV)(m7:jJ X n0 aw it en (l.map gT))(jw:∀k x,l[k]? =some x->Bd X n0 t en k (gT x) aw (bx k x))(m:oG aw aZ=aZ)(hT:big (T++bI p 0 l))
  (hb:∀k x T,l[k]? =some x->big (T++p k x)->XS X n0 body (bx k x) T (Nx X n0 aw (T++p k x))):XS X n0 (.cons (.bt t it body) .nil) aw T (Nx X n0 aZ (T++bI p 0 l)):=cN p m7 jw hT hb (jB m)
theorem Nf{X:Xc}{n0:Nat}{aw aZ:List XV}{T U:List PV}{e:ME}{a:bG}{x:XV}{t:Bool}{ps:List Prop}(h:xE X.o X.B aw e=some (x,ps))(al:All ps)(ht:xQ x=some t)(m:oG aw aZ=aZ)(hT:big (T++if t=true then U else []))(h1:t=true->big (T++U)->XS X n0 a aw T (Nx X n0 aZ (T++U))):
  XS X n0 (.cons (.ba e a .nil) .nil) aw T (Nx X n0 aZ (T++if t=true then U else [])):=by
 cases t with
 |true=>exact vJ h al ht (λe=>h1 e hT) Bool.noConfusion
 |false=>exact vJ h al ht Bool.noConfusion λO=>(List.append_nil T).symm▸jB m
section
variable{c:Wc}(h:WW c)(sh:Shape c.B)(n:Nat)
noncomputable abbrev fI(c:Wc)(n f:Nat)(xs:List XV)(M:List PV):Prop:=Tells c (ax aj ae (n+6)) f xs M
theorem rq{X:Xc}{n0:Nat}{aw:List XV}{i:Nat}{t:Int}(ht:t∈aL)(e:bQ aw i=.v (.int t)):jJ X n0 aw (.enum (.aq (.gl 2) (.aa i))) true ((bB t).map ec):=
 uJ (x:=.v (.ah ((bB t).map ec))) (λO O O l w=>⟨_,_,bR rfl (eD (l.at i e)) (sx (JC ht)),w,.refl _ _,rfl⟩) rfl
theorem pI{X:Xc}{n0 i j k:Nat}{aw:List XV}{r:Row}:Bd X n0 (.many [i,j]) true k (pr r) aw (dN (dN aw i (.v (.int k))) j (.rs r)):=j1 (x:=.rs r) rfl λO=>rfl
include sh in
theorem oP{t:Int}{j:Nat}{e:List Nat×Int}(hj:(bB t)[j]? =some e){r:Row}{k:Nat}(hr:(c.B.R t)[k]? =some r):0<=(j:Int)/\(j:Int)<r.length/\r.length<=65536:=by
 have h1:=(List.getElem?_eq_some_iff.mp hj).1
 rw[sh.nI t r (List.mem_of_getElem? hr)]
 exact⟨Int.natCast_nonneg _,Int.ofNat_lt.mpr h1,bJ (fk t) (by decide)⟩
include sh in
theorem oQ{k:Nat}{t:Int}(ht:c.B.keys[k]? =some t):t∈aL:=sh.keys t (List.mem_of_getElem? ht)
include h sh
theorem Ng:fI c n 12 [.ts,.aA] (tags c.B):=by
 have Qa:=λv=>show Ah c (ax aj ae (n+5)) [pG c.B,m9 v] from ⟨rk h sh (n+4),x6 v (n+3),a_⟩
 refine bX (X:=XX h sh n) rfl rfl rfl rfl λn0 T hT=> ?_
 refine cN (λO t=>B3 c.B t) (bx:=λO t=>[.ts,.aA,.v (.int t),.any,.any,.any,.any]) (eC (x:=.il c.B.keys) (ps:=[]) rfl a_ rfl) (λO t O=>d7 (x:=.v (.int t)) rfl λO=>rfl) hT (λO t T ht hT=> ?_) dc
 refine e9 (λj e=>if decide (e.2>=512) then HL c.B t j (e.2-512) else []) (rq (oQ sh ht) rfl) (bx:=λj e=>[.ts,.aA,.v (.int t),.v (.int j),.v (ec e),.any,.any]) (λj e O=>j1 (x:=.v (ec e)) rfl λO=>rfl) rfl hT λj e T he hT=> ?_
 refine Nf (x:=.v (.bool (decide (e.2>=512)))) (ps:=[]) rfl a_ rfl rfl hT λh5 hT=> ?_
 have h5:=bV h5
 have hc:pz e=true:=z0 (oQ sh ht) e (List.mem_of_getElem? he)
 have hs:512<=e.2/\e.2<=518:=by simp only [pz,Bool.or_eq_true,Bool.and_eq_true,decide_eq_true_eq] at hc;omega
 refine e9 _ (cw (x:=.rl (bB t).length (c.B.R t)) (ps:=[]) rfl a_ rfl) (bx:=λk r=>[.ts,.aA,.v (.int t),.v (.int j),.v (ec e),.v (.int k),.rs r]) (λk r O=>pI) rfl hT λk r T hr hT=> ?_
 have hi:=oP sh he hr
 cases hp:dm (e.2-512) (cl r j) with
 |none=>exact XS.sw (iP:=iT c h.ok (n+5) [pG c.B,m9 .none] (Qa _)) rfl rfl (bP (cP:=[.ts,.aA,.v (.int t),.v (.int j),.v (ec e),.v (.int k),.rs r]) (g:=[[aG t (k+1) sj]]) (ps:=[0<=(j:Int)/\(j:Int)<r.length/\r.length<=65536,(512<=e.2/\e.2<=518)/\iN e.2 (cl r j)=.none]) rfl ⟨hi,hs,sM hp⟩ rfl rfl (hp▸hT))
 |some p=>exact XS.sw (iP:=iT c h.ok (n+5) [pG c.B,m9 (.ah [.int p.1,.int p.2])] (Qa _)) rfl rfl (bP (cP:=[.ts,.aA,.v (.int t),.v (.int j),.v (ec e),.v (.int k),.rs r]) (g:=[[]]) (ps:=[0<=(j:Int)/\(j:Int)<r.length/\r.length<=65536,(512<=e.2/\e.2<=518)/\iN e.2 (cl r j)=.ah [.int p.1,.int p.2]]) rfl ⟨hi,hs,sL hp⟩ rfl rfl (hp▸hT))
end
section
variable{c:Wc}(h:WW c)(sh:Shape c.B)(n:Nat)
include sh in
theorem fB{X:Xc}{n0 i j k w:Nat}{aw:List XV}{r:Row}{t:Int}(hr:(c.B.R t)[k]? =some r)(hw:(bB t).length=w):Bd X n0 (.many [i,j]) true k (pr r) aw (dN (dN aw i (.v (.int k))) j (.r w r)):=
 j1 (x:=.r w r) rfl λO=>⟨rfl,(sh.nI t r (List.mem_of_getElem? hr)).trans hw,hw▸bJ (fk t) (by decide)⟩
include h sh
theorem ED:fI c n 15 [.ts,.aA] (parents c.B):=by
 refine bX (X:=XX h sh n) rfl rfl rfl rfl λn0 T hT=> ?_
 refine cN (λO t=>Gh c.B t) (bx:=λO t=>[.ts,.aA,.v (.int t),.any,.any,.any,.any,.any]) (eC (x:=.il c.B.keys) (ps:=[]) rfl a_ rfl) (λO t O=>d7 (x:=.v (.int t)) rfl λO=>rfl) hT (λO t T ht hT=> ?_) dc
 refine e9 (λj e=>if decide (e.2<256)||fj t j then [] else B4 c.B t j e.2 (i5 t e.1)) (rq (oQ sh ht) rfl) (bx:=λj e=>[.ts,.aA,.v (.int t),.v (.int j),.v (ec e),.any,.any,.any]) (λj e O=>j1 (x:=.v (ec e)) rfl λO=>rfl) rfl hT λj e T he hT=> ?_
 refine eS (x:=.v (.bool (decide (e.2<256)||fj t j))) (ps:=[]) (t:=decide (e.2<256)||fj t j) rfl a_ rfl (λq=> ?_) λq=> ?_
 ·rw[if_pos q,List.append_nil];exact Al rfl
 ·have q:¬(decide (e.2<256)||fj t j)=true:=by rw[q];exact Bool.noConfusion
  rw[if_neg q] at hT⊢
  have hc:pz e=true:=z0 (oQ sh ht) e (List.mem_of_getElem? he)
  have hs:e.2<=518:=by simp only [pz,Bool.or_eq_true,Bool.and_eq_true,decide_eq_true_eq] at hc;omega
  refine bu (aZ:=[.ts,.aA,.v (.int t),.v (.int j),.v (ec e),.v (.bool (i5 t e.1)),.any,.any]) (ps:=[]) rfl a_ ?_
  exact e9 _ (cw (x:=.rl (bB t).length (c.B.R t)) (ps:=[]) rfl a_ rfl) (bx:=λk r=>[.ts,.aA,.v (.int t),.v (.int j),.v (ec e),.v (.bool (i5 t e.1)),.v (.int k),.rs r]) (λk r O=>pI) rfl hT λk r T hr hT=>
   bP (cP:=[.ts,.aA,.v (.int t),.v (.int j),.v (ec e),.v (.bool (i5 t e.1)),.v (.int k),.rs r]) (g:=[if !dq c.B e.2 (cl r j) (i5 t e.1) then [aG t (k+1) gg] else []]) (ps:=[0<=(j:Int)/\(j:Int)<r.length/\r.length<=65536,e.2<=518]) rfl ⟨oP sh he hr,hs⟩ rfl rfl hT
theorem JT:fI c n 8 [.ts,.tx,.bl,.aA] (B6 c.B):=by
 refine bX (X:=XX h sh n) rfl rfl rfl rfl λn0 T hT=> ?_
 refine cN (λO t=>B5 c.B t) (bx:=λO t=>[.ts,.tx,.bl,.aA,.v (.int t),.any,.any,.any,.any]) (eC (x:=.il c.B.keys) (ps:=[]) rfl a_ rfl) (λO t O=>d7 (x:=.v (.int t)) rfl λO=>rfl) hT (λO t T ht hT=> ?_) dc
 refine e9 (λj e=>HM c.B t j e) (rq (oQ sh ht) rfl) (bx:=λj e=>[.ts,.tx,.bl,.aA,.v (.int t),.v (.int j),.v (ec e),.any,.any]) (λj e O=>j1 (x:=.v (ec e)) rfl λO=>rfl) rfl hT λj e T he hT=> ?_
 exact e9 _ (cw (x:=.rl (bB t).length (c.B.R t)) (ps:=[]) rfl a_ rfl) (bx:=λk r=>[.ts,.tx,.bl,.aA,.v (.int t),.v (.int j),.v (ec e),.v (.int k),.rs r]) (λk r O=>pI) rfl hT λk r T hr hT=>
   bP (cP:=[.ts,.tx,.bl,.aA,.v (.int t),.v (.int j),.v (ec e),.v (.int k),.rs r]) (g:=[if !jy c.B t e.1 e.2 (cl r j) then [aG t (k+1) lX] else []]) (ps:=[0<=(j:Int)/\(j:Int)<r.length/\r.length<=65536,ec e=ec e]) rfl ⟨oP sh he hr,rfl⟩ rfl rfl hT
noncomputable def e3(r:Row):PV:=.ah [.int (cl r 0),.int (cl r 1),.int (cl r 2)]
theorem JU:fI c n 17 [.ts,.aA] (xC c.B):=by
 refine bX (X:=XX h sh n) rfl rfl rfl rfl λn0 T hT=> ?_
 refine cN (λO r=>listOf c.B (cl r 0) (cl r 1).toNat (cl r 2)) (bx:=λO r=>[.ts,.aA,.v (.int (cl r 0)),.v (.int (cl r 1)),.v (.int (cl r 2)),.any,.any,.any,.any,.any]) (l:=lists) (gT:=e3) (eC (x:=.v (.ah (lists.map e3))) (ps:=[]) rfl a_ rfl) (λO r O=>Aa rfl) hT (λO r T hr hT=> ?_) dc
 have hP:∀r∈lists,0<=cl r 1/\cl r 1<(bB (cl r 0)).length:=by decide
 have hP:=hP r (List.mem_of_getElem? hr)
 generalize cl r 0=t at*
 generalize cl r 1=P at*
 generalize cl r 2=o at*
 refine bu (aZ:=[.ts,.aA,.v (.int t),.v (.int P),.v (.int o),.rl (bB t).length (c.B.R t),.any,.any,.any,.any]) (ps:=[]) rfl a_ ?_
 rw[listOf] at hT⊢
 rw[<-List.append_assoc]
 refine pF (aZ:=[.ts,.aA,.v (.int t),.v (.int P),.v (.int o),.rl (bB t).length (c.B.R t),.any,.any,.any,.any]) (g:=[if decide (cnt c.B t=0)&&decide (cnt c.B o>0) then [aG o 1 fy] else []]) (ps:=[aS (c.B.R t)=true]) rfl (decide_eq_true (bJ (sh.len t) (by decide))) (λO=>cJ hT) ?_
 show XS _ n0 _ _ (T++if decide (cnt c.B t=0)&&decide (cnt c.B o>0) then [aG o 1 fy] else []) _
 have hT:=cK hT
 generalize T++(if decide (cnt c.B t=0)&&decide (cnt c.B o>0) then [aG o 1 fy] else [])=T at hT⊢
 refine bu (aZ:=[.ts,.aA,.v (.int t),.v (.int P),.v (.int o),.rl (bB t).length (c.B.R t),.v (.int 1),.any,.any,.any]) (ps:=[]) rfl a_ ?_
 refine eT (λlast=>[.ts,.aA,.v (.int t),.v (.int P),.v (.int o),.rl (bB t).length (c.B.R t),.v (.int last),.any,.any,.any]) (λO O=>True) (pA c.B t P.toNat o) 1 (cw (x:=.rl (bB t).length (c.B.R t)) (ps:=[]) rfl a_ rfl)
  (bx:=λlast k r=>[.ts,.aA,.v (.int t),.v (.int P),.v (.int o),.rl (bB t).length (c.B.R t),.v (.int last),.v (.int k),.rs r,.any]) (λO k r O=>pI) a_ hT (λlast k r T hr O hT=>⟨a_,?_⟩) λO=>jB rfl
 have hw:0<=P/\P<r.length/\r.length<=65536:=by rw[sh.nI t r (List.mem_of_getElem? hr)];exact⟨hP.1,hP.2,bJ (fk t) (by decide)⟩
 refine bu (aZ:=[.ts,.aA,.v (.int t),.v (.int P),.v (.int o),.rl (bB t).length (c.B.R t),.v (.int last),.v (.int k),.rs r,.v (.int (cl r P.toNat))]) (ps:=[0<=P/\P<r.length/\r.length<=65536]) rfl hw ?_
 refine vJ (x:=.v (.bool (B7 c.B P.toNat o last k r))) (ps:=[]) rfl a_ rfl (λq=> ?_) λq=> ?_
 ·have e:pA c.B t P.toNat o last k r=(last,[aG t (k+1) fy]):=if_pos q
  rw[e] at hT⊢
  exact bP (cP:=[.ts,.aA,.v (.int t),.v (.int P),.v (.int o),.rl (bB t).length (c.B.R t),.v (.int last),.v (.int k),.rs r,.v (.int (cl r P.toNat))]) (g:=[[aG t (k+1) fy]]) (ps:=[]) rfl a_ rfl rfl hT
 ·have e:pA c.B t P.toNat o last k r=(cl r P.toNat,[]):=if_neg (by rw[q];exact Bool.noConfusion)
  rw[e] at hT⊢
  exact bP (cP:=[.ts,.aA,.v (.int t),.v (.int P),.v (.int o),.rl (bB t).length (c.B.R t),.v (.int (cl r P.toNat)),.v (.int k),.rs r,.v (.int (cl r P.toNat))]) (g:=[]) (ps:=[]) rfl a_ rfl rfl hT
omit h in
theorem gU{t:Int}{k:Nat}{r:Row}(hr:(c.B.R t)[k]? =some r):k<=60000:=bJ (Nat.le_of_lt (List.getElem?_eq_some_iff.mp hr).1) (sh.len t)
omit h sh in
theorem oR{m:IM}{k:Nat}(h:m.length<=k)(hk:k<=60000):aS (ce m)=true:=cx (l:=m) (bJ h (bJ hk (by decide)))
omit h sh in
theorem kF{es:Es}{k:Nat}(h:es.length<=k)(hk:k<=60000):aS es=true:=decide_eq_true (bJ h (bJ hk (by decide)))
theorem Ni:fI c n 11 [.ts,.aA] (Ca c.B):=by
 refine bX (X:=XX h sh n) rfl rfl rfl rfl λn0 T hT=> ?_
 refine cN (λO t=>vF c.B t) (bx:=λO t=>[.ts,.aA,.v (.int t),.any,.any,.any]) (l:=[18,21]) (gT:=PV.int) (eC (x:=.v (.ah [.int 18,.int 21])) (ps:=[]) rfl a_ rfl) (λO t O=>d7 (x:=.v (.int t)) rfl λO=>rfl) hT (λO t T ht hT=> ?_) dc
 have hw:∀t∈[(18:Int),21],0<(bB t).length:=by decide
 have hw:=hw t (List.mem_of_getElem? ht)
 refine bu (aZ:=[.ts,.aA,.v (.int t),.m [],.any,.any]) (ps:=[]) rfl a_ ?_
 refine eT (λm=>[.ts,.aA,.v (.int t),.m m,.any,.any]) (λk (m:IM)=>m.length<=k) (HO t) [] (cw (x:=.rl (bB t).length (c.B.R t)) (ps:=[]) rfl a_ rfl) (bx:=λm k r=>[.ts,.aA,.v (.int t),.m m,.v (.int k),.rs r]) (λO k r O=>pI) (Nat.le_refl _) hT
  (λm k r T hr hm hT=>⟨bJ (mX _ _ _) (Nat.succ_le_succ hm),?_⟩) λO=>jB rfl
 have hi:0<=(0:Int)/\(0:Int)<r.length/\r.length<=65536:=by rw[sh.nI t r (List.mem_of_getElem? hr)];exact⟨Int.le_refl 0,Int.ofNat_lt.mpr hw,bJ (fk t) (by decide)⟩
 exact bP (cP:=[.ts,.aA,.v (.int t),.m (gM m (cl r 0) 1),.v (.int k),.rs r]) (g:=[if (cD m (cl r 0)).isSome then [aG t (k+1) B8] else []]) (ps:=[0<=(0:Int)/\(0:Int)<r.length/\r.length<=65536,0<=(0:Int)/\(0:Int)<r.length/\r.length<=65536,aS (ce m)=true]) rfl ⟨hi,hi,oR hm (gU sh hr)⟩ rfl rfl hT
theorem GD:fI c n 28 [.ts,.aA] (l7 (c.B.R 6)):=by
 refine bX (X:=XX h sh n) rfl rfl rfl rfl λn0 T hT=> ?_
 exact cN (λk r=>if tQ r then [aG 6 (k+1) sk] else []) (cw (x:=.rl 6 (c.B.R 6)) (ps:=[]) rfl a_ rfl) (bx:=λk r=>[.ts,.aA,.v (.int k),.r 6 r,.any]) (λk r hr=>fB sh hr rfl) hT (λk r T hr hT=>
  bP (cP:=[.ts,.aA,.v (.int k),.r 6 r,.v (.bool (!decide (Builtin.bitAnd (cl r 2) 1024=0)||decide (cl r 1>4096)))]) (g:=[if tQ r then [aG 6 (k+1) sk] else []]) (ps:=[]) rfl a_ rfl rfl hT) dc
end
section
variable{c:Wc}(h:WW c)(so:Sound c.B)(n:Nat)
include h so
theorem JV:fI c n 20 [.ts,.tx,.aA] (names c.B):=by
 have sh:=so.toShape
 refine bX (X:=XX h sh n) rfl rfl rfl rfl λn0 T hT=> ?_
 refine cN (λO x=>B9 c.B x.1 x.2.2) (bx:=λO x=>[.ts,.tx,.aA,.v (.int x.1),.v (.str x.2.1),.any,.any,.any]) (l:=named) (gT:=en) (eC (x:=.v (.ah (named.map en))) (ps:=[]) rfl a_ rfl) (λO x O=>Aa rfl) hT (λO x T hx hT=> ?_) dc
 have hx:=List.mem_of_getElem? hx
 have h4:∀x∈named,((bB x.1)[x.2.2]?.map Prod.snd)=some 4:=by decide
 have h4:=h4 x hx
 have Ic:∀Z,ax aj ae (n+5) 3 [.int x.1,.str x.2.1] Z=some (.ok (.int x.2.2),Z):=by
  intro Z
  simp only [named,List.mem_cons,List.not_mem_nil,or_false] at hx
  rcases hx with hx | hx | hx | hx | hx | hx | hx | hx | hx | hx | hx<;>subst hx<;>rfl
 obtain ⟨t,w,p⟩:=x
 dsimp only at h4 Ic hT⊢
 obtain ⟨e,he,_⟩:=Option.map_eq_some_iff.mp h4
 have Ic:∀Z,(XX h sh n).cf 3 [.int t,.str w] Z=some (.ok (.int p),Z):=Ic
 refine sN (x:=.v (.int p)) rfl (λJ T Z l ws=>⟨_,Z,aM (v:=[.int t,.str w]) (aM (eD (l.at 3 rfl)) (aM (v:=[.str w]) (aM (eD (l.at 4 rfl)) rfl) rfl)) (Ic Z),ws,.refl _ _,rfl⟩) ?_
 exact e9 (λk r=>if decide (nm c.B (cl r p)=[]) then [aG t (k+1) kx] else []) (cw (x:=.rl (bB t).length (c.B.R t)) (ps:=[]) rfl a_ rfl) (bx:=λk r=>[.ts,.tx,.aA,.v (.int t),.v (.str w),.v (.int p),.v (.int k),.rs r]) (λk r O=>pI) rfl hT λk r T hr hT=>
  bP (cP:=[.ts,.tx,.aA,.v (.int t),.v (.str w),.v (.int p),.v (.int k),.rs r]) (g:=[if decide (nm c.B (cl r p)=[]) then [aG t (k+1) kx] else []]) (ps:=[0<=(p:Int)/\(p:Int)<r.length/\r.length<=65536,∃s,c6 c.B.txt (cl r p)=some s]) rfl ⟨oP sh he hr,so.tx t r (List.mem_of_getElem? hr) p h4⟩ rfl rfl hT
theorem JW:fI c n 27 [.ts,.tx,.bl,.aA] (lY c.B):=by
 have sh:=so.toShape
 refine bX (X:=XX h sh n) rfl rfl rfl rfl λn0 T hT=> ?_
 exact cN _ (cw (x:=.rl 6 (c.B.R 6)) (ps:=[]) rfl a_ rfl) (bx:=λk r=>[.ts,.tx,.bl,.aA,.v (.int k),.r 6 r]) (λk r hr=>fB sh hr rfl) hT (λk r T hr hT=>
  bP (cP:=[.ts,.tx,.bl,.aA,.v (.int k),.r 6 r]) (g:=[if decide (nm c.B (cl r 3)=[46,99,99,116,111,114]) then (if !nz (Builtin.bitAnd (cl r 2) 16)|| !decide (bb c.B (cl r 4)=[0,0,1]) then [aG 6 (k+1) tO] else []) else []])
   (ps:=[∃s,c6 c.B.txt (cl r 3)=some s,decide (nm c.B (cl r 3)=[46,99,99,116,111,114])=true->(!nz (Builtin.bitAnd (cl r 2) 16))=false->(∃s,c6 c.B.gG (cl r 4)=some s)/\ae 28=jI (oz (ae 28))]) rfl ⟨so.tx 6 r (List.mem_of_getElem? hr) 3 rfl,λO O=>⟨so.bl 6 r (List.mem_of_getElem? hr) 4 rfl,rfl⟩⟩ rfl rfl hT) dc
omit h in
theorem GF{l:Row}(hl:l∈lists){k:Int}(hk:1<=k/\k<=cnt c.B (cl l 0)):1<=fQ c.B (cl l 0) (cl l 1).toNat k/\fQ c.B (cl l 0) (cl l 1).toNat k<=cnt c.B (cl l 2)+1:=so.ls l hl _ (ie hk.1 hk.2)
omit h in
theorem GG{l:Row}(hl:l∈lists){k:Int}(hk:1<=k/\k<=cnt c.B (cl l 0)):1<=gH c.B (cl l 0) (cl l 1).toNat (cl l 2) k/\gH c.B (cl l 0) (cl l 1).toNat (cl l 2) k<=cnt c.B (cl l 2)+1:=by
 rw[gH]
 split
 ·rename_i q;exact so.ls l hl _ (ie (Int.le_trans hk.1 (Int.le_add_of_nonneg_right (by decide))) q)
 ·have:=mf so.toiG (cl l 2);omega
omit h in
theorem tW{X:Xc}{n0:Nat}{aw:List XV}{a b:ME}{x0 x1 o:Int}(e0:xE X.o X.B aw a=some (.v (.int x0),[]))(e1:xE X.o X.B aw b=some (.v (.int x1),[]))(h0:1<=x0/\x0<=cnt c.B o+1)(h1:1<=x1/\x1<=cnt c.B o+1):jJ X n0 aw (.dA a b) false ((cL x0 (x1-x0).toNat).map .int):=
 src_range e0 a_ e1 a_ (by have:=mf so.toiG o;omega)
omit h so in
theorem mj{x0 x1 o x:Int}{k:Nat}(h0:1<=x0)(h1:x1<=o+1)(hx:(cL x0 (x1-x0).toNat)[k]? =some x):1<=x/\x<=o:=by
 have:=x4 hx;omega
theorem GH:fI c n 30 [.ts,.aA] (params c.B):=by
 have sh:=so.toShape
 refine bX (X:=XX h sh n) rfl rfl rfl rfl λn0 T hT=> ?_
 have e:params c.B=bI (λO k=>z4 c.B k) 0 (cL 1 (cnt c.B 6+1-1).toNat):=by rw[Int.add_sub_cancel];rfl
 rw[e] at hT⊢
 refine cN _ (mh sh.toiG rfl rfl (by decide)) (bx:=λO k=>[.ts,.aA,.v (.int k),.any,.any,.any,.any,.any]) (λO k O=>d7 (x:=.v (.int k)) rfl λO=>rfl) hT (λO k T hk hT=> ?_) dc
 have hk:=mj (Int.le_refl 1) (Int.le_refl _) hk
 have hA:=GF so (l:=[6,5,8]) (by decide) hk
 have hB:=GG so (l:=[6,5,8]) (by decide) hk
 refine bu (aZ:=[.ts,.aA,.v (.int k),.v (.int (fQ c.B 6 5 k)),.v (.int (gH c.B 6 5 8 k)),.any,.any,.any]) (ps:=[((0:Int)<=5/\(5:Int)<(bB 6).length)/\1<=k/\k<=cnt c.B 6]) rfl ⟨by decide,hk⟩ ?_
 refine bu (aZ:=[.ts,.aA,.v (.int k),.v (.int (fQ c.B 6 5 k)),.v (.int (gH c.B 6 5 8 k)),.v (.int (-1)),.any,.any]) (ps:=[]) rfl a_ ?_
 refine eT (λlast=>[.ts,.aA,.v (.int k),.v (.int (fQ c.B 6 5 k)),.v (.int (gH c.B 6 5 8 k)),.v (.int last),.any,.any]) (λO O=>True) (HN c.B) (-1) (tW so rfl rfl hA hB) (bx:=λlast O x=>[.ts,.aA,.v (.int k),.v (.int (fQ c.B 6 5 k)),.v (.int (gH c.B 6 5 8 k)),.v (.int last),.v (.int x),.any]) (λO O x O=>d7 (x:=.v (.int x)) rfl λO=>rfl) a_ hT (λlast O x T hx O hT=>⟨a_,?_⟩) λO=>jB rfl
 exact bP (cP:=[.ts,.aA,.v (.int k),.v (.int (fQ c.B 6 5 k)),.v (.int (gH c.B 6 5 8 k)),.v (.int (cl (bz c.B 8 x) 1)),.v (.int x),.v (.int (cl (bz c.B 8 x) 1))]) (g:=[if decide (cl (bz c.B 8 x) 1<=last) then [aG 8 x tP] else []]) (ps:=[1<=x/\x<=cnt c.B 8]) rfl (mj hA.1 hB.2 hx) rfl rfl hT
theorem GI:fI c n 24 [.ts,.aA] (l5 c.B):=by
 have sh:=so.toShape
 refine bX (X:=XX h sh n) rfl rfl rfl rfl λn0 T hT=> ?_
 refine cN (xD c.B) (cw (x:=.rl 6 (c.B.R 2)) (ps:=[]) rfl a_ rfl) (bx:=λk r=>[.ts,.aA,.v (.int k),.r 6 r,.any,.any,.any]) (λk r hr=>fB sh hr rfl) hT (λk r T hr hT=> ?_) dc
 rw[xD] at hT⊢
 refine eS (x:=.v (.bool !isIf r)) (ps:=[0<6]) (t:= !isIf r) rfl (Nat.succ_pos 5) rfl (λq=> ?_) λq=> ?_
 ·rw[if_neg (by rw[Bool.not_eq_true'] at q;rw[q];exact Bool.noConfusion),List.append_nil];exact Al rfl
 ·rw[Bool.not_eq_false'] at q
  rw[if_pos q] at hT⊢
  have hk:1<=(k:Int)+1/\(k:Int)+1<=cnt c.B 2:=by have:=(List.getElem?_eq_some_iff.mp hr).1;simp only [cnt];omega
  have hA:=GF so (l:=[2,4,4]) (by decide) hk
  have hB:=GG so (l:=[2,4,4]) (by decide) hk
  refine pF (aZ:=[.ts,.aA,.v (.int k),.r 6 r,.any,.any,.any]) (g:=[if nz ((cl r 3).fdiv 4) then [aG 2 (k+1) lZ] else []]) (ps:=[]) rfl a_ (λO=>cJ hT) ?_
  rw[<-List.append_assoc]
  refine bu (aZ:=[.ts,.aA,.v (.int k),.r 6 r,.v (.int (fQ c.B 2 4 (k+1))),.v (.int (gH c.B 2 4 4 (k+1))),.any]) (ps:=[((0:Int)<=4/\(4:Int)<(bB 2).length)/\1<=(k:Int)+1/\(k:Int)+1<=cnt c.B 2]) rfl ⟨by decide,hk⟩ ?_
  exact e9 _ (tW so rfl rfl hA hB) (bx:=λO x=>[.ts,.aA,.v (.int k),.r 6 r,.v (.int (fQ c.B 2 4 (k+1))),.v (.int (gH c.B 2 4 4 (k+1))),.v (.int x)]) (λO x O=>d7 (x:=.v (.int x)) rfl λO=>rfl) rfl (cK hT) λO x T hx hT=>
   bP (cP:=[.ts,.aA,.v (.int k),.r 6 r,.v (.int (fQ c.B 2 4 (k+1))),.v (.int (gH c.B 2 4 4 (k+1))),.v (.int x)]) (g:=[if !nz (Builtin.bitAnd (cl (bz c.B 4 x) 0) 16) then [aG 4 x lZ] else []]) (ps:=[1<=x/\x<=cnt c.B 4]) rfl (mj hA.1 hB.2 hx) rfl rfl hT
theorem Nj:fI c n 26 [.ts,.tx,.aA] (bases c.B):=by
 have sh:=so.toShape
 refine bX (X:=iT c h.ok (n+5) (H9 c.B::oE c.B) ⟨GC h so (n+2),Ib h sh n⟩) rfl rfl rfl rfl λn0 T hT=> ?_
 have e:bases c.B=bI (λO x=>if tS c.B (lg c.B) x then [aG 2 x kz] else []) 0 (cL 2 (cnt c.B 2+1-2).toNat):=by rw[show cnt c.B 2+1-2=cnt c.B 2-1 by omega];rfl
 rw[e] at hT⊢
 refine bu (aZ:=[.ts,.tx,.aA,.v (.int (lg c.B)),.any,.any]) (ps:=[]) rfl a_ ?_
 exact cN _ (mh sh.toiG rfl rfl (by decide)) (bx:=λO x=>[.ts,.tx,.aA,.v (.int (lg c.B)),.v (.int x),.any]) (λO x O=>d7 (x:=.v (.int x)) rfl λO=>rfl) hT (λO x T hx hT=>
  bP (cP:=[.ts,.tx,.aA,.v (.int (lg c.B)),.v (.int x),.r 6 (bz c.B 2 x)]) (g:=[if tS c.B (lg c.B) x then [aG 2 x kz] else []]) (ps:=[1<=x/\x<=cnt c.B 2,0<6]) rfl ⟨have hx:2<=x/\x<cnt c.B 2+1:=x4 hx;⟨by omega,by omega⟩,Nat.succ_pos 5⟩ rfl rfl hT) dc
omit h in
theorem EE{t:Int}{r:Row}(hr:r∈c.B.R t)(j:Nat)(e:List Nat×Int)(hj:(bB t)[j]? =some e)(h5:e.2>=512)(hm:i5 t e.1=false)(hl:fj t j=false):
  1<=(bW c.B (e.2-512) (cl r j)).2/\(bW c.B (e.2-512) (cl r j)).2<=cnt c.B (bW c.B (e.2-512) (cl r j)).1:=by
 have h:=so.nr t r hr j e hj (by rw[hl,Bool.or_false];exact decide_eq_false (by omega))
 obtain ⟨p,hp⟩:=so.tg t r hr j e hj h5
 rw[dq,if_neg (by omega),hp,hm] at h
 rw[bW,hp]
 dsimp only at h
 by_cases h0:p.2=0
 ·rw[if_pos h0] at h;cases h
 ·rw[if_neg h0,Bool.and_eq_true] at h
  exact⟨bV h.1,bV h.2⟩
theorem zz:fI c n 29 [.ts,.aA] (constants c.B):=by
 have sh:=so.toShape
 refine bX (X:=XX h sh n) rfl rfl rfl rfl λn0 T hT=> ?_
 rw[constants] at hT⊢
 refine bu (aZ:=[.ts,.aA,.d (.ah [.i,.i]) [],.any,.any,.any,.any,.any,.any]) (ps:=[]) rfl a_ ?_
 refine eT (λes=>[.ts,.aA,.d (.ah [.i,.i]) es,.any,.any,.any,.any,.any,.any]) (λk (es:Es)=>es.length<=k) (stepK c.B) [] (cw (x:=.rl 3 (c.B.R 11)) (ps:=[]) rfl a_ rfl) (bx:=λes k r=>[.ts,.aA,.d (.ah [.i,.i]) es,.v (.int k),.r 3 r,.any,.any,.any,.any]) (λO k r hr=>fB sh hr rfl) (Nat.le_refl _) (cJ hT) (λes k r T hr hm hT=>⟨bJ (hY _ _ _) (Nat.succ_le_succ hm),?_⟩) λO=> ?_
 ·have qh:=List.mem_of_getElem? hr
  have hg:=EE so qh 1 _ rfl (by decide) rfl rfl
  exact bP (cP:=[.ts,.aA,.d (.ah [.i,.i]) (stepK c.B es k r).1,.v (.int k),.r 3 r,.v (.int (bW c.B 1 (cl r 1)).1),.v (.int (bW c.B 1 (cl r 1)).2),.any,.any]) (g:=[if MB c.B es (bW c.B 1 (cl r 1)) then [aG 11 (k+1) gC] else []])
   (ps:=[((0:Int)<=1/\(1:Int)<=6)/\∃p,dm 1 (cl r 1)=some p,(bj es (fH (bW c.B 1 (cl r 1)).1 (bW c.B 1 (cl r 1)).2)).isSome=false->(!decide ((bW c.B 1 (cl r 1)).1=4))=false->1<=(bW c.B 1 (cl r 1)).2/\(bW c.B 1 (cl r 1)).2<=cnt c.B 4,aS es=true]) rfl
   ⟨⟨by decide,so.tg 11 r qh 1 _ rfl (by decide)⟩,λO q=>bV (Bool.not_inj (y:=true) q)▸hg,kF hm (gU sh hr)⟩ rfl rfl hT
 ·rw[<-List.append_assoc]
  exact cN (λk r=>if Gj (bH (stepK c.B) [] 0 (c.B.R 11)).1 k r then [aG 4 (k+1) gC] else []) (cw (x:=.rl 3 (c.B.R 4)) (ps:=[]) rfl a_ rfl) (bx:=λk r=>[.ts,.aA,.d (.ah [.i,.i]) (bH (stepK c.B) [] 0 (c.B.R 11)).1,.v (.int k),.r 3 r,.any,.any,.any,.any]) (λk r hr=>fB sh hr rfl) (cK hT) (λk r T hr hT=>
   bP (cP:=[.ts,.aA,.d (.ah [.i,.i]) (bH (stepK c.B) [] 0 (c.B.R 11)).1,.v (.int k),.r 3 r,.any,.any,.v (.bool (bj (bH (stepK c.B) [] 0 (c.B.R 11)).1 (fH 4 (k+1))).isSome),.t (nz (Builtin.bitAnd (cl r 0) 64)&& !((bj (bH (stepK c.B) [] 0 (c.B.R 11)).1 (fH 4 (k+1))).isSome&&nz (Builtin.bitAnd (cl r 0) 16)))])
    (g:=[if Gj (bH (stepK c.B) [] 0 (c.B.R 11)).1 k r then [aG 4 (k+1) gC] else []]) (ps:=[]) rfl a_ rfl rfl hT) dc
theorem Ci:fI c n 31 [.ts,.tx,.aA] (i6 c.B):=by
 have sh:=so.toShape
 refine bX (X:=XX h sh n) rfl rfl rfl rfl λn0 T hT=> ?_
 refine bu (aZ:=[.ts,.tx,.aA,.m [],.any,.any,.any,.any,.any]) (ps:=[]) rfl a_ ?_
 refine bu (aZ:=[.ts,.tx,.aA,.m [],.d (.ah [.i,.s]) [],.any,.any,.any,.any]) (ps:=[]) rfl a_ ?_
 refine eT (λs:IM×Es=>[.ts,.tx,.aA,.m s.1,.d (.ah [.i,.s]) s.2,.any,.any,.any,.any]) (λk (s:IM×Es)=>s.1.length<=k/\s.2.length<=k) (vG c.B) ([],[]) (cw (x:=.rl 4 (c.B.R 42)) (ps:=[]) rfl a_ rfl) (bx:=λs k r=>[.ts,.tx,.aA,.m s.1,.d (.ah [.i,.s]) s.2,.v (.int k),.r 4 r,.any,.any]) (λO k r hr=>fB sh hr rfl) ⟨Nat.le_refl _,Nat.le_refl _⟩ hT
  (λs k r T hr hm hT=>⟨⟨bJ (mX _ _ _) (Nat.succ_le_succ hm.1),bJ (hY _ _ _) (Nat.succ_le_succ hm.2)⟩,?_⟩) λO=>dc
 exact bP (cP:=[.ts,.tx,.aA,.m (vG c.B s k r).1.1,.d (.ah [.i,.s]) (vG c.B s k r).1.2,.v (.int k),.r 4 r,.v (.int ((cD s.1 (cl r 2)).getD 0)),.v (.ah [.int (cl r 2),.str (nm c.B (cl r 3))])]) (g:=[if !decide (cl r 0=(cD s.1 (cl r 2)).getD 0) then [aG 42 (k+1) qY] else [],if (bj s.2 (Gi c.B r)).isSome then [aG 42 (k+1) eR] else []])
  (ps:=[aS (ce s.1)=true,∃s,c6 c.B.txt (cl r 3)=some s,aS s.2=true]) rfl ⟨oR hm.1 (gU sh hr),so.tx 42 r (List.mem_of_getElem? hr) 3 rfl,kF hm.2 (gU sh hr)⟩ rfl rfl hT
theorem JX:fI c n 35 [.ts,.aA] (pC c.B):=by
 have sh:=so.toShape
 refine bX (X:=XX h sh n) rfl rfl rfl rfl λn0 T hT=> ?_
 refine bu (aZ:=[.ts,.aA,.d (.ah [.i,.i]) [],.any,.any,.any,.any]) (ps:=[]) rfl a_ ?_
 refine eT (λes=>[.ts,.aA,.d (.ah [.i,.i]) es,.any,.any,.any,.any]) (λk (es:Es)=>es.length<=k) (stepI c.B) [] (cw (x:=.rl 3 (c.B.R 25)) (ps:=[]) rfl a_ rfl) (bx:=λes k r=>[.ts,.aA,.d (.ah [.i,.i]) es,.v (.int k),.r 3 r,.any,.any]) (λO k r hr=>fB sh hr rfl) (Nat.le_refl _) hT (λes k r T hr hm hT=>⟨bJ (hY _ _ _) (Nat.succ_le_succ hm),?_⟩) λO=>dc
 exact bP (cP:=[.ts,.aA,.d (.ah [.i,.i]) (stepI c.B es k r).1,.v (.int k),.r 3 r,.v (.int (bW c.B 4 (cl r 1)).1),.v (.int (bW c.B 4 (cl r 1)).2)]) (g:=[(stepI c.B es k r).2])
  (ps:=[((0:Int)<=4/\(4:Int)<=6)/\∃p,dm 4 (cl r 1)=some p,(!decide ((bW c.B 4 (cl r 1)).1=6))=false->(0:Int)<=5/\(5:Int)<(bB 2).length,aS es=true]) rfl ⟨⟨by decide,so.tg 25 r (List.mem_of_getElem? hr) 1 _ rfl (by decide)⟩,λO=>by decide,kF hm (gU sh hr)⟩ rfl rfl hT
theorem zA:fI c n 32 [.ts,.aA] (gh c.B):=by
 have sh:=so.toShape
 refine bX (X:=XX h sh n) rfl rfl rfl rfl λn0 T hT=> ?_
 rw[gh] at hT⊢
 refine bu (aZ:=[.ts,.aA,.d (.ah [.i,.i]) [],.any,.any,.any,.any,.any]) (ps:=[]) rfl a_ ?_
 refine eT (λes=>[.ts,.aA,.d (.ah [.i,.i]) es,.any,.any,.any,.any,.any]) (λk (es:Es)=>es.length<=k) (fh c.B) [] (cw (x:=.rl 3 (c.B.R 24)) (ps:=[]) rfl a_ rfl) (bx:=λes k r=>[.ts,.aA,.d (.ah [.i,.i]) es,.v (.int k),.r 3 r,.any,.any,.any]) (λO k r hr=>fB sh hr rfl) (Nat.le_refl _) (cJ hT) (λes k r T hr hm hT=>⟨bJ (hY _ _ _) (Nat.succ_le_succ hm),?_⟩) λO=> ?_
 ·exact bP (cP:=[.ts,.aA,.d (.ah [.i,.i]) (fh c.B es k r).1,.v (.int k),.r 3 r,.v (.int (bW c.B 3 (cl r 2)).1),.v (.int (bW c.B 3 (cl r 2)).2),.any]) (g:=[(fh c.B es k r).2])
   (ps:=[((0:Int)<=3/\(3:Int)<=6)/\∃p,dm 3 (cl r 2)=some p,(!ov (cl r 0) (bW c.B 3 (cl r 2)).1||(bj es (fH (cl r 0) (cl r 2))).isSome)=false->(0:Int)<=5/\(5:Int)<(bB 2).length,aS es=true]) rfl ⟨⟨by decide,so.tg 24 r (List.mem_of_getElem? hr) 2 _ rfl (by decide)⟩,λO=>by decide,kF hm (gU sh hr)⟩ rfl rfl hT
 ·rw[<-List.append_assoc]
  have e:MD (bH (fh c.B) [] 0 (c.B.R 24)).1 (cnt c.B 20)=bI (λO x=>if !(bj (bH (fh c.B) [] 0 (c.B.R 24)).1 (fH 8 (iH x))).isSome|| !(bj (bH (fh c.B) [] 0 (c.B.R 24)).1 (fH 16 (iH x))).isSome then [aG 20 x pD] else []) 0 (cL 1 (cnt c.B 20+1-1).toNat):=by rw[Int.add_sub_cancel];rfl
  rw[e] at hT⊢
  exact cN _ (mh sh.toiG rfl rfl (by decide)) (bx:=λO x=>[.ts,.aA,.d (.ah [.i,.i]) (bH (fh c.B) [] 0 (c.B.R 24)).1,.any,.any,.any,.v (.int x),.any]) (λO x O=>d7 (x:=.v (.int x)) rfl λO=>rfl) (cK hT) (λO x T hx hT=>
   bP (cP:=[.ts,.aA,.d (.ah [.i,.i]) (bH (fh c.B) [] 0 (c.B.R 24)).1,.any,.any,.any,.v (.int x),.v (.int (iH x))]) (g:=[if !(bj (bH (fh c.B) [] 0 (c.B.R 24)).1 (fH 8 (iH x))).isSome|| !(bj (bH (fh c.B) [] 0 (c.B.R 24)).1 (fH 16 (iH x))).isSome then [aG 20 x pD] else []])
    (ps:=[((3:Int)=3/\(20:Int)=20)/\1<=x/\x<=60000]) rfl ⟨⟨rfl,rfl⟩,by have h1:=mj (Int.le_refl 1) (Int.le_refl _) hx;exact⟨h1.1,Int.le_trans h1.2 (mf so.toiG 20).2⟩⟩ rfl rfl hT) dc
end
section
variable{c:Wc}{n0:Nat}{aw:List XV}{cf:Nat->List PV->af->aF PV}
theorem XGo.TQ{a b:ME}{r:bZ}(h:XGo c n0 aw (ai cf ae a) (.v (.bool true))):XGo c n0 aw (ai cf ae (.or (.cons a (.cons b r)))) (.v (.bool true)):=λJ T Z l w=>
 cI.ay (k:=λv Z=>pick (truth Z v) (av v Z) (ai cf ae (.or (.cons b r)) J Z)) (h J T Z l w) λv ak w1 O p1=>by cases p1;exact cI.av w1 rfl
theorem XGo.ite{e a b:ME}{x y:XV}{t:Bool}(h:XGo c n0 aw (ai cf ae e) x)(ht:xQ x=some t)(k:XGo c n0 aw (ai cf ae (bif t then a else b)) y):XGo c n0 aw (ai cf ae (.ite e a b)) y:=λJ T Z l w=>
 cI.ay (k:=λv Z=>pick (truth Z v) (ai cf ae a J Z) (ai cf ae b J Z)) (h J T Z l w) λv ak w1 k1 p1=>cI.pick (sH ht p1) (λe=>by rw[e] at k;exact k J T ak (l.mono k1) w1) λe=>by rw[e] at k;exact k J T ak (l.mono k1) w1
theorem GJ{X:Xc}{T:List PV}{e:ME}{a:bG}{x:XV}{g:List (List PV)}{ps:List Prop}(h:XGo X.toWc n0 aw (ai X.cf ae e) x)(ht:xQ x=some true)(ha:xP X.o X.B aw a=some (g,ps))(al:All ps)(hb:big (T++cat g)):XS X n0 (.cons (.ba e a .nil) .nil) aw T (En X (T++cat g)):=
 oI (aZ:=aw) (U:=T++cat g) (λJ Z O l w=>by
  obtain ⟨u,ak,eu,w1,k1,p1⟩:=h J T Z l w
  obtain ⟨bk,e2,w2,k2⟩:=sG (n0:=n0) a g ps ha al J T ak (l.mono k1) w1 λO=>hb
  refine⟨.next,J,bk,?_,(k1.trans k2).ks,.inl ⟨rfl,(l.mono k1).mono k2,w2⟩⟩
  exact(fU eu).trans (by rw[sH ht p1];exact e2)) dc
end
noncomputable def Wh(X:Xc)(n0:Nat)(e:ME)(body:bG)(F:Nat)(aw:List XV)(T:List PV)(aZ:List XV):Prop:=∀J Z,n0<=Z.length->LX X.toWc n0 Z aw J->WS X.toWc T Z->
 ∃aY ag,ft (ai X.cf ae e) (au X.cf ae body) F J Z=some (.ok (.next,aY),ag)/\KS X.it n0 Z ag/\LX X.toWc n0 ag aZ aY/\WS X.toWc T ag
section
variable{c:Wc}(h:WW c)(so:Sound c.B)(n:Nat)
include h so
theorem GK:fI c n 10 [.ts,.tx,.aA] (jZ c.B):=by
 have sh:=so.toShape
 refine bX (X:=XX h sh n) rfl rfl rfl rfl λn0 T hT=> ?_
 rw[jZ] at hT⊢
 refine cN (λO t=>if !decide (cnt c.B t=1) then [aG t (cnt c.B t) ky] else []) (bx:=λO t=>[.ts,.tx,.aA,.v (.int t),.any]) (l:=[0,32]) (gT:=PV.int) (eC (x:=.v (.ah [.int 0,.int 32])) (ps:=[]) rfl a_ rfl) (λO t O=>d7 (x:=.v (.int t)) rfl λO=>rfl) (cJ hT)
  (λO t T O hT=>bP (cP:=[.ts,.tx,.aA,.v (.int t),.any]) (g:=[if !decide (cnt c.B t=1) then [aG t (cnt c.B t) ky] else []]) (ps:=[]) rfl a_ rfl rfl hT) ?_
 have hT:=cK hT
 rw[<-List.append_assoc]
 generalize T++bI (λO t=>if !decide (cnt c.B t=1) then [aG t (cnt c.B t) ky] else []) 0 [0,32]=T at hT⊢
 refine bu (aZ:=[.ts,.tx,.aA,.any,.rl 6 (c.B.R 2)]) (ps:=[]) rfl a_ ?_
 have hm:=so.tx 2
 have hl:=so.len 2
 unfold D5 at hT⊢
 generalize c.B.R 2=l at hm hl hT⊢
 cases l with
 |nil=>
  exact GJ (g:=[[aG 2 1 mY]]) (ps:=[]) (XGo.TQ (b6 (XX h sh n).hw (XX h sh n).ho (.cmp .eq (.aO .len (.aa 4)) (.k (.int 0))) (.v (.bool true)) [aS ([]:List Row)=true] rfl rfl)) rfl rfl a_ hT
 |cons r l=>
  have ht:=hm r cR 1 rfl
  exact pF (aZ:=[.ts,.tx,.aA,.any,.rl 6 (r::l)]) (g:=[if !decide (nm c.B (cl r 1)=modName)||(isIf r||nz ((cl r 3).fdiv 4)) then [aG 2 1 mY] else []]) (ps:=[aS (r::l)=true,decide ((((r::l).length:Nat):Int)=0)=false->(∃s,c6 c.B.txt (cl r 1)=some s)/\((!decide (nm c.B (cl r 1)=modName))=false->0<6)]) rfl ⟨decide_eq_true (bJ hl (by decide)),λO=>⟨ht,λO=>Nat.succ_pos 5⟩⟩ (λO=>hT) dc
omit h so in
theorem tX{X:Xc}{n0 F:Nat}{aw:List XV}{T:List PV}{e:ME}{body:bG}(h:XGo X.toWc n0 aw (ai X.cf ae e) (.v (.bool false))):Wh X n0 e body (F+1) aw T aw:=λJ Z O l w=>by
 obtain ⟨v,ak,e1,w1,k1,p1⟩:=h J T Z l w
 cases p1
 exact⟨J,ak,y3 e1,k1.ks,l.mono k1,w1⟩
omit h so in
theorem O2{X:Xc}{n0 F:Nat}{aw cP aZ:List XV}{T:List PV}{e:ME}{body:bG}(h:XGo X.toWc n0 aw (ai X.cf ae e) (.v (.bool true)))(hb:XS X n0 body aw T (Nx X n0 cP T))(k:Wh X n0 e body F cP T aZ):Wh X n0 e body (F+1) aw T aZ:=λJ Z hs l w=>by
 obtain ⟨v,ak,e1,w1,k1,p1⟩:=h J T Z l w
 cases p1
 obtain ⟨f,dP,bk,e2,k2,hf,l2,w2⟩:=hb J ak (bJ hs k1.len) (l.mono k1) w1
 obtain ⟨sI,l9,e3,k3,l3,w3⟩:=k dP bk (bJ (bJ hs k1.len) k2.len) l2 w2
 refine⟨sI,l9,?_,(k1.ks.trans k2).trans k3,l3,w3⟩
 rw[CH e1 e2]
 cases f with
 |ret v=>cases hf
 |_=>exact e3
omit h so in
theorem Am{X:Xc}{n0:Nat}{m:IM}(hm:m.length<=60000){r:Row}{kv:PV}{T:List PV}:∀(d F:Nat)(st x:Int),st=m.length+1-d->d+1<=F->
  ∃fw,Wh X n0 (.and (.cons (.cmp .isin (.aa 5) (.aa 2)) (.cons (.cmp .ne (.aa 5) (.aq (.aa 4) (.k (.int 0)))) (.cons (.cmp .le (.aa 6) (.aO .len (.aa 2))) .nil)))) (.cons (.aK 5 (.aq (.aa 2) (.aa 5))) (.cons (.aug 6 .add (.k (.int 1))) .nil)) F
   [.ts,.aA,.m m,.v kv,.r 2 r,.v (.int x),.v (.int st)] T [.ts,.aA,.m m,.v kv,.r 2 r,.v (.int (walk m (cl r 0) d x)),.v (.int fw)]
 |_,0,_,_,_,hF=>absurd hF (Nat.not_succ_le_zero _)
 |d,F+1,st,x,nG,hF=>by
  have test:XGo X.toWc n0 [.ts,.aA,.m m,.v kv,.r 2 r,.v (.int x),.v (.int st)] (ai X.cf ae (.and (.cons (.cmp .isin (.aa 5) (.aa 2)) (.cons (.cmp .ne (.aa 5) (.aq (.aa 4) (.k (.int 0)))) (.cons (.cmp .le (.aa 6) (.aO .len (.aa 2))) .nil))))) (.v (.bool ((cD m x).isSome&&(!decide (x=cl r 0)&&decide (st<=(m.length:Int)))))):=
   b6 X.hw X.ho _ _ [(cD m x).isSome=true->(!decide (x=cl r 0))=true->aS (ce m)=true] rfl λO O=>oR (Nat.le_refl _) hm
  cases d with
  |zero=>
   rw[decide_eq_false (show ¬st<=(m.length:Int) by omega),Bool.and_false,Bool.and_false] at test
   exact⟨st,tX test⟩
  |succ d=>
   rw[walk]
   cases hi:cD m x with
   |none=>rw[hi] at test;exact⟨st,tX test⟩
   |some v=>
    dsimp only
    by_cases hx:x=cl r 0
    ·rw[decide_eq_true hx,hi] at test
     rw[if_pos hx]
     exact⟨st,tX test⟩
    ·rw[if_neg hx]
     rw[decide_eq_false hx,hi,decide_eq_true (show st<=(m.length:Int) by omega)] at test
     obtain ⟨fw,k⟩:=Am hm d F (st+1) v (by omega) (by omega)
     refine⟨fw,O2 test ?_ k⟩
     have hv:(cD m x).getD 0=v:=by rw[hi];rfl
     refine bu (aZ:=[.ts,.aA,.m m,.v kv,.r 2 r,.v (.int ((cD m x).getD 0)),.v (.int st)]) (ps:=[(cD m x).isSome=true]) rfl (show (cD m x).isSome=true by rw[hi];rfl) (bu (aZ:=[.ts,.aA,.m m,.v kv,.r 2 r,.v (.int ((cD m x).getD 0)),.v (.int (st+1))]) (ps:=[]) rfl a_ ?_)
     rw[hv]
     exact jB rfl
theorem GL:fI c n 36 [.ts,.aA] (nested c.B):=by
 have sh:=so.toShape
 refine bX (X:=XX h sh n) rfl rfl rfl rfl λn0 T hT=> ?_
 rw[nested] at hT⊢
 refine bu (aZ:=[.ts,.aA,.m [],.any,.any,.any,.any]) (ps:=[]) rfl a_ ?_
 refine eT (λm=>[.ts,.aA,.m m,.any,.any,.any,.any]) (λk (m:IM)=>m.length<=k) jf [] (cw (x:=.rl 2 (c.B.R 41)) (ps:=[]) rfl a_ rfl) (bx:=λm k r=>[.ts,.aA,.m m,.v (.int k),.r 2 r,.any,.any]) (λO k r hr=>fB sh hr rfl) (Nat.le_refl _) (cJ hT) (λm k r T hr hm hT=> ?_) λhm=> ?_
 ·refine⟨by rw[jf];split;exact Nat.le_succ_of_le hm;exact bJ (mX _ _ _) (Nat.succ_le_succ hm),?_⟩
  refine vJ (x:=.v (.bool (cD m (cl r 0)).isSome)) (ps:=[]) rfl a_ rfl (λq=> ?_) λq=> ?_
  ·have e:jf m k r=(m,[aG 41 (k+1) hZ]):=if_pos q
   rw[e] at hT⊢
   exact bP (cP:=[.ts,.aA,.m m,.v (.int k),.r 2 r,.any,.any]) (g:=[[aG 41 (k+1) hZ]]) (ps:=[]) rfl a_ rfl rfl hT
  ·have e:jf m k r=(gM m (cl r 0) (cl r 1),[]):=if_neg (by rw[q];exact Bool.noConfusion)
   rw[e] at hT⊢
   exact bP (cP:=[.ts,.aA,.m (gM m (cl r 0) (cl r 1)),.v (.int k),.r 2 r,.any,.any]) (g:=[]) (ps:=[aS (ce m)=true]) rfl (oR hm (gU sh hr)) rfl rfl hT
 ·rw[<-List.append_assoc]
  have hm:=bJ hm (sh.len 41)
  refine cN (λk r=>if decide (walk (bH jf [] 0 (c.B.R 41)).1 (cl r 0) ((bH jf [] 0 (c.B.R 41)).1.length+1) (cl r 1)=cl r 0) then [aG 41 (k+1) hZ] else []) (cw (x:=.rl 2 (c.B.R 41)) (ps:=[]) rfl a_ rfl) (bx:=λk r=>[.ts,.aA,.m (bH jf [] 0 (c.B.R 41)).1,.v (.int k),.r 2 r,.any,.any]) (λk r hr=>fB sh hr rfl) (cK hT) (λk r T hr hT=> ?_) dc
  generalize (bH jf [] 0 (c.B.R 41)).1=m at hm hT⊢
  refine bu (aZ:=[.ts,.aA,.m m,.v (.int k),.r 2 r,.v (.int (cl r 1)),.any]) (ps:=[]) rfl a_ ?_
  refine bu (aZ:=[.ts,.aA,.m m,.v (.int k),.r 2 r,.v (.int (cl r 1)),.v (.int 0)]) (ps:=[]) rfl a_ ?_
  obtain ⟨fw,wh⟩:=Am (X:=XX h sh n) (n0:=n0) hm (r:=r) (kv:=.int k) (T:=T) (m.length+1) turns 0 (cl r 1) (by omega) (by simp only [turns];omega)
  refine oI (U:=T) (λJ Z hs l w=>let ⟨aY,ag,e,k,l,w⟩:=wh J Z hs l w;⟨.next,aY,ag,e,k,.inl ⟨rfl,l,w⟩⟩) ?_
  exact bP (cP:=[.ts,.aA,.m m,.v (.int k),.r 2 r,.v (.int (walk m (cl r 0) (m.length+1) (cl r 1))),.v (.int fw)]) (g:=[if decide (walk m (cl r 0) (m.length+1) (cl r 1)=cl r 0) then [aG 41 (k+1) hZ] else []]) (ps:=[]) rfl a_ rfl rfl hT
end
section
variable{c:Wc}(h:WW c)(so:Sound c.B)
include h so
theorem nc(n:Nat)(l:Row)(hl:l∈lists)(t P o:Int)(ht:cl l 0=t)(hp:cl l 1=P)(ho:cl l 2=o)(hP:0<=P/\P<(bB t).length)(np:Nat)(sp:Int)
  (hn:((bB o)[np]?.map Prod.snd)=some 4) (hs:sp= -1\/(0<=sp/\((bB o)[sp.toNat]?.map Prod.snd)=some 5)):
  Tells c (ax aj ae (n+5)) 22 [.ts,.tx,.bl,.aA,.v (.ah [.int t,.int P,.int o]),.v (.int np),.v (.int sp)] (d0 c.B t P.toNat o np sp):=by
 have sh:=so.toShape
 refine bX (X:=iT c h.ok (n+4) [i8 c.B,lh c.B,uK c.B,xX c.B,jC c.B] ⟨j2 h sh.toiG (n+3),rn h sh (n+2),xY h sh.toiG (n+2),Ep h sh.toiG (n+2),oN h sh (n+1),a_⟩) rfl rfl rfl rfl λn0 T hT=> ?_
 have e:d0 c.B t P.toNat o np sp=bI (λO k=>xI c.B t P.toNat o np sp k) 0 (cL 1 (cnt c.B t+1-1).toNat):=by rw[Int.add_sub_cancel];rfl
 rw[e] at hT⊢
 refine bu (aZ:=[.ts,.tx,.bl,.aA,.v (.ah [.int t,.int P,.int o]),.v (.int np),.v (.int sp),.v (.int t),.v (.int P),.v (.int o),.any,.any,.any,.any,.any,.any,.any,.any]) (ps:=[]) rfl a_ ?_
 refine cN _ (mh sh.toiG rfl rfl (by decide)) (bx:=λO k=>[.ts,.tx,.bl,.aA,.v (.ah [.int t,.int P,.int o]),.v (.int np),.v (.int sp),.v (.int t),.v (.int P),.v (.int o),.v (.int k),.any,.any,.any,.any,.any,.any,.any]) (λO k O=>d7 (x:=.v (.int k)) rfl λO=>rfl) hT (λO k T hk hT=> ?_) dc
 have hk:1<=k/\k<=cnt c.B t:=mj (Int.le_refl 1) (Int.le_refl _) hk
 have hA:=GF so hl (ht▸hk)
 have hB:=GG so hl (ht▸hk)
 rw[ht,hp,ho] at hA hB
 rw[xI] at hT⊢
 refine bu (aZ:=[.ts,.tx,.bl,.aA,.v (.ah [.int t,.int P,.int o]),.v (.int np),.v (.int sp),.v (.int t),.v (.int P),.v (.int o),.v (.int k),.v (.int (fQ c.B t P.toNat k)),.v (.int (gH c.B t P.toNat o k)),.any,.any,.any,.any,.any]) (ps:=[(0<=P/\P<(bB t).length)/\1<=k/\k<=cnt c.B t]) rfl ⟨hP,hk⟩ ?_
 generalize fQ c.B t P.toNat k=x0 at hA hT⊢
 generalize gH c.B t P.toNat o k=x1 at hB hT⊢
 refine bu (aZ:=[.ts,.tx,.bl,.aA,.v (.ah [.int t,.int P,.int o]),.v (.int np),.v (.int sp),.v (.int t),.v (.int P),.v (.int o),.v (.int k),.v (.int x0),.v (.int x1),.d (.ah [.s,.n]) [],.any,.any,.any,.any]) (ps:=[]) rfl a_ ?_
 refine eT (λes=>[.ts,.tx,.bl,.aA,.v (.ah [.int t,.int P,.int o]),.v (.int np),.v (.int sp),.v (.int t),.v (.int P),.v (.int o),.v (.int k),.v (.int x0),.v (.int x1),.d (.ah [.s,.n]) es,.any,.any,.any,.any]) (λk (es:Es)=>es.length<=k) (sq c.B o np sp) [] (tW so rfl rfl hA hB)
  (bx:=λes O x=>[.ts,.tx,.bl,.aA,.v (.ah [.int t,.int P,.int o]),.v (.int np),.v (.int sp),.v (.int t),.v (.int P),.v (.int o),.v (.int k),.v (.int x0),.v (.int x1),.d (.ah [.s,.n]) es,.v (.int x),.any,.any,.any]) (λO O x O=>d7 (x:=.v (.int x)) rfl λO=>rfl) (Nat.le_refl _) hT (λes j x T hx hm hT=>⟨bJ (hY _ _ _) (Nat.succ_le_succ hm),?_⟩) λO=>jB rfl
 have hj:j<=60000:=by
  have:=(List.getElem?_eq_some_iff.mp hx).1
  rw[oJ] at this
  have:=mf so.toiG o
  omega
 have hx:1<=x/\x<=cnt c.B o:=mj hA.1 hB.2 hx
 have hr:=ie hx.1 hx.2
 have iL:∀{j:Nat}{v:Int},((bB o)[j]?.map Prod.snd)=some v->0<=(j:Int)/\(j:Int)<(bz c.B o x).length/\(bz c.B o x).length<=65536:=λhj=>by
  obtain ⟨e,he,_⟩:=Option.map_eq_some_iff.mp hj
  exact oP sh he (tV hx.1 hx.2)
 refine bu (aZ:=[.ts,.tx,.bl,.aA,.v (.ah [.int t,.int P,.int o]),.v (.int np),.v (.int sp),.v (.int t),.v (.int P),.v (.int o),.v (.int k),.v (.int x0),.v (.int x1),.d (.ah [.s,.n]) es,.v (.int x),.rs (bz c.B o x),.any,.any]) (ps:=[1<=x/\x<=cnt c.B o]) rfl hx ?_
 refine sN (x:=.o (mZ c.B (bz c.B o x) sp)) rfl (XGo.ite (b6 (iT c h.ok (n+4) [i8 c.B,lh c.B,uK c.B,xX c.B,jC c.B] _).hw (iT c h.ok (n+4) [i8 c.B,lh c.B,uK c.B,xX c.B,jC c.B] _).ho _ (.v (.bool (decide (sp>=0)))) [] rfl a_) rfl ?_) ?_
 ·rcases hs with hs | ⟨h0,hb⟩
  ·subst hs;exact λJ T Z l w=>⟨_,Z,rfl,w,.refl _ _,rfl⟩
  ·rw[decide_eq_true h0,mZ,if_pos h0]
   have h1:=iL hb
   rw[Int.toNat_of_nonneg h0] at h1
   exact b6 (iT c h.ok (n+4) [i8 c.B,lh c.B,uK c.B,xX c.B,jC c.B] _).hw (iT c h.ok (n+4) [i8 c.B,lh c.B,uK c.B,xX c.B,jC c.B] _).ho _ _ [0<=sp/\sp<(bz c.B o x).length/\(bz c.B o x).length<=65536,∃s,c6 c.B.gG (cl (bz c.B o x) sp.toNat)=some s] rfl ⟨h1,so.bl o _ hr _ hb⟩
 ·exact bP (cP:=[.ts,.tx,.bl,.aA,.v (.ah [.int t,.int P,.int o]),.v (.int np),.v (.int sp),.v (.int t),.v (.int P),.v (.int o),.v (.int k),.v (.int x0),.v (.int x1),.d (.ah [.s,.n]) (sq c.B o np sp es j x).1,.v (.int x),.rs (bz c.B o x),.o (mZ c.B (bz c.B o x) sp),.kv (.ah [.str (nm c.B (cl (bz c.B o x) np)),jI (mZ c.B (bz c.B o x) sp)]) (.ah [.s,.n]) (q9 (nm c.B (cl (bz c.B o x) np)) (mZ c.B (bz c.B o x) sp))])
   (g:=[(sq c.B o np sp es j x).2]) (ps:=[0<=(np:Int)/\(np:Int)<(bz c.B o x).length/\(bz c.B o x).length<=65536,∃s,c6 c.B.txt (cl (bz c.B o x) np)=some s,aS es=true]) rfl ⟨iL hn,so.tx o _ hr np hn,kF hm hj⟩ rfl rfl hT
theorem JY(n:Nat):fI c n 21 [.ts,.tx,.bl,.aA] (ow c.B):=by
 have sh:=so.toShape
 refine bX (X:=XX h sh n) rfl rfl rfl rfl λn0 T hT=> ?_
 rw[ow] at hT⊢
 refine bu (aZ:=[.ts,.tx,.bl,.aA,.m [],.any,.any,.any,.any]) (ps:=[]) rfl a_ ?_
 have hz:∀(l:List Row)(m:IM)(k:Nat),(bH (λ(m:IM) (O:Nat) (r:Row)=>(gM m (cl r 0) (cl r 1),([]:List PV))) m k l).2=[]:=by
  intro l
  induction l with
  |nil=>exact λO O=>rfl
  |cons x l ih=>exact λm k=>ih _ _
 have TR:big (T++[]):=by simp only [big,List.length_append,List.length_nil] at hT⊢;omega
 refine eT (λm=>[.ts,.tx,.bl,.aA,.m m,.any,.any,.any,.any]) (λk (m:IM)=>m.length<=k) (λ(m:IM) O r=>(gM m (cl r 0) (cl r 1),[])) [] (eC (x:=.rl 2 (c.B.R 41)) (ps:=[]) rfl a_ rfl) (bx:=λm O r=>[.ts,.tx,.bl,.aA,.m m,.r 2 r,.any,.any,.any]) (λO k r hr=>d7 (x:=.r 2 r) rfl λO=>⟨rfl,sh.nI 41 r (List.mem_of_getElem? hr),by decide⟩) (Nat.le_refl _) (by rw[hz];exact TR)
  (λm k r T hr hm hT=>⟨bJ (mX _ _ _) (Nat.succ_le_succ hm),bP (cP:=[.ts,.tx,.bl,.aA,.m (gM m (cl r 0) (cl r 1)),.r 2 r,.any,.any,.any]) (g:=[]) (ps:=[aS (ce m)=true]) rfl (oR hm (gU sh hr)) rfl rfl hT⟩) λO=> ?_
 rw[hz,List.append_nil]
 show XS _ n0 _ [.ts,.tx,.bl,.aA,.m (encl c.B),.any,.any,.any,.any] T _
 refine bu (aZ:=[.ts,.tx,.bl,.aA,.m (encl c.B),.any,.d (.ah [.i,.s,.s]) [],.any,.any]) (ps:=[]) rfl a_ ?_
 refine eT (λes=>[.ts,.tx,.bl,.aA,.m (encl c.B),.any,.d (.ah [.i,.s,.s]) es,.any,.any]) (λk (es:Es)=>es.length<=k) (stepT c.B (encl c.B)) [] (cw (x:=.rl 6 (c.B.R 2)) (ps:=[]) rfl a_ rfl) (bx:=λes k r=>[.ts,.tx,.bl,.aA,.m (encl c.B),.r 6 r,.d (.ah [.i,.s,.s]) es,.v (.int k),.any]) (λO k r hr=>fB sh hr rfl) (Nat.le_refl _) (cJ hT) (λes k r T hr hm hT=>⟨bJ (hY _ _ _) (Nat.succ_le_succ hm),?_⟩) λO=> ?_
 ·have qh:=List.mem_of_getElem? hr
  exact bP (cP:=[.ts,.tx,.bl,.aA,.m (encl c.B),.r 6 r,.d (.ah [.i,.s,.s]) (stepT c.B (encl c.B) es k r).1,.v (.int k),.v (.ah [.int ((cD (encl c.B) (k+1)).getD 0),.str (nm c.B (cl r 2)),.str (nm c.B (cl r 1))])]) (g:=[(stepT c.B (encl c.B) es k r).2]) (ps:=[∃s,c6 c.B.txt (cl r 2)=some s,∃s,c6 c.B.txt (cl r 1)=some s,aS es=true]) rfl ⟨so.tx 2 r qh 2 rfl,so.tx 2 r qh 1 rfl,kF hm (gU sh hr)⟩ rfl rfl hT
 have hT:=cK hT
 rw[<-List.append_assoc]
 show XS _ n0 _ _ (T++kB c.B) _
 have hT:big (T++kB c.B++_):=hT
 generalize T++kB c.B=T at hT⊢
 refine bu (aZ:=[.ts,.tx,.bl,.aA,.m (encl c.B),.any,.d (.ah [.i,.s,.s]) [],.any,.any]) (ps:=[]) rfl a_ ?_
 refine eT (λes=>[.ts,.tx,.bl,.aA,.m (encl c.B),.any,.d (.ah [.i,.s,.s]) es,.any,.any]) (λk (es:Es)=>es.length<=k) (vH c.B) [] (cw (x:=.rl 3 (c.B.R 1)) (ps:=[]) rfl a_ rfl) (bx:=λes k r=>[.ts,.tx,.bl,.aA,.m (encl c.B),.r 3 r,.d (.ah [.i,.s,.s]) es,.v (.int k),.any]) (λO k r hr=>fB sh hr rfl) (Nat.le_refl _) (cJ hT) (λes k r T hr hm hT=>⟨bJ (hY _ _ _) (Nat.succ_le_succ hm),?_⟩) λO=> ?_
 ·have qh:=List.mem_of_getElem? hr
  exact bP (cP:=[.ts,.tx,.bl,.aA,.m (encl c.B),.r 3 r,.d (.ah [.i,.s,.s]) (vH c.B es k r).1,.v (.int k),.v (.ah [.int (cl r 0),.str (nm c.B (cl r 2)),.str (nm c.B (cl r 1))])]) (g:=[(vH c.B es k r).2]) (ps:=[∃s,c6 c.B.txt (cl r 2)=some s,∃s,c6 c.B.txt (cl r 1)=some s,aS es=true]) rfl ⟨so.tx 1 r qh 2 rfl,so.tx 1 r qh 1 rfl,kF hm (gU sh hr)⟩ rfl rfl hT
 have hT:=cK hT
 rw[<-List.append_assoc]
 show XS _ n0 _ _ (T++kA c.B) _
 have hT:big (T++kA c.B++_):=hT
 generalize T++kA c.B=T at hT⊢
 refine pH (xs:=[.ts,.tx,.bl,.aA,.v (.ah [.int 2,.int 4,.int 4]),.v (.int 1),.v (.int 2)]) (ps:=[]) rfl a_ (nc h so n [2,4,4] (by decide) 2 4 4 rfl rfl rfl (by decide) 1 2 rfl (.inr ⟨by decide,rfl⟩)) (cJ hT) ?_
 have hT:=cK hT
 rw[<-List.append_assoc]
 refine pH (xs:=[.ts,.tx,.bl,.aA,.v (.ah [.int 2,.int 5,.int 6]),.v (.int 3),.v (.int 4)]) (ps:=[]) rfl a_ (nc h so n [2,5,6] (by decide) 2 5 6 rfl rfl rfl (by decide) 3 4 rfl (.inr ⟨by decide,rfl⟩)) (cJ hT) ?_
 have hT:=cK hT
 rw[<-List.append_assoc]
 refine pH (xs:=[.ts,.tx,.bl,.aA,.v (.ah [.int 21,.int 1,.int 23]),.v (.int 1),.v (.int 2)]) (ps:=[]) rfl a_ (nc h so n [21,1,23] (by decide) 21 1 23 rfl rfl rfl (by decide) 1 2 rfl (.inr ⟨by decide,rfl⟩)) (cJ hT) ?_
 have hT:=cK hT
 rw[<-List.append_assoc]
 exact pH (xs:=[.ts,.tx,.bl,.aA,.v (.ah [.int 18,.int 1,.int 20]),.v (.int 1),.v (.int (-1))]) (ps:=[]) rfl a_ (nc h so n [18,1,20] (by decide) 18 1 20 rfl rfl rfl (by decide) 1 (-1) rfl (.inl rfl)) hT dc
end
theorem x8{X:Type}{p:Nat->X->List PV}:∀{l:List X}{k:Nat},bI p k l=[]->∀(i:Nat)(x:X),l[i]? =some x->∃k,p k x=[]
 |y::l,k,e,0,x,h=>by cases h;exact⟨k,(List.append_eq_nil_iff.mp e).1⟩
 |y::l,k,e,i+1,x,h=>x8 (l:=l) (List.append_eq_nil_iff.mp e).2 i x h
theorem lj{X:Type}{p:Nat->X->List PV}:∀{l:List X}{k:Nat},bI p k l=[]->∀(i:Nat)(x:X),l[i]? =some x->p (k+i) x=[]
 |y::l,k,e,0,x,h=>by cases h;exact(List.append_eq_nil_iff.mp e).1
 |y::l,k,e,i+1,x,h=>by rw[show k+(i+1)=k+1+i by omega];exact lj (l:=l) (List.append_eq_nil_iff.mp e).2 i x h
theorem gq{X:Type}{p:Nat->X->List PV}{l:List X}{k:Nat}(e:bI p k l=[]){x:X}(h:x∈l):∃i,p i x=[]:=by
 obtain ⟨i,hi⟩:=List.getElem?_of_mem h
 exact x8 e i x hi
theorem x9{b:Bool}{x:PV}(h:(if b=true then [x] else [])=[]):b=false:=by
 cases b with
 |true=>cases h
 |false=>rfl
theorem uO{B:Tb}{t:Int}{p:Nat}{o:Int}:∀{l:List Row}{last:Int}{k:Nat},(bH (pA B t p o) last k l).2=[]->∀r∈l,last<=cl r p/\cl r p<=cnt B o+1
 |y::l,last,k,e,r,h=>by
  obtain ⟨e1,e2⟩:=List.append_eq_nil_iff.mp e
  rw[pA] at e1 e2
  cases hb:B7 B p o last k y with
  |true=>rw[hb] at e1;cases e1
  |false=>
   rw[hb] at e2
   simp only [B7,Bool.or_eq_false_iff,decide_eq_false_iff_not] at hb
   rcases List.mem_cons.mp h with h | h
   ·subst h;omega
   ·have:cl y p<=cl r p/\cl r p<=cnt B o+1:=uO e2 r h
    omega
theorem Sound.of{B:Tb}(sh:Shape B)(hk:∀t,B.R t≠[]->t∈B.keys)(he:early B=[]):Sound B:=by
 simp only [early,List.append_eq_nil_iff] at he
 obtain ⟨e1,e2,e3,e4⟩:=he
 have key:∀{t r},r∈B.R t->t∈B.keys:=λh=>hk _ (List.ne_nil_of_mem h)
 have place:∀{t:Int}{r:Row}{j:Nat}{e:List Nat×Int},r∈B.R t->(bB t)[j]? =some e->jy B t e.1 e.2 (cl r j)=true:=λhr hj=>by
  obtain ⟨_,h⟩:=gq e4 (key hr)
  have h:=lj h _ _ hj
  rw[Nat.zero_add] at h
  obtain ⟨_,h⟩:=gq h hr
  exact Bool.not_inj (y:=true) (x9 h)
 refine {sh with tx:= ?_,bl:= ?_,nr:= ?_,tg:= ?_,ls:= ?_}
 ·intro t r hr j hj
  obtain ⟨e,hc,hj⟩:=Option.map_eq_some_iff.mp hj
  have h:=place hr hc
  rw[jy,if_pos hj] at h
  exact Option.isSome_iff_exists.mp h
 ·intro t r hr j hj
  obtain ⟨e,hc,hj⟩:=Option.map_eq_some_iff.mp hj
  have h:=place hr hc
  rw[jy,if_neg (by omega),if_pos hj] at h
  cases hs:c6 B.gG (cl r j) with
  |none=>rw[hs] at h;cases h
  |some s=>exact⟨s,rfl⟩
 ·intro t r hr j e hc hh
  obtain ⟨_,h⟩:=gq e2 (key hr)
  have h:=lj h j e hc
  rw[Nat.zero_add,if_neg (by rw[hh];exact Bool.noConfusion)] at h
  obtain ⟨_,h⟩:=gq h hr
  exact Bool.not_inj (y:=true) (x9 h)
 ·intro t r hr j e hc hh
  obtain ⟨_,h⟩:=gq e1 (key hr)
  have h:=lj h j e hc
  rw[if_pos (decide_eq_true hh),Nat.zero_add] at h
  obtain ⟨_,h⟩:=gq h hr
  have h:=x9 h
  cases hs:dm (e.2-512) (cl r j) with
  |none=>rw[hs] at h;cases h
  |some s=>exact⟨s,rfl⟩
 ·intro l hl r hr
  obtain ⟨_,h⟩:=gq e3 hl
  exact uO (List.append_eq_nil_iff.mp h).2 r hr
section
variable{c:Wc}{cf:Nat->List PV->af->aF PV}
noncomputable def Done(c:Wc)(U:List PV)(m:aF (Fl×aD)):Prop:=∃Z J,m=some (.ok (.ret (.ref c.it),J),Z)/\ar Z c.it=some (.list U)
noncomputable def lo(c:Wc):aD:=[some (.inst 1 c.jt),some (.inst 0 c.jx),some (.inst 0 c.jb),some (.ref c.it)]
theorem tY{f:Nat}{es:bZ}{rest:bG}{Z:af}{xs:List XV}{vs T M U:List PV}(ht:Tells c cf f xs M)(Ll:bw cf ae es (lo c) Z=some (.ok vs,Z))(hv:jz c Z xs vs)(w:WS c T Z)(hb:big (T++M))
  (hk:∀ag,WS c (T++M) ag->Done c U (au cf ae rest (lo c) ag)):Done c U (au cf ae (.cons (.expr (.aC f es)) rest) (lo c) Z):=by
 obtain ⟨ag,e,w',_⟩:=ht vs T Z hv w hb
 obtain ⟨bk,J,e2,g⟩:=hk ag w'
 exact⟨bk,J,aM (aM (aM Ll e) rfl) e2,g⟩
theorem kG{f:Nat}{rest:bG}{Z:af}{T M U:List PV}(ht:Tells c cf f [.ts,.aA] M)(w:WS c T Z)(hb:big (T++M))(hk:∀ag,WS c (T++M) ag->Done c U (au cf ae rest (lo c) ag)):
  Done c U (au cf ae (.cons (.expr (.aC f (.cons (.aa 0) (.cons (.aa 3) .nil)))) rest) (lo c) Z):=tY ht rfl ⟨rfl,rfl,a_⟩ w hb hk
theorem Cj{f:Nat}{rest:bG}{Z:af}{T M U:List PV}(ht:Tells c cf f [.ts,.tx,.aA] M)(w:WS c T Z)(hb:big (T++M))(hk:∀ag,WS c (T++M) ag->Done c U (au cf ae rest (lo c) ag)):
  Done c U (au cf ae (.cons (.expr (.aC f (.cons (.aa 0) (.cons (.aa 1) (.cons (.aa 3) .nil))))) rest) (lo c) Z):=tY ht rfl ⟨rfl,rfl,rfl,a_⟩ w hb hk
theorem GN{f:Nat}{rest:bG}{Z:af}{T M U:List PV}(ht:Tells c cf f [.ts,.tx,.bl,.aA] M)(w:WS c T Z)(hb:big (T++M))(hk:∀ag,WS c (T++M) ag->Done c U (au cf ae rest (lo c) ag)):
  Done c U (au cf ae (.cons (.expr (.aC f (.cons (.aa 0) (.cons (.aa 1) (.cons (.aa 2) (.cons (.aa 3) .nil)))))) rest) (lo c) Z):=tY ht rfl ⟨rfl,rfl,rfl,rfl,a_⟩ w hb hk
noncomputable def aA(B:Tb):List PV:=if early B=[] then rf B else early B
theorem GO(h:WW c)(sh:Shape c.B)(hk:∀t,c.B.R t≠[]->t∈c.B.keys)(h1:big (early c.B))(h2:early c.B=[]->big (rf c.B))(n:Nat):
  ∃ag,ax aj ae (n+7) 4 [.inst 1 c.jt,.inst 0 c.jx,.inst 0 c.jb] c.kC=some (.ok (.ref c.it),ag)/\ar ag c.it=some (.list (aA c.B)):=by
 have key:Done c (aA c.B) (au (ax aj ae (n+6)) ae lO.body [some (.inst 1 c.jt),some (.inst 0 c.jx),some (.inst 0 c.jb),none] c.kC):=by
  have w0:WS c [] (c.kC++[.list []]):=⟨λi hi=>dJ _ _ _ (by rw[<-h.it];exact hi),by rw[h.it];exact bM _ _⟩
  have st:∀{rest:bG}{U:List PV},Done c U (au (ax aj ae (n+6)) ae rest (lo c) (c.kC++[.list []]))->Done c U (au (ax aj ae (n+6)) ae (.cons (.aK 3 (.list .nil)) rest) [some (.inst 1 c.jt),some (.inst 0 c.jx),some (.inst 0 c.jb),none] c.kC):=by
   intro rest U hd
   rw[lo,h.it] at hd
   exact hd
  refine st ?_
  have qn:big ([]++(tags c.B++(parents c.B++(xC c.B++B6 c.B)))):=h1
  refine kG (Ng h sh n) w0 (cJ qn) λZ w=> ?_
  have qn:=cK qn
  refine kG (ED h sh n) w (cJ qn) λZ w=> ?_
  have qn:=cK qn
  refine kG (JU h sh n) w (cJ qn) λZ w=> ?_
  have qn:=cK qn
  refine GN (JT h sh n) w qn λZ w=> ?_
  rw[List.append_assoc,List.append_assoc,List.append_assoc] at w
  have w:WS c (early c.B) Z:=w
  have tr:truth Z (.ref c.it)=some (!(early c.B).isEmpty):=zM w.2 (big.aS h1)
  have go:∀{rest:bG}{U:List PV}(b:Bool),(!(early c.B).isEmpty)=b->Done c U (bif b then some (.ok (.ret (.ref c.it),lo c),Z) else au (ax aj ae (n+6)) ae rest (lo c) Z)->Done c U (au (ax aj ae (n+6)) ae (.cons (.ba (.aa 3) (.cons (.ret (.aa 3)) .nil) .nil) rest) (lo c) Z):=by
   intro rest U b hb ⟨bk,J,e,g⟩
   refine⟨bk,J,?_,g⟩
   show ay (pick (truth Z (.ref c.it)) _ _) _=_
   rw[tr,hb]
   cases b with
   |true=>exact e
   |false=>exact e
  by_cases hn:early c.B=[]
  ·refine go false (by rw[hn];rfl) ?_
   rw[aA,if_pos hn]
   rw[hn] at w
   have so:=Sound.of sh hk hn
   have cj:big ([]++rf c.B):=h2 hn
   rw[rf] at cj
   refine Cj (GK h so n) w (cJ cj) λZ w=> ?_
   have cj:=cK cj
   refine kG (Ni h sh n) w (cJ cj) λZ w=> ?_
   have cj:=cK cj
   refine Cj (JV h so n) w (cJ cj) λZ w=> ?_
   have cj:=cK cj
   refine GN (JY h so n) w (cJ cj) λZ w=> ?_
   have cj:=cK cj
   refine kG (GI h so n) w (cJ cj) λZ w=> ?_
   have cj:=cK cj
   refine Cj (Nj h so n) w (cJ cj) λZ w=> ?_
   have cj:=cK cj
   refine GN (JW h so n) w (cJ cj) λZ w=> ?_
   have cj:=cK cj
   refine kG (GD h sh n) w (cJ cj) λZ w=> ?_
   have cj:=cK cj
   refine kG (zz h so n) w (cJ cj) λZ w=> ?_
   have cj:=cK cj
   refine kG (GH h so n) w (cJ cj) λZ w=> ?_
   have cj:=cK cj
   refine Cj (Ci h so n) w (cJ cj) λZ w=> ?_
   have cj:=cK cj
   refine kG (zA h so n) w (cJ cj) λZ w=> ?_
   have cj:=cK cj
   refine kG (JX h so n) w (cJ cj) λZ w=> ?_
   have cj:=cK cj
   refine kG (GL h so n) w cj λZ w=> ?_
   have w2:=w.2
   simp only [List.nil_append,List.append_assoc] at w2
   exact⟨Z,lo c,rfl,w2⟩
  ·refine go true ?_ ⟨Z,lo c,rfl,by rw[aA,if_neg hn];exact w.2⟩
   cases hh:early c.B with
   |nil=>exact absurd hh hn
   |cons a l=>rfl
 obtain ⟨ag,J,e,g⟩:=key
 exact⟨ag,bN rfl rfl e,g⟩
end
noncomputable def up(R:Int->List Row)(t:Int)(l:List Row):Int->List Row:=λk=>if k=t then l else R k
noncomputable def fR(f:Int->Nat)(t:Int)(i:Nat):Int->Nat:=λk=>if k=t then i else f k
noncomputable def Fr(n:Nat)(Z ag:af):Prop:=Z.length<=ag.length/\∀i<n,ar ag i=ar Z i
theorem Fr.refl(n:Nat)(Z:af):Fr n Z Z:=⟨Nat.le_refl _,λO O=>rfl⟩
theorem Fr.trans{n:Nat}{a b c:af}(h:Fr n a b)(g:Fr n b c):Fr n a c:=⟨bJ h.1 g.1,λi hi=>(g.2 i hi).trans (h.2 i hi)⟩
theorem Fr.app{n:Nat}(Z x:af)(h:n<=Z.length):Fr n Z (Z++x):=⟨by rw[List.length_append];exact Nat.le_add_right _ _,λi hi=>dJ _ _ _ (Nat.lt_of_lt_of_le hi h)⟩
theorem Fr.set{n:Nat}(Z:af){i:Nat}(o:MO)(h:n<=i):Fr n Z (sset Z i o):=⟨Nat.le_of_eq (fT Z i o).symm,λj hj=>bO _ _ _ _ (Nat.ne_of_lt (Nat.lt_of_lt_of_le hj h))⟩
theorem Fr.mono{n m:Nat}{Z ag:af}(h:Fr n Z ag)(l:m<=n):Fr m Z ag:=⟨h.1,λi hi=>h.2 i (Nat.lt_of_lt_of_le hi l)⟩
theorem Fr.get{n:Nat}{Z ag:af}(h:Fr n Z ag){i:Nat}{o:MO}(g:ar Z i=some o)(l:i<n):ar ag i=some o:=(h.2 i l).trans g
theorem EF{x k:Int}{v:PV}{es:Es}:bj ((Key.int x,v)::es) (.int k)=if x=k then some v else bj es (.int k):=by
 show (if Key.int x=Key.int k then some v else bj es (.int k))=_
 by_cases h:x=k
 ·rw[if_pos h,if_pos (congrArg Key.int h)]
 ·rw[if_neg h,if_neg λe=>h (pB e)]
theorem EG{x k:Int}{v w:PV}{es:Es}:cn ((Key.int x,v)::es) (.int k) w=if x=k then (Key.int x,w)::es else (Key.int x,v)::cn es (.int k) w:=by
 show (if Key.int x=Key.int k then (Key.int x,w)::es else (Key.int x,v)::cn es (.int k) w)=_
 by_cases h:x=k
 ·rw[if_pos h,if_pos (congrArg Key.int h)]
 ·rw[if_neg h,if_neg λe=>h (pB e)]
noncomputable def eg(aa:Int->Nat)(ks:List Int):Es:=ks.map λk=>(Key.int k,PV.ref (aa k))
theorem ya(aa:Int->Nat)(k:Int){ks:List Int}(h:k∈ks):bj (eg aa ks) (.int k)=some (.ref (aa k)):=by
 induction ks with
 |nil=>exact absurd h List.not_mem_nil
 |cons x ks ih=>
  refine EF.trans ?_
  by_cases e:x=k
  ·rw[if_pos e,e]
  ·rw[if_neg e];exact ih ((List.mem_cons.mp h).resolve_left λh=>e h.symm)
theorem Ie(aa:Int->Nat)(k:Int){ks:List Int}(h:k∉ks):bj (eg aa ks) (.int k)=.none:=by
 induction ks with
 |nil=>rfl
 |cons x ks ih=>exact EF.trans ((if_neg λ(e:x=k)=>h (e▸cR)).trans (ih λm=>h (List.mem_cons_of_mem _ m)))
theorem JZ(aa:Int->Nat)(k:Int)(i:Nat){ks:List Int}(h:k∉ks):eg (fR aa k i) ks=eg aa ks:=
 List.map_congr_left λx m=>by rw[fR,if_neg λ(e:x=k)=>h (e▸m)]
theorem Nk(aa:Int->Nat)(k:Int)(i:Nat){ks:List Int}(h:k∈ks)(nd:ks.Nodup):cn (eg aa ks) (.int k) (.ref i)=eg (fR aa k i) ks:=by
 induction ks with
 |nil=>exact absurd h List.not_mem_nil
 |cons x ks ih=>
  have nd:=List.nodup_cons.mp nd
  refine EG.trans ?_
  show _=(Key.int x,PV.ref (fR aa k i x))::eg (fR aa k i) ks
  by_cases e:x=k
  ·rw[if_pos e,fR,if_pos e,JZ aa k i (e▸nd.1)];rfl
  ·rw[if_neg e,fR,if_neg e,<-ih ((List.mem_cons.mp h).resolve_left λh=>e h.symm) nd.2];rfl
theorem O3(aa:Int->Nat)(k:Int)(i:Nat){ks:List Int}(h:k∉ks):cn (eg aa ks) (.int k) (.ref i)=eg (fR aa k i) (ks++[k]):=by
 induction ks with
 |nil=>show [(Key.int k,PV.ref i)]=[(Key.int k,PV.ref (fR aa k i k))];rw[fR,if_pos rfl]
 |cons x ks ih=>
  have e:¬x=k:=λe=>h (e▸cR)
  refine EG.trans ?_
  show _=(Key.int x,PV.ref (fR aa k i x))::eg (fR aa k i) (ks++[k])
  rw[if_neg e,fR,if_neg e,<-ih λm=>h (List.mem_cons_of_mem _ m)];rfl
structure RD(d n0 b:Nat)(ks:List Int)(aa:Int->Nat)(R:Int->List Row)(Z:af):Prop where
 dict:ar Z d=some (.dict .int (eg aa ks))
 at_:∀k∈ks,ar Z (aa k)=some (.list ((R k).map pr))
 inj:∀k∈ks,∀k'∈ks,aa k=aa k'->k=k'
 nd:n0<=d
 nl:∀k∈ks,n0<=aa k
 ln:∀k∈ks,(R k).length<=b
 nk:ks.Nodup
 lk:ks.length<=60
section
variable{d n0 b:Nat}{ks:List Int}{aa:Int->Nat}{R:Int->List Row}{Z:af}
theorem RD.keep(h:RD d n0 b ks aa R Z){ag:af}(hk:∀i o,ar Z i=some o->ar ag i=some o):RD d n0 b ks aa R ag:=
 {h with dict:=hk _ _ h.dict,at_:=λk dE=>hk _ _ (h.at_ k dE)}
theorem bS(Z x:af):∀i o,ar Z i=some o->ar (Z++x) i=some o:=λi O g=>(dJ _ _ _ (bA _ _ _ g)).trans g
theorem RD.ne(h:RD d n0 b ks aa R Z){k:Int}(hk:k∈ks):aa k≠d:=λe=>by have:=h.at_ k hk;rw[e,h.dict] at this;exact nomatch this
theorem RD.mono(h:RD d n0 b ks aa R Z){b':Nat}(l:b<=b'):RD d n0 b' ks aa R Z:={h with ln:=λk hk=>bJ (h.ln k hk) l}
theorem RD.push(h:RD d n0 b ks aa R Z){k:Int}(hk:k∈ks)(r:Row):RD d n0 (b+1) ks aa (up R k (R k++[r])) (sset Z (aa k) (.list ((R k).map pr++[pr r]))):=by
 refine {h with dict:= ?_,at_:=λk' dE=> ?_,ln:=λk' dE=> ?_}
 ·exact(bO _ _ _ _ (Ne.symm (h.ne hk))).trans h.dict
 ·by_cases e:k'=k
  ·subst e
   rw[up,if_pos rfl,List.map_append]
   exact eN _ _ _ (bA _ _ _ (h.at_ _ hk))
  ·rw[up,if_neg e]
   exact(bO _ _ _ _ λx=>e (h.inj _ dE _ hk x)).trans (h.at_ _ dE)
 ·by_cases e:k'=k
  ·rw[up,if_pos e,List.length_append];exact Nat.succ_le_succ (h.ln k hk)
  ·rw[up,if_neg e];exact Nat.le_succ_of_le (h.ln k' dE)
theorem RD.put(h:RD d n0 b ks aa R Z){k:Int}(hk:k∈ks){ak:af}{i b':Nat}{l:List Row}(hs:∀i o,ar Z i=some o->ar ak i=some o)(hi:Z.length<=i)(hn:n0<=i)(hg:ar ak i=some (.list (l.map pr)))(hb:b<=b')(hl:l.length<=b'):
  RD d n0 b' ks (fR aa k i) (up R k l) (sset ak d (.dict .int (cn (eg aa ks) (.int k) (.ref i)))):=by
 have hd:=bA _ _ _ h.dict
 have lt:∀k'∈ks,aa k'≠i:=λk' dE=>Nat.ne_of_lt (Nat.lt_of_lt_of_le (bA _ _ _ (h.at_ k' dE)) hi)
 refine⟨?_,λk' dE=> ?_,λk1 h1 k2 h2 e=> ?_,h.nd,λk' dE=> ?_,λk' dE=> ?_,h.nk,h.lk⟩
 ·rw[Nk aa k i hk h.nk];exact eN _ _ _ (bA _ _ _ (hs _ _ h.dict))
 ·by_cases e:k'=k
  ·rw[fR,if_pos e,up,if_pos e];exact(bO _ _ _ _ (Nat.ne_of_gt (Nat.lt_of_lt_of_le hd hi))).trans hg
  ·rw[fR,if_neg e,up,if_neg e];exact(bO _ _ _ _ (h.ne dE)).trans (hs _ _ (h.at_ _ dE))
 ·have e:(if k1=k then i else aa k1)=(if k2=k then i else aa k2):=e
  by_cases e1:k1=k<;>by_cases e2:k2=k
  ·exact e1.trans e2.symm
  ·rw[if_pos e1,if_neg e2] at e;exact absurd e.symm (lt _ h2)
  ·rw[if_neg e1,if_pos e2] at e;exact absurd e (lt _ h1)
  ·rw[if_neg e1,if_neg e2] at e;exact h.inj _ h1 _ h2 e
 ·by_cases e:k'=k
  ·rw[fR,if_pos e];exact hn
  ·rw[fR,if_neg e];exact h.nl _ dE
 ·by_cases e:k'=k
  ·rw[up,if_pos e];exact hl
  ·rw[up,if_neg e];exact bJ (h.ln _ dE) hb
variable{cf:Nat->List PV->af->aF PV}{gl:Nat->PV}{J:aD}{i:Nat}
theorem fits_of{α:Type}{l:List α}{b:Nat}(h:l.length<=b)(hb:b<=65536):aS l=true:=decide_eq_true (bJ h hb)
theorem RD.get(h:RD d n0 b ks aa R Z){k:Int}(hk:k∈ks):index (.ref d) (.int k) Z=some (.ref (aa k)):=(rg h.dict (y:=.int k) rfl).trans (ya aa k hk)
theorem RD.aq(h:RD d n0 b ks aa R Z)(hl:bD J i=some (.ref d)){k:Int}(hk:k∈ks):ai cf gl (.aq (.aa i) (.k (.int k))) J Z=some (.ok (.ref (aa k)),Z):=by
 show ay (FR.read Z (bD J i)) (λx Z=>ay (av (PV.int k) Z) λy Z=>FR.read Z (index x y Z))=_
 rw[hl]
 show FR.read Z (index (.ref d) (.int k) Z)=_
 rw[h.get hk];rfl
theorem RD.aS(h:RD d n0 b ks aa R Z)(hb:b<=60000){k:Int}(hk:k∈ks):aS ((R k).map pr)=true:=cx (bJ (h.ln k hk) (bJ hb (by decide)))
theorem RD.len(h:RD d n0 b ks aa R Z)(hb:b<=60000)(hl:bD J i=some (.ref d)){k:Int}(hk:k∈ks):ai cf gl (.aO .len (.aq (.aa i) (.k (.int k)))) J Z=some (.ok (.int (R k).length),Z):=
 aM (h.aq hl hk) (by rw[len_list (h.at_ k hk) (h.aS hb hk),List.length_map];rfl)
theorem RD.app(h:RD d n0 b ks aa R Z)(hb:b<=60000)(hl:bD J i=some (.ref d)){k:Int}(hk:k∈ks){e:ME}{r:Row}(he:ai cf gl e J Z=some (.ok (pr r),Z)):
  br cf gl (.expr (.aU (.aq (.aa i) (.k (.int k))) 2 (.cons e .nil))) J Z=some (.ok (.next,J),sset Z (aa k) (.list ((R k).map pr++[pr r]))):=by
 refine j8 (u:=.none) ?_
 show ay (ai cf gl (.aq (.aa i) (.k (.int k))) J Z) (λx Z=>aJ (dj 2 x Z) (ay (ay (ai cf gl e J Z) λv Z=>ay (av [] Z) λvs Z=>av (v::vs) Z) λvs Z=>gw cf x 2 vs Z))=_
 rw[h.aq hl hk]
 show aJ (dj 2 (.ref (aa k)) Z) (ay (ay (ai cf gl e J Z) λv Z=>ay (av [] Z) λvs Z=>av (v::vs) Z) λvs Z=>gw cf (.ref (aa k)) 2 vs Z)=_
 rw[tA (h.at_ k hk),he]
 show FR.lift (te (.ref (aa k)) (pr r) Z)=_
 rw[wm (h.at_ k hk) (h.aS hb hk)];rfl
theorem add_lists{Z:af}{i j:Nat}{l m:List PV}(g:ar Z i=some (.list l))(g2:ar Z j=some (.list m))(hf:FR.aS (l++m)=true):binop .add (.ref i) (.ref j) Z=some (.ref Z.length,Z++[.list (l++m)]):=by
 show aJ true (((ar Z i).bind c9).bind λx=>((ar Z j).bind c9).bind λy=>aJ (FR.aS (x++y)) (some (PV.ref Z.length,Z++[.list (x++y)])))=_
 rw[g,g2]
 show aJ (FR.aS (l++m)) _=_
 rw[hf];rfl
theorem RD.cat(h:RD d n0 b ks aa R Z)(hb:b<=60000)(hl:bD J i=some (.ref d)){k:Int}(hk:k∈ks){e:ME}{l:List Row}(TS:l.length<=2)(he:ai cf gl e J Z=some (.ok (.ref Z.length),Z++[.list (l.map pr)])):
  ∃bq ag,br cf gl (.b4 (.aa i) (.k (.int k)) (.bin .add (.aq (.aa i) (.k (.int k))) e)) J Z=some (.ok (.next,J),ag)/\RD d n0 (b+2) ks bq (up R k (R k++l)) ag/\Fr n0 Z ag:=by
 have hi:=h.aq (cf:=cf) (gl:=gl) hl hk
 have hd:=bJ h.nd (Nat.le_of_lt (bA _ _ _ h.dict))
 have h1:ar (Z++[.list (l.map pr)]) (aa k)=_:=bS Z [.list (l.map pr)] _ _ (h.at_ k hk)
 have hlen:(R k++l).length<=b+2:=by rw[List.length_append];exact Nat.add_le_add (h.ln k hk) TS
 have hf:FR.aS ((R k).map pr++l.map pr)=true:=by rw[<-List.map_append];exact cx (bJ hlen (bJ (Nat.add_le_add_right hb 2) (by decide)))
 have h2:ar (Z++[.list (l.map pr)]++[.list ((R k).map pr++l.map pr)]) d=_:=bS _ [.list ((R k).map pr++l.map pr)] _ _ (bS Z [.list (l.map pr)] _ _ h.dict)
 have Nl:FR.aS (eg aa ks)=true:=cx (bJ h.lk (by decide))
 have l1:Z.length<=(Z++[MO.list (l.map pr)]).length:=by rw[List.length_append];exact Nat.le_add_right _ _
 refine⟨_,_,?_,h.put (i:=(Z++[MO.list (l.map pr)]).length) (l:=R k++l) (b':=b+2) hk (ak:=Z++[.list (l.map pr)]++[.list ((R k).map pr++l.map pr)]) (λi o g=>bS _ _ _ _ (bS _ _ _ _ g)) l1 (bJ hd l1) ?_ (Nat.le_add_right _ _) hlen,?_⟩
 ·show ay (ay (ai cf gl (.aq (.aa i) (.k (.int k))) J Z) λx Z=>ay (ai cf gl e J Z) λy Z=>FR.lift (binop .add x y Z)) (λv Z=>ay (FR.read Z (bD J i)) λa Z=>ay (av (PV.int k) Z) λi Z=>FR.put J (setItem a i v Z))=_
  rw[hi]
  show ay (ay (ai cf gl e J Z) λy Z=>FR.lift (binop .add (.ref (aa k)) y Z)) (λv Z=>ay (FR.read Z (bD J i)) λa Z=>ay (av (PV.int k) Z) λi Z=>FR.put J (setItem a i v Z))=_
  rw[he]
  show ay (FR.lift (binop .add (.ref (aa k)) (.ref Z.length) (Z++[.list (l.map pr)]))) (λv Z=>ay (FR.read Z (bD J i)) λa Z=>ay (av (PV.int k) Z) λi Z=>FR.put J (setItem a i v Z))=_
  rw[add_lists h1 (bM _ _) hf,hl]
  show FR.put J (setItem (.ref d) (.int k) (.ref (Z++[MO.list (l.map pr)]).length) (Z++[.list (l.map pr)]++[.list ((R k).map pr++l.map pr)]))=_
  rw[nW h2 (y:=.int k) rfl Nl];rfl
 ·rw[List.map_append];exact bM _ _
 ·exact((Fr.app Z _ hd).trans (Fr.app _ _ (bJ hd l1))).trans (Fr.set _ _ h.nd)
end
theorem mn{body:aD->af->aF (Fl×aD)}{t:jh}{en:Bool}{src:Src}{l:List PV}{Inv:Nat->aD->af->Prop}
  (hs:∀k J Z,Inv k J Z->cC Z k src=some l[k]?)
  (hb:∀k x J Z,l[k]? =some x->Inv k J Z->∃du,fe t (wrap en k x) J=some du/\∃aY ag,body du Z=some (.ok (.next,aY),ag)/\Inv (k+1) aY ag):
  ∀(j k:Nat)(J:aD)(Z:af),k+j=l.length->Inv k J Z->∃aY ag,forL body t src en (j+1) k J Z=some (.ok (.next,aY),ag)/\Inv l.length aY ag
 |0,k,J,Z,e,hi=>by
  have e:k=l.length:=e
  exact⟨J,Z,qB (by rw[hs k J Z hi,List.getElem?_eq_none (Nat.le_of_eq e.symm)]),e▸hi⟩
 |j+1,k,J,Z,e,hi=>by
  have hx:=List.getElem?_eq_getElem (l:=l) (i:=k) (e▸Nat.lt_add_of_pos_right (Nat.succ_pos j))
  obtain ⟨du,e1,dP,bk,e2,TU⟩:=hb k _ J Z hx hi
  obtain ⟨aY,ag,e3,M1⟩:=mn hs hb j (k+1) dP bk ((Nat.succ_add_eq_add_succ k j).trans e) TU
  exact⟨aY,ag,(mI ((hs k J Z hi).trans (congrArg some hx)) e1 e2).trans e3,M1⟩
theorem mq{Z:af}{i k:Nat}{l:List PV}(h:ar Z i=some (.list l)):cC Z k (.live i)=some l[k]? :=(gz h).trans (congrArg some (nth_get? l k))
theorem Nn{Z:af}{k:Nat}{l:List PV}:cC Z k (.ah l)=some l[k]? :=congrArg some (nth_get? l k)
theorem aP{cf:Nat->List PV->af->aF PV}{gl:Nat->PV}{s:MS}{rest:bG}{J du:aD}{Z ak:af}{r:aF (Fl×aD)}(h:br cf gl s J Z=some (.ok (.next,du),ak))(hk:au cf gl rest du ak=r):au cf gl (.cons s rest) J Z=r:=(eX h).trans hk
noncomputable def Np(core:Int):List (Int×List Row):=[(0,[[0,2,1,0,0]]),
 (1,[[6,17,0],[6,18,0]]),
 (2,[[0,1,0,0,1,1],[1,2,0,5,1,1],[161,3,0,0,4,7],[2,2,0,5,5,8]]),
 (4,[[6,4,1],[32854,4,2],[6,5,1],[22,22,1],[6,4,1]]),
 (6,[[1,0,2054,6,5,1],[5,0,2054,7,4,1],[9,0,2054,8,4,3],[13,0,2054,9,4,4],[17,0,6161,10,3,5],[21,0,6,11,4,5],[0,0,1478,12,4,7],[0,4101,6,11,4,7]]),
 (8,[[0,0,0],[0,1,19],[0,1,19],[0,1,0],[0,1,19],[0,2,18]]),
 (9,[[2,12]]),
 (10,[[9,10,4]]),
 (11,[[8,8,8]]),
 (17,[[8]]),
 (18,[[2,1]]),
 (20,[[0,14,5]]),
 (21,[[2,1]]),
 (23,[[0,13,6],[0,13,7]]),
 (24,[[2,1,3],[1,2,3],[8,3,2],[16,4,2]]),
 (25,[[2,2,3]]),
 (27,[[8]]),
 (32,[[0,0,0,0,0,0,0,2+21*core,0]]),
 (35,[[0,0,0,0,0,0,18,0,0]]),
 (41,[[4,2]]),
 (42,[[0,1,6,15],[0,0,13,15],[1,0,13,16]]),
 (43,[[12,8]]),
 (44,[[2,5]])]
noncomputable def R0(core:Int)(t:Int):List Row:=look [] (Np core) t
structure E where
 nm:Int
 sp:Int
 ex:Int
 f:Nat
 m:Nat
noncomputable def gZ:Nat->List Row
 |0=>[]
 |1=>[[6,4,1]]
 |_=>[[6,4,1],[6,5,1]]
noncomputable def hG:Nat->List Row
 |0=>[]
 |1=>[[25,0,6,11,4,7]]
 |_=>[[25,0,6,11,4,7],[26,0,6,11,5,7]]
noncomputable def len(R:Int->List Row)(t:Int):Int:=((R t).length:Int)
noncomputable def oU(R:Int->List Row)(e:E):Int->List Row:=
 up (up (up R 2 (R 2++[[1,e.nm,e.sp,e.ex,len R 4+1,len R 6+1]])) 4 (R 4++gZ e.f)) 6 (R 6++hG e.m)
noncomputable def cc(core:Int)(rr:Nat)(x:Int):E:=
 let sp:Int:=if rr=2\/(x.fdiv 36).fmod 2=1 then 19 else 0
 let c:Bool:=decide (rr=0)&&decide ((x.fdiv 9).fmod 2=1)
 let ex:Int:=if (x.fdiv 18).fmod 2=1 then 8 else 5
 ⟨if c then 17 else cl [20,21,2] rr,sp,if c&&(decide (core=1)&&decide (sp=0)) then 0 else ex,(x.fmod 3).toNat,((x.fdiv 3).fmod 3).toNat⟩
noncomputable def fC(core:Int):Nat->List Int->(Int->List Row)->(Int->List Row)
 |_,[],R=>R
 |k,x::xs,R=>fC core (k+1) xs (oU R (cc core k x))
noncomputable def tail3(R:Int->List Row):Int->List Row:=
 up (up (up R 9 (R 9++[[len R 2,len R 2*4]])) 43 (R 43++[[len R 6*2,8]])) 44 (R 44++[[3,len R 2*4]])
noncomputable def Ck(cf:Nat->List PV->af->aF PV)(J:aD):bZ->List (List Row)->Prop
 |.nil,[]=>True
 |.cons e r,l::ls=>(∀Z,ai cf ae e J Z=some (.ok (.ref Z.length),Z++[.list (l.map pr)]))/\Ck cf J r ls
 |_,_=>False
noncomputable def refs(n:Nat):Nat->Nat->List PV
 |_,0=>[]
 |i,k+1=>.ref (n+i)::refs n (i+1) k
theorem GP{cf:Nat->List PV->af->aF PV}{J:aD}(ls:List (List Row)):∀(es:bZ)(Z:af)(x:af),Ck cf J es ls->
  bw cf ae es J (Z++x)=some (.ok (refs Z.length x.length ls.length),Z++(x++ls.map λl=>.list (l.map pr))):=by
 induction ls with
 |nil=>
  intro es Z x h
  cases es with
  |nil=>rw[List.map_nil,List.append_nil];rfl
  |cons _ _=>exact h.elim
 |cons l ls ih=>
  intro es Z x h
  cases es with
  |nil=>exact h.elim
  |cons e r=>
   have ih:=ih r Z (x++[.list (l.map pr)]) h.2
   rw[<-List.append_assoc] at ih
   refine aM (h.1 _) (aM ih ?_)
   rw[List.length_append,List.length_append,List.append_assoc]
   rfl
theorem GQ(Z x:af)(i:Nat):ar (Z++x) (Z.length+i)=ar x i:=by
 induction Z with
 |nil=>rw[List.nil_append,List.length_nil,Nat.zero_add]
 |cons o Z ih=>rw[List.length_cons,Nat.succ_add];exact ih
noncomputable def Cn(core:Int):List (List Row):=aL.map (R0 core)
theorem J0(cf:Nat->List PV->af->aF PV)(core:Int)(r:aD):Ck cf (some (.int core)::r) lN (Cn core):=by
 unfold lN
 repeat' first
  |exact a_
  |refine⟨λO=>rfl,?_⟩
theorem yb(f:Int->MO){k:Int}:∀{ks:List Int},k∈ks->ar (ks.map f) (ks.idxOf k)=some (f k)
 |[],h=>absurd h List.not_mem_nil
 |x::ks,h=>by
  rw[List.idxOf_cons]
  by_cases e:x=k
  ·rw[e,beq_self_eq_true];rfl
  ·rw[beq_false_of_ne e]
   exact yb f ((List.mem_cons.mp h).resolve_left λh=>e h.symm)
theorem J1(cf:Nat->List PV->af->aF PV)(core:Int)(r:aD)(Z:af):
  ∃aa ag,br cf ae (.aK 2 (.kN [0,1,2,4,6,8,9,10,11,17,18,20,21,23,24,25,27,32,35,41,42,43,44] lN)) (some (.int core)::r) Z=some (.ok (.next,cU (some (.int core)::r) 2 (.ref (Z.length+23))),ag)/\
   RD (Z.length+23) Z.length 10 aL aa (R0 core) ag/\Fr Z.length Z ag:=by
 have h:=GP (Cn core) lN Z [] (J0 cf core r)
 rw[List.append_nil] at h
 have hr:(Cn core).map (λ(l:List Row)=>MO.list (l.map pr))=aL.map λk=>MO.list ((R0 core k).map pr):=List.map_map
 rw[hr,List.nil_append] at h
 have at_:∀{k},k∈aL->ar (Z++aL.map λk=>MO.list ((R0 core k).map pr)) (Z.length+aL.idxOf k)=some (.list ((R0 core k).map pr)):=λhk=>(GQ _ _ _).trans (yb _ hk)
 have hl:(Z++aL.map λk=>MO.list ((R0 core k).map pr)).length=Z.length+23:=by rw[List.length_append];rfl
 refine⟨λk=>Z.length+aL.idxOf k,(Z++aL.map λk=>MO.list ((R0 core k).map pr))++[.dict .int (eg (λk=>Z.length+aL.idxOf k) aL)],?_,⟨?_,λk hk=>bS _ _ _ _ (at_ hk),λk hk k' dE e=> ?_,Nat.le_add_right _ _,λO O=>Nat.le_add_right _ _,λk hk=> ?_,by decide,by decide⟩,(Fr.app Z _ (Nat.le_refl _)).trans (Fr.app _ _ (hl▸Nat.le_add_right _ _))⟩
 ·have e1:iV aL=true:=by decide+kernel
  refine dX ((Fe (ks:=aL) h e1 rfl).trans ?_)
  rw[hl]
  rfl
 ·rw[<-hl];exact bM _ _
 ·have key:∀k∈aL,∀k'∈aL,aL.idxOf k=aL.idxOf k'->k=k':=by decide
  exact key k hk k' dE (Nat.add_left_cancel e)
 ·have key:(aL.all λk=>decide ((R0 core k).length<=10))=true:=rfl
  exact bV (List.all_eq_true.mp key k hk)
theorem TV(R:Int->List Row)(t k:Int)(l:List Row)(h:k≠t):(up R t l) k=R k:=if_neg h
theorem Vy{k:Int}(h:k=2\/k=4\/k=6\/k=9\/k=43\/k=44\/k=32):k∈aL:=by rcases h with h | h | h | h | h | h | h<;>subst h<;>decide
theorem vL(x:Int):x.fmod 2=0\/x.fmod 2=1:=by
 have h1:0<=x.fmod 2:=Int.fmod_nonneg_of_pos _ (by decide)
 have h2:x.fmod 2<2:=Int.fmod_lt_of_pos _ (by decide)
 omega
theorem Co(x:Int):x.fmod 3=0\/x.fmod 3=1\/x.fmod 3=2:=by
 have h1:0<=x.fmod 3:=Int.fmod_nonneg_of_pos _ (by decide)
 have h2:x.fmod 3<3:=Int.fmod_lt_of_pos _ (by decide)
 omega
section
variable(cf:Nat->List PV->af->aF PV)
theorem TX(a b c p q r s t:Option PV)(k:Nat)(hk:k<3)(x:Int)(Z:af):
  br cf ae (.ba (.or (.cons (.cmp .eq (.aa 3) (.k (.int 2))) (.cons (.cmp .eq (.bin .mod (.bin .fdiv (.aa 4) (.k (.int 36))) (.k (.int 2))) (.k (.int 1))) .nil)))
 (.cons (.aK 8 (.k (.int 19)))
 .nil)
 .nil) [a,b,c,some (.int k),some (.int x),p,q,r,some (.int 0),t] Z=
   some (.ok (.next,[a,b,c,some (.int k),some (.int x),p,q,r,some (.int (cc 0 k x).sp),t]),Z):=by
 have hX:(decide ((k:Int)=2)||decide ((x.fdiv 36).fmod 2=1))=decide (k=2\/(x.fdiv 36).fmod 2=1):=by rw[Bool.decide_or,show decide ((k:Int)=2)=decide (k=2) from decide_eq_decide.mpr (Int.ofNat_inj (n:=2))]
 refine(fU (x7 (x:=decide ((k:Int)=2)) (y:=decide ((x.fdiv 36).fmod 2=1)) rfl (Eu rfl))).trans ?_
 rw[hX]
 by_cases c:k=2\/(x.fdiv 36).fmod 2=1
 ·rw[decide_eq_true c,show (cc 0 k x).sp=19 from if_pos c];rfl
 ·rw[decide_eq_false c,show (cc 0 k x).sp=0 from if_neg c];rfl
theorem TY(a b c s p q r t u:Option PV)(x:Int)(Z:af):
  br cf ae (.aK 9 (.aq (.ah (.cons (.k (.int 5)) (.cons (.k (.int 8)) .nil))) (.bin .mod (.bin .fdiv (.aa 4) (.k (.int 18))) (.k (.int 2))))) [a,b,c,s,some (.int x),p,q,r,t,u] Z=
   some (.ok (.next,[a,b,c,s,some (.int x),p,q,r,t,some (.int (if (x.fdiv 18).fmod 2=1 then 8 else 5))]),Z):=by
 refine dX (bR (x:=.ah [.int 5,.int 8]) (y:=.int ((x.fdiv 18).fmod 2)) rfl rfl ?_)
 rcases vL (x.fdiv 18) with e | e<;>rw[e]<;>rfl
theorem TZ(core:Int)(b c p q s9:Option PV)(k:Nat)(hk:k<3)(x:Int)(hs:s9=some (.int (if (x.fdiv 18).fmod 2=1 then 8 else 5)))(Z:af):
  br cf ae (.ba (.and (.cons (.cmp .eq (.aa 3) (.k (.int 0))) (.cons (.cmp .eq (.bin .mod (.bin .fdiv (.aa 4) (.k (.int 9))) (.k (.int 2))) (.k (.int 1))) .nil)))
 (.cons (.aK 7 (.k (.int 17)))
 (.cons (.ba (.and (.cons (.cmp .eq (.aa 0) (.k (.int 1))) (.cons (.cmp .eq (.aa 8) (.k (.int 0))) .nil)))
 (.cons (.aK 9 (.k (.int 0)))
 .nil)
 .nil)
 .nil))
 .nil) [some (.int core),b,c,some (.int k),some (.int x),p,q,some (.int (cl [20,21,2] k)),some (.int (cc 0 k x).sp),s9] Z=
   some (.ok (.next,[some (.int core),b,c,some (.int k),some (.int x),p,q,some (.int (cc core k x).nm),some (.int (cc core k x).sp),some (.int (cc core k x).ex)]),Z):=by
 have h0:decide ((k:Int)=0)=decide (k=0):=decide_eq_decide.mpr (Int.ofNat_inj (n:=0))
 have T1:(cc 0 k x).sp=(cc core k x).sp:=rfl
 rw[T1]
 have T3:(cc core k x).nm=if (decide (k=0)&&decide ((x.fdiv 9).fmod 2=1)) then 17 else cl [20,21,2] k:=rfl
 have hex:(cc core k x).ex=if (decide (k=0)&&decide ((x.fdiv 9).fmod 2=1))&&(decide (core=1)&&decide ((cc core k x).sp=0)) then 0 else (if (x.fdiv 18).fmod 2=1 then 8 else 5):=rfl
 rw[T3,hex,hs,<-h0]
 generalize (cc core k x).sp=sp
 generalize (if (x.fdiv 18).fmod 2=1 then (8:Int) else 5)=ex
 generalize cl [20,21,2] k=T4
 refine(fU (lR (x:=decide ((k:Int)=0)) (y:=decide ((x.fdiv 9).fmod 2=1)) rfl (o9 rfl))).trans ?_
 cases (decide ((k:Int)=0)&&decide ((x.fdiv 9).fmod 2=1)) with
 |false=>rfl
 |true=>
  have e3:br cf ae (.aK 7 (.k (.int 17))) [some (.int core),b,c,some (.int k),some (.int x),p,q,some (.int T4),some (.int sp),some (.int ex)] Z=some (.ok (.next,[some (.int core),b,c,some (.int k),some (.int x),p,q,some (.int 17),some (.int sp),some (.int ex)]),Z):=rfl
  refine(eX e3).trans ?_
  have e2:=lR (cf:=cf) (gl:=ae) (Z:=Z) (J:=[some (.int core),b,c,some (.int k),some (.int x),p,q,some (.int 17),some (.int sp),some (.int ex)]) (a:=.cmp .eq (.aa 0) (.k (.int 1))) (b:=.cmp .eq (.aa 8) (.k (.int 0))) (r:=.nil) (x:=decide (core=1)) (y:=decide (sp=0)) rfl (o9 rfl)
  refine iX ((fU e2).trans ?_)
  cases (decide (core=1)&&decide (sp=0))<;>rfl
theorem T5(a b c s p q r t u:Option PV)(x:Int)(Z:af):
  ai cf ae (.comp (.ah (.cons (.k (.int 6)) (.cons (.bin .add (.k (.int 4)) (.aa 0)) (.cons (.k (.int 1)) .nil)))) (.gP (.bin .mod (.aa 4) (.k (.int 3)))) .no) [a,b,c,s,some (.int x),p,q,r,t,u] Z=some (.ok (.ref Z.length),Z++[.list ((gZ (x.fmod 3).toNat).map pr)]):=by
 have hm:ai cf ae (.bin .mod (.aa 4) (.k (.int 3))) [a,b,c,s,some (.int x),p,q,r,t,u] Z=some (.ok (.int (x.fmod 3)),Z):=rfl
 rcases Co x with e | e | e<;>rw[e] at hm⊢ <;>exact lQ (rP hm rfl) rfl
theorem RM(a b c s p q r t u:Option PV)(x:Int)(Z:af):
  ai cf ae (.comp (.ah (.cons (.bin .add (.k (.int 25)) (.aa 0)) (.cons (.k (.int 0)) (.cons (.k (.int 6)) (.cons (.k (.int 11)) (.cons (.bin .add (.k (.int 4)) (.aa 0)) (.cons (.k (.int 7)) .nil))))))) (.gP (.bin .mod (.bin .fdiv (.aa 4) (.k (.int 3))) (.k (.int 3)))) .no) [a,b,c,s,some (.int x),p,q,r,t,u] Z=some (.ok (.ref Z.length),Z++[.list ((hG ((x.fdiv 3).fmod 3).toNat).map pr)]):=by
 have hm:ai cf ae (.bin .mod (.bin .fdiv (.aa 4) (.k (.int 3))) (.k (.int 3))) [a,b,c,s,some (.int x),p,q,r,t,u] Z=some (.ok (.int ((x.fdiv 3).fmod 3)),Z):=rfl
 rcases Co (x.fdiv 3) with e | e | e<;>rw[e] at hm⊢ <;>exact lQ (rP hm rfl) rfl
end
section
variable(cf:Nat->List PV->af->aF PV)
theorem cQ{R:Int->List Row}{t k:Int}{l:List Row}(h:k≠t):up R t l k=R k:=if_neg h
theorem up_eq{R:Int->List Row}{t:Int}{l:List Row}:up R t l t=l:=if_pos rfl
theorem tZ{cf:Nat->List PV->af->aF PV}{J:aD}{Z:af}{a b:ME}{x y:Int}(ha:ai cf ae a J Z=some (.ok (.int x),Z))(hb:ai cf ae b J Z=some (.ok (.int y),Z)):
  ai cf ae (.ah (.cons a (.cons b .nil))) J Z=some (.ok (pr [x,y]),Z):=by
 exact aM (v:=[.int x,.int y]) (aM ha (aM (v:=[.int y]) (aM hb rfl) rfl)) rfl
theorem yc{cf:Nat->List PV->af->aF PV}{J:aD}{Z:af}{a:ME}{x c:Int}(ha:ai cf ae a J Z=some (.ok (.int x),Z))(hs:small x=true):
  ai cf ae (.bin .mul a (.k (.int c))) J Z=some (.ok (.int (x*c)),Z):=by
 exact df ha rfl (congrArg (λq=>aJ q (some (x*c))) hs)
theorem uP(n:Nat):(gZ n).length<=2:=by rcases n with _ | _ | n<;>exact Nat.le_of_ble_eq_true rfl
theorem uQ(n:Nat):(hG n).length<=2:=by rcases n with _ | _ | n<;>exact Nat.le_of_ble_eq_true rfl
theorem T6(k:Nat)(hk:k<3)(P:Int)(hP:P=k)(Z:af):index (.ah [.int 20,.int 21,.int 2]) (.int P) Z=some (.int (cl [20,21,2] k)):=by
 subst hP
 rcases k with _ | _ | _ | k
 ·rfl
 ·rfl
 ·rfl
 ·exact absurd hk (Nat.not_lt.mpr (Nat.le_add_left 3 k))
theorem RN(a b c p q r s t:Option PV)(k:Nat)(hk:k<3)(P:Int)(hP:P=k)(x:Int)(Z:af):
  br cf ae (.ba (.or (.cons (.cmp .eq (.aa 3) (.k (.int 2))) (.cons (.cmp .eq (.bin .mod (.bin .fdiv (.aa 4) (.k (.int 36))) (.k (.int 2))) (.k (.int 1))) .nil)))
 (.cons (.aK 8 (.k (.int 19)))
 .nil)
 .nil) [a,b,c,some (.int P),some (.int x),p,q,r,some (.int 0),t] Z=
   some (.ok (.next,[a,b,c,some (.int P),some (.int x),p,q,r,some (.int (cc 0 k x).sp),t]),Z):=by subst hP;exact TX cf a b c p q r s t k hk x Z
theorem RO(core:Int)(b c p q s9:Option PV)(k:Nat)(hk:k<3)(P:Int)(hP:P=k)(x:Int)(hs:s9=some (.int (if (x.fdiv 18).fmod 2=1 then 8 else 5)))(Z:af):
  br cf ae (.ba (.and (.cons (.cmp .eq (.aa 3) (.k (.int 0))) (.cons (.cmp .eq (.bin .mod (.bin .fdiv (.aa 4) (.k (.int 9))) (.k (.int 2))) (.k (.int 1))) .nil)))
 (.cons (.aK 7 (.k (.int 17)))
 (.cons (.ba (.and (.cons (.cmp .eq (.aa 0) (.k (.int 1))) (.cons (.cmp .eq (.aa 8) (.k (.int 0))) .nil)))
 (.cons (.aK 9 (.k (.int 0)))
 .nil)
 .nil)
 .nil))
 .nil) [some (.int core),b,c,some (.int P),some (.int x),p,q,some (.int (cl [20,21,2] k)),some (.int (cc 0 k x).sp),s9] Z=
   some (.ok (.next,[some (.int core),b,c,some (.int P),some (.int x),p,q,some (.int (cc core k x).nm),some (.int (cc core k x).sp),some (.int (cc core k x).ex)]),Z):=by subst hP;exact TZ cf core b c p q s9 k hk x hs Z
noncomputable def rt(core:Int)(e d:Nat)(v:Nat->Option PV):aD:=[some (.int core),some (.ref e),some (.ref d),v 0,v 1,v 2,v 3,v 4,v 5,v 6]
noncomputable def EH(l:aD)(i:Nat):Option PV:=l.getD i none
theorem J2{d n0 b e:Nat}{aa:Int->Nat}{R:Int->List Row}{Z:af}(core:Int)(h:RD d n0 b aL aa R Z)(hb:b<=50000)(k:Nat)(hk:k<3)(P:Int)(hP:P=k)(x:Int)(p q r s t:Option PV):
  ∃v ag,au cf ae rH [some (.int core),some (.ref e),some (.ref d),some (.int P),some (.int x),p,q,r,s,t] Z=some (.ok (.next,rt core e d v),ag)/\
   (∃bq,RD d n0 (b+5) aL bq (oU R (cc core k x)) ag)/\Fr n0 Z ag:=by
 have H3:b+1<=60000:=bJ (Nat.add_le_add_right hb 1) (by decide)
 have T7:b+1+2<=60000:=bJ (Nat.add_le_add_right hb 3) (by decide)
 have Nq:b<=60000:=Nat.le_of_succ_le H3
 have h1:=h.push (k:=2) (by decide) [1,(cc core k x).nm,(cc core k x).sp,(cc core k x).ex,len R 4+1,len R 6+1]
 have Qb:=Fr.set (n:=n0) Z (.list ((R 2).map pr++[pr [1,(cc core k x).nm,(cc core k x).sp,(cc core k x).ex,len R 4+1,len R 6+1]])) (h.nl 2 (by decide))
 obtain ⟨eU,bk,e2,h2,Qc⟩:=h1.cat (cf:=cf) (gl:=ae) (i:=2) (k:=4) (J:=[some (.int core),some (.ref e),some (.ref d),some (.int P),some (.int x),some (.int (len R 4+1)),some (.int (len R 6+1)),some (.int (cc core k x).nm),some (.int (cc core k x).sp),some (.int (cc core k x).ex)]) H3 rfl (by decide) (uP _) (T5 cf _ _ _ _ _ _ _ _ _ x _)
 obtain ⟨RP,l9,e3,h3,Qd⟩:=h2.cat (cf:=cf) (gl:=ae) (i:=2) (k:=6) (J:=[some (.int core),some (.ref e),some (.ref d),some (.int P),some (.int x),some (.int (len R 4+1)),some (.int (len R 6+1)),some (.int (cc core k x).nm),some (.int (cc core k x).sp),some (.int (cc core k x).ex)]) T7 rfl (by decide) (uQ _) (RM cf _ _ _ _ _ _ _ _ _ x _)
 refine⟨EH [some (.int P),some (.int x),some (.int (len R 4+1)),some (.int (len R 6+1)),some (.int (cc core k x).nm),some (.int (cc core k x).sp),some (.int (cc core k x).ex)],l9,?_,⟨RP,?_⟩,(Qb.trans Qc).trans Qd⟩
 ·clear h1 h2 h3 Qb Qc Qd
  refine aP (dX (df (h.len Nq rfl (by decide)) rfl rfl)) (aP (dX (df (h.len Nq rfl (by decide)) rfl rfl)) ?_)
  refine aP (dX (bR (x:=.ah [.int 20,.int 21,.int 2]) (y:=.int P) rfl rfl (T6 k hk P hP Z))) (aP (dX (u:=.int 0) (ak:=Z) rfl) ?_)
  refine aP (RN cf _ _ _ _ _ _ none _ k hk P hP x Z) (aP (TY cf _ _ _ _ _ _ _ _ _ x Z) (aP (RO cf core _ _ _ _ _ k hk P hP x rfl Z) ?_))
  exact aP (h.app Nq rfl (by decide) (r:=[1,(cc core k x).nm,(cc core k x).sp,(cc core k x).ex,len R 4+1,len R 6+1]) rfl) (aP e2 (aP e3 rfl))
 ·rw[cQ (R:=R) (t:=2) (k:=4) (by decide),cQ (t:=4) (k:=6) (by decide),cQ (R:=R) (t:=2) (k:=6) (by decide)] at h3
  exact h3
theorem zB(core:Int)(x:Int)(xs:List Int):∀(j:Nat)(R:Int->List Row),fC core j (xs++[x]) R=oU (fC core j xs R) (cc core (j+xs.length) x):=by
 induction xs with
 |nil=>exact λO O=>rfl
 |cons y xs ih=>exact λj R=>(ih (j+1) (oU R (cc core j y))).trans (by rw[List.length_cons,Nat.succ_add_eq_add_succ];rfl)
theorem J3{d n0 e:Nat}{aa:Int->Nat}{Z:af}(core:Int)(xs:List Int)(hx:xs.length<=3)(R:Int->List Row)(h:RD d n0 10 aL aa R Z)(he:e<n0)(hs:ar Z e=some (.list (xs.map .int)))(v:Nat->Option PV):
  ∃v' ag,br cf ae (.bt (.many [3,4]) (.enum (.aa 1)) rH) (rt core e d v) Z=some (.ok (.next,rt core e d v'),ag)/\(∃bq,RD d n0 25 aL bq (fC core 0 xs R) ag)/\Fr n0 Z ag:=by
 have hf:=mn (body:=au cf ae rH) (t:=.many [3,4]) (en:=true) (src:=.live e) (l:=xs.map .int)
  (Inv:=λk J ag=>(∃bq,RD d n0 (10+5*k) aL bq (fC core 0 (xs.take k) R) ag)/\Fr n0 Z ag/\∃v,J=rt core e d v)
  (λk J ag hi=>mq (hi.2.1.get hs he)) ?_ xs.length 0 (rt core e d v) Z ((Nat.zero_add _).trans (List.length_map _).symm) ⟨⟨aa,by rw[List.take_zero];exact h⟩,Fr.refl _ _,v,rfl⟩
 ·obtain ⟨aY,ag,e1,⟨bq,h1⟩,h2,v',rfl⟩:=hf
  rw[List.length_map,List.take_length] at h1
  refine⟨v',ag,(jX (Ff (v:=.ref e) rfl (gk hs))).trans ?_,⟨bq,h1.mono (Nat.add_le_add_left (Nat.mul_le_mul_left 5 hx) 10)⟩,h2⟩
  rw[fD hs,List.length_map]
  exact e1
 ·intro k x J ak Qe hi
  obtain ⟨⟨fJ,hr⟩,fr,v,rfl⟩:=hi
  rw[List.getElem?_map] at Qe
  obtain ⟨y,hy,rfl⟩:=Option.map_eq_some_iff.mp Qe
  have dv:=(List.getElem?_eq_some_iff.mp hy).1
  have Qf:=Nat.lt_of_lt_of_le dv hx
  refine⟨_,rfl,?_⟩
  obtain ⟨v',ag,e1,⟨bq,h1⟩,h2⟩:=J2 cf (e:=e) core hr (bJ (Nat.add_le_add_left (Nat.mul_le_mul_left 5 (Nat.le_of_lt Qf)) 10) (by decide)) k Qf k rfl y (v 2) (v 3) (v 4) (v 5) (v 6)
  refine⟨_,ag,e1,⟨bq,?_⟩,fr.trans h2,v',rfl⟩
  rw[List.take_add_one,hy,Option.toList_some,zB,List.length_take,Nat.zero_add,Nat.min_eq_left (Nat.le_of_lt dv)]
  exact h1
noncomputable def dg(core:Int)(xs:List Int):Int->List Row:=if xs=[] then fC core 0 xs (R0 core) else tail3 (fC core 0 xs (R0 core))
theorem J4{d n0 e:Nat}{aa:Int->Nat}{R:Int->List Row}{Z:af}{core:Int}(v:Nat->Option PV)(h2:RD d n0 25 aL aa R Z):∃eV,au cf ae (.cons (.expr (.aU (.aq (.aa 2) (.k (.int 9))) 2 (.cons (.ah (.cons (.aO .len (.aq (.aa 2) (.k (.int 2)))) (.cons (.bin .mul (.aO .len (.aq (.aa 2) (.k (.int 2)))) (.k (.int 4))) .nil))) .nil)))
 (.cons (.expr (.aU (.aq (.aa 2) (.k (.int 43))) 2 (.cons (.ah (.cons (.bin .mul (.aO .len (.aq (.aa 2) (.k (.int 6)))) (.k (.int 2))) (.cons (.k (.int 8)) .nil))) .nil)))
 (.cons (.expr (.aU (.aq (.aa 2) (.k (.int 44))) 2 (.cons (.ah (.cons (.k (.int 3)) (.cons (.bin .mul (.aO .len (.aq (.aa 2) (.k (.int 2)))) (.k (.int 4))) .nil))) .nil)))
 .nil))) (rt core e d v) Z=some (.ok (.next,rt core e d v),eV)/\RD d n0 30 aL aa (tail3 R) eV/\Fr n0 Z eV:=by
 have sm:∀t∈aL,small (len R t)=true:=λt ht=>dM (Int.le_trans (by decide) (Int.natCast_nonneg _)) (Int.le_trans (Int.ofNat_le.mpr (h2.ln t ht)) (by decide))
 have h3:=h2.push (k:=9) (by decide) [len R 2,len R 2*4]
 have h4:=h3.push (k:=43) (by decide) [len R 6*2,8]
 have h5:=h4.push (k:=44) (by decide) [3,len R 2*4]
 refine⟨_,aP (h2.app (by decide) rfl (by decide) (r:=[len R 2,len R 2*4]) (tZ (h2.len (by decide) rfl (by decide)) (yc (h2.len (by decide) rfl (by decide)) (sm 2 (by decide)))))
  (aP (h3.app (by decide) rfl (by decide) (r:=[len R 6*2,8]) (tZ (yc (h3.len (by decide) rfl (by decide)) (sm 6 (by decide))) rfl))
  (aP (h4.app (by decide) rfl (by decide) (r:=[3,len R 2*4]) (tZ rfl (yc (h4.len (by decide) rfl (by decide)) (sm 2 (by decide))))) rfl)),?_,((Fr.set _ _ (h2.nl 9 (by decide))).trans (Fr.set _ _ (h3.nl 43 (by decide)))).trans (Fr.set _ _ (h4.nl 44 (by decide)))⟩
 have Qg:=h5.mono (show 25+1+1+1<=30 by decide)
 rw[cQ (R:=R) (t:=9) (k:=43) (by decide),cQ (t:=43) (k:=44) (by decide),cQ (R:=R) (t:=9) (k:=44) (by decide)] at Qg
 exact Qg
theorem EI(core:Int)(xs:List Int)(hx:xs.length<=3)(e:Nat)(Z:af)(hs:ar Z e=some (.list (xs.map .int))):
  ∃J ag d aa,au cf ae pX.body [some (.int core),some (.ref e),none,none,none,none,none,none,none,none] Z=some (.ok (.ret (.ref d),J),ag)/\RD d Z.length 30 aL aa (dg core xs) ag/\Fr Z.length Z ag:=by
 obtain ⟨aa,ak,e1,h1,f1⟩:=J1 cf core (some (.ref e)::List.replicate 8 none) Z
 have he:=bA _ _ _ hs
 obtain ⟨v2,bk,e2,⟨eU,h2⟩,f2⟩:=J3 cf (e:=e) core xs hx (R0 core) h1 he (f1.get hs he) λO=>none
 have T8:=f2.get (f1.get hs he) he
 have ht:=zM T8 (cx (bJ hx (by decide)))
 by_cases hz:xs=[]
 ·subst hz
  exact⟨_,bk,_,eU,aP e1 (aP e2 (aP ((fU (u:=.ref e) (ak:=bk) rfl).trans (by rw[ht];rfl)) (y_ret rfl))),by rw[dg,if_pos rfl];exact h2.mono (by decide),f1.trans f2⟩
 ·obtain ⟨eV,e5,h5,f5⟩:=J4 cf (e:=e) (core:=core) v2 h2
  have hb:(!(xs.map PV.int).isEmpty)=true:=by
   cases xs with
   |nil=>exact absurd rfl hz
   |cons y ys=>rfl
  rw[hb] at ht
  exact⟨_,eV,_,eU,aP e1 (aP e2 (aP ((fU (u:=.ref e) (ak:=bk) rfl).trans (by rw[ht];exact e5)) (y_ret rfl))),by rw[dg,if_neg hz];exact h5,(f1.trans f2).trans f5⟩
end
theorem GR(n:Nat)(core:Int)(xs:List Int)(hx:xs.length<=3)(e:Nat)(Z:af)(hs:ar Z e=some (.list (xs.map .int))):
  ∃ag d aa,ax aj ae (n+1) 37 [.int core,.ref e] Z=some (.ok (.ref d),ag)/\RD d Z.length 30 aL aa (dg core xs) ag/\Fr Z.length Z ag:=by
 obtain ⟨J,ag,d,aa,h,r⟩:=EI (ax aj ae n) core xs hx e Z hs
 exact⟨ag,d,aa,bN rfl rfl h,r⟩
noncomputable def Qh(R:Int->List Row):Ev->Int
 |.i x=>x
 |.T=>len R 2+1
 |.M=>len R 6+1
 |.r _=>0
noncomputable def O4:Ev->Row
 |.r row=>row
 |_=>[]
noncomputable def setAt(p:Nat)(v:Int)(r:Row):Row:=r.take p++[v]++r.drop (p+1)
noncomputable def oV(R:Int->List Row)(e:Ed):List Row:=
 if e.p= -1 then R e.t++[O4 e.v]
 else if e.p= -2 then (R e.t).take ((R e.t).length-1)
 else (R e.t).take (e.row-1).toNat++[setAt e.p.toNat (Qh R e.v) ((R e.t).getD (e.row-1).toNat [])]++(R e.t).drop e.row.toNat
noncomputable def eI(R:Int->List Row)(e:Ed):Int->List Row:=up R e.t (oV R e)
noncomputable def t7(R:Int->List Row)(e:Ed):Bool:=
 decide (e.t∈aL)&&(match e.v with
 |.r _=>decide (e.p= -1)
 |_=>decide (e.p= -2)||(decide (0<=e.p)&&(decide (e.p<((R e.t).getD (e.row-1).toNat []).length)&&(decide (1<=e.row)&&decide (e.row<=len R e.t)))))
theorem Ig{R:Int->List Row}{e:Ed}(he:t7 R e=true):e.t∈aL:=bV (b_ he).1
theorem yd{R:Int->List Row}{t row p:Int}{v:Ev}{P:Prop}(he:t7 R ⟨t,row,p,v⟩=true)(A:∀r,v=.r r->p= -1->P)(B:p= -2->P)
  (C:(∀r,v≠ .r r)->0<=p->p<((R t).getD (row-1).toNat []).length->1<=row->row<=len R t->P):P:=by
 have he:=(b_ he).2
 have go:(∀r,v≠ .r r)->(decide (p= -2)||(decide (0<=p)&&(decide (p<((R t).getD (row-1).toNat []).length)&&(decide (1<=row)&&decide (row<=len R t)))))=true->P:=λhv q=>(Bool.or_eq_true_iff.mp q).elim (λh=>B (bV h)) λq=>
  C hv (bV (b_ q).1) (bV (b_ (b_ q).2).1) (bV (b_ (b_ (b_ q).2).2).1) (bV (b_ (b_ (b_ q).2).2).2)
 cases v with
 |r r=>exact A r rfl (bV he)
 |i x=>exact go (λO h=>Ev.noConfusion h) he
 |T=>exact go (λO h=>Ev.noConfusion h) he
 |M=>exact go (λO h=>Ev.noConfusion h) he
section
variable{cf:Nat->List PV->af->aF PV}{J:aD}{Z ak bk:af}
theorem EJ{X iP:ME}{a b:Nat}{x y:List PV}(h1:ai cf ae X J Z=some (.ok (.ref a),ak))(h2:ai cf ae iP J ak=some (.ok (.ref b),bk))(ga:ar bk a=some (.list x))(gb:ar bk b=some (.list y))(hf:aS (x++y)=true):
  ai cf ae (.bin .add X iP) J Z=some (.ok (.ref bk.length),bk++[.list (x++y)]):=aM h1 (aM h2 (congrArg FR.lift (add_lists ga gb hf)))
theorem Nr{v:PV}{l:List PV}{u w:Option PV}{i j:Nat}(hv:items Z v=some l)(hf:aS l=true)(lL:clamp l.length 0 u=some i)(hj:clamp l.length l.length w=some j):cut v u w Z=match dD v with
  |some _=>some (.ah ((l.drop i).take (j-i)),Z)
  |.none=>some (.ref Z.length,Z++[.list ((l.drop i).take (j-i))]):=by
 show ((items Z v).bind λl=>aJ (aS l) ((clamp l.length 0 u).bind λi=>(clamp l.length l.length w).bind λj=>
  match dD v with
  |some _=>some (PV.ah ((l.drop i).take (j-i)),Z)
  |.none=>some (PV.ref Z.length,Z++[.list ((l.drop i).take (j-i))])))=_
 rw[hv]
 show aJ (aS l) ((clamp l.length 0 u).bind λi=>(clamp l.length l.length w).bind λj=>match dD v with | some _=>some (PV.ah ((l.drop i).take (j-i)),Z) | .none=>some (.ref Z.length,Z++[.list ((l.drop i).take (j-i))]))=_
 rw[hf,lL,hj];rfl
theorem oW{X:ME}{v:PV}{l:List PV}{lo hi:fM}{u w:Option PV}{i j:Nat}{r:PV×af}(h1:ai cf ae X J Z=some (.ok v,ak))(hv:items ak v=some l)(h2:dk cf ae lo J ak=some (.ok u,ak))(h3:dk cf ae hi J ak=some (.ok w,ak))
  (hf:aS l=true) (lL:clamp l.length 0 u=some i) (hj:clamp l.length l.length w=some j) (hr:(match dD v with | some _=>some (PV.ah ((l.drop i).take (j-i)),ak) | .none=>some (.ref ak.length,ak++[.list ((l.drop i).take (j-i))]))=some r):ai cf ae (.slice X lo hi) J Z=some (.ok r.1,r.2):=by
 show ay (ai cf ae X J Z) (λx Z=>ay (dk cf ae lo J Z) λlo Z=>ay (dk cf ae hi J Z) λhi Z=>FR.lift (cut x lo hi Z))=_
 rw[h1]
 show ay (dk cf ae lo J ak) (λlo Z=>ay (dk cf ae hi J Z) λhi Z=>FR.lift (cut v lo hi Z))=_
 rw[h2]
 show ay (dk cf ae hi J ak) (λhi Z=>FR.lift (cut v u hi Z))=_
 rw[h3]
 show FR.lift (cut v u w ak)=_
 rw[Nr hv hf lL hj,hr];rfl
theorem An{X:ME}{l:List PV}{lo hi:fM}{u v:Option PV}{i j:Nat}(h1:ai cf ae X J Z=some (.ok (.ah l),Z))(h2:dk cf ae lo J Z=some (.ok u,Z))(h3:dk cf ae hi J Z=some (.ok v,Z))
  (hf:aS l=true) (lL:clamp l.length 0 u=some i) (hj:clamp l.length l.length v=some j):ai cf ae (.slice X lo hi) J Z=some (.ok (.ah ((l.drop i).take (j-i))),Z):=oW h1 rfl h2 h3 hf lL hj rfl
theorem Ao{X iP:ME}{x y:List PV}(h1:ai cf ae X J Z=some (.ok (.ah x),Z))(h2:ai cf ae iP J Z=some (.ok (.ah y),Z))(hf:aS (x++y)=true):
  ai cf ae (.bin .add X iP) J Z=some (.ok (.ah (x++y)),Z):=aM h1 (aM h2 (congrArg (λq=>FR.lift (aJ q (some (PV.ah (x++y),Z)))) hf))
theorem kI{n d:Nat}{k:Int}(h:0<=k)(hn:k<=n):clamp n d (some (.int k))=some k.toNat:=congrArg some (PyProof.Rows.clipAt_in h hn)
theorem ru{α:Type}(l:List α)(i:Nat):(l.drop i).take (l.length-i)=l.drop i:=by rw[List.take_of_length_le (Nat.le_of_eq List.length_drop)]
noncomputable def LR(cf:Nat->List PV->af->aF PV)(J:aD)(e:ME)(l:List PV)(Z:af):Prop:=∃i x,ai cf ae e J Z=some (.ok (.ref i),Z++x)/\ar (Z++x) i=some (.list l)
noncomputable def LN(cf:Nat->List PV->af->aF PV)(J:aD)(e:ME)(l:List PV)(Z:af):Prop:=∃i x,ai cf ae e J Z=some (.ok (.ref i),Z++x)/\ar (Z++x) i=some (.list l)/\Z.length<=i
theorem LN.r{e:ME}{l:List PV}(h:LN cf J e l Z):LR cf J e l Z:=h.imp λO=>Exists.imp λO h=>⟨h.1,h.2.1⟩
theorem LN.one{e:ME}{l:List PV}(h:ai cf ae e J Z=some (.ok (.ref Z.length),Z++[.list l])):LN cf J e l Z:=⟨_,_,h,bM _ _,Nat.le_refl _⟩
theorem LN.list1{X:ME}{x:PV}(h:ai cf ae X J Z=some (.ok x,Z)):LN cf J (.list (.cons X .nil)) [x] Z:=.one (aM (v:=[x]) (aM h rfl) rfl)
theorem LN.add{X iP:ME}{a b:List PV}(h1:LR cf J X a Z)(h2:∀x,LR cf J iP b (Z++x))(hf:aS (a++b)=true):LN cf J (.bin .add X iP) (a++b) Z:=by
 obtain ⟨i,x,e1,g1⟩:=h1
 obtain ⟨j,y,e2,g2⟩:=h2 x
 have q:(Z++x++y)++[MO.list (a++b)]=Z++(x++(y++[.list (a++b)])):=by rw[List.append_assoc,List.append_assoc]
 exact⟨(Z++x++y).length,x++(y++[.list (a++b)]),q▸EJ e1 e2 (bS _ _ _ _ g1) g2 hf,q▸bM _ _,by rw[List.length_append,List.length_append,Nat.add_assoc];exact Nat.le_add_right _ _⟩
theorem LN.cut{X:ME}{a:Nat}{l:List PV}{lo hi:fM}{u v:Option PV}{i j:Nat}(h1:ai cf ae X J Z=some (.ok (.ref a),Z))(ga:ar Z a=some (.list l))(h2:dk cf ae lo J Z=some (.ok u,Z))(h3:dk cf ae hi J Z=some (.ok v,Z))
  (hf:aS l=true) (lL:clamp l.length 0 u=some i) (hj:clamp l.length l.length v=some j):LN cf J (.slice X lo hi) ((l.drop i).take (j-i)) Z:=.one (oW h1 (congrArg (λo=>Option.bind o c9) ga) h2 h3 hf lL hj rfl)
theorem RD.set{d n0 b b':Nat}{aa:Int->Nat}{R:Int->List Row}(h:RD d n0 b aL aa R Z){t:Int}(ht:t∈aL){e:ME}{l:List Row}(he:LN cf J e (l.map pr) Z)(hb:b<=b')(hl:l.length<=b')(l0:bD J 0=some (.ref d))(l1:bD J 1=some (.int t)):
  ∃bq ag,br cf ae (.b4 (.aa 0) (.aa 1) e) J Z=some (.ok (.next,J),ag)/\RD d n0 b' aL bq (up R t l) ag/\Fr n0 Z ag:=by
 obtain ⟨i,x,he,hg,hi⟩:=he
 have hn:n0<=Z.length:=bJ h.nd (Nat.le_of_lt (bA _ _ _ h.dict))
 refine⟨_,_,?_,h.put ht (bS Z x) hi (bJ hn hi) hg hb hl,(Fr.app Z x hn).trans (Fr.set _ _ h.nd)⟩
 show ay (ai cf ae e J Z) (λv Z=>ay (FR.read Z (bD J 0)) λa Z=>ay (FR.read Z (bD J 1)) λi Z=>FR.put J (setItem a i v Z))=_
 rw[he,l0,l1]
 show FR.put J (setItem (.ref d) (.int t) (.ref i) (Z++x))=_
 rw[nW (bS Z x _ _ h.dict) (y:=.int t) rfl (cx (bJ h.lk (by decide)))];rfl
theorem eh{c:ME}{A B:bG}(b:Bool)(hc:ai cf ae c J Z=some (.ok (.bool b),Z)):br cf ae (.ba c A B) J Z=bif b then au cf ae A J Z else au cf ae B J Z:=(fU hc).trans (by cases b<;>rfl)
theorem kJ{X iP:ME}{x y:Int}(h1:ai cf ae X J Z=some (.ok (.int x),Z))(h2:ai cf ae iP J Z=some (.ok (.int y),Z)):ai cf ae (.cmp .eq X iP) J Z=some (.ok (.bool (decide (x=y))),Z):=d8 h1 h2 rfl
end
noncomputable abbrev jK(d:Nat)(t row p:Int)(v:PV)(o:Option PV):aD:=[some (.ref d),some (.int t),some (.int row),some (.int p),some v,o]
noncomputable def iO(cf:Nat->List PV->af->aF PV)(d n0 b:Nat)(R:Int->List Row)(Z:af)(ss:bG)(J:aD)(t:Int)(l:List Row):Prop:=∃aY ag bq,au cf ae ss J Z=some (.ok (.next,aY),ag)/\RD d n0 b aL bq (up R t l) ag/\Fr n0 Z ag
section
variable(cf:Nat->List PV->af->aF PV){d n0 b:Nat}{aa:Int->Nat}{R:Int->List Row}{Z:af}
theorem rv(h:RD d n0 b aL aa R Z){t row p:Int}{v:PV}{o:Option PV}(ht:t∈aL){e:ME}{l:List Row}(he:LN cf (jK d t row p v o) e (l.map pr) Z)(hl:l.length<=b+1):iO cf d n0 (b+1) R Z (.cons (.b4 (.aa 0) (.aa 1) e) .nil) (jK d t row p v o) t l:=by
 obtain ⟨bq,ag,e1,h1,f1⟩:=h.set ht he (Nat.le_succ b) hl rfl rfl
 exact⟨_,ag,bq,aP e1 rfl,h1,f1⟩
theorem iO.one{A B:bG}{c:ME}{J:aD}{t:Int}{l:List Row}{x:Bool}(hc:ai cf ae c J Z=some (.ok (.bool x),Z))(h:iO cf d n0 b R Z (bif x then A else B) J t l):iO cf d n0 b R Z (.cons (.ba c A B) .nil) J t l:=by
 obtain ⟨aY,ag,bq,e,r⟩:=h
 refine⟨aY,ag,bq,iX ((eh x hc).trans ?_),r⟩
 cases x<;>exact e
theorem sO(h:RD d n0 b aL aa R Z){t row p:Int}{v:PV}{o:Option PV}(ht:t∈aL)(x:af):ai cf ae (.aq (.aa 0) (.aa 1)) (jK d t row p v o) (Z++x)=some (.ok (.ref (aa t)),Z++x):=bR (x:=.ref d) (y:=.int t) rfl rfl ((h.keep (bS Z x)).get ht)
theorem mr(h:RD d n0 b aL aa R Z)(hb:b<=30000){t:Int}(ht:t∈aL){l:List Row}(hl:l.length<=b+10):aS (l.map pr)=true:=cx (bJ hl (bJ (Nat.add_le_add_right hb 10) (by decide)))
theorem EK(h:RD d n0 b aL aa R Z)(hb:b<=30000){t row p x:Int}(ht:t∈aL)(hw:∀r∈R t,r.length<=9)(Nt:0<=p)(hp:p<((R t).getD (row-1).toNat []).length)(Qi:1<=row)(HK:row<=len R t):
  iO cf d n0 (b+1) R Z (.cons (.aK 5 (.aq (.aq (.aa 0) (.aa 1)) (.bin .sub (.aa 2) (.k (.int 1))))) (.cons (.b4 (.aa 0) (.aa 1) (.bin .add (.bin .add (.slice (.aq (.aa 0) (.aa 1)) .no (.yes (.bin .sub (.aa 2) (.k (.int 1))))) (.list (.cons (.bin .add (.bin .add (.slice (.aa 5) .no (.yes (.aa 3))) (.ah (.cons (.aa 4) .nil))) (.slice (.aa 5) (.yes (.bin .add (.aa 3) (.k (.int 1)))) .no)) .nil))) (.slice (.aq (.aa 0) (.aa 1)) (.yes (.aa 2)) .no))) .nil)) (jK d t row p (.int x) none) t
   ((R t).take (row-1).toNat++[setAt p.toNat x ((R t).getD (row-1).toNat [])]++(R t).drop row.toNat):=by
 have EL:0<=row-1:=Int.sub_nonneg_of_le Qi
 have Nu:row-1<((R t).length:Int):=Int.lt_of_lt_of_le (Int.sub_lt_self row (by decide)) HK
 have dv:(row-1).toNat<(R t).length:=(Int.toNat_lt EL).mpr Nu
 have ye:row.toNat<=(R t).length:=Int.toNat_le.mpr HK
 have Qj:row.toNat=(row-1).toNat+1:=by omega
 have kh:=h.at_ t ht
 have Nv:=h.ln t ht
 have Ny:aS ((R t).map pr)=true:=mr h hb ht (bJ Nv (Nat.le_add_right b 10))
 have Nz:(((R t).map pr).length:Int)=(R t).length:=by rw[List.length_map]
 have hg:(R t)[(row-1).toNat]? =some ((R t).getD (row-1).toNat []):=by rw[List.getD_eq_getElem?_getD,List.getElem?_eq_getElem dv];rfl
 generalize (R t).getD (row-1).toNat []=old at hp hg⊢
 have Ih:=hw _ (List.mem_of_getElem? hg)
 have T9:index (.ref (aa t)) (.int (row-1)) Z=some (pr old):=by
  rw[gD kh,gE EL (Nz▸Nu) Ny,nth_get?,List.getElem?_map,hg];rfl
 have Qk:aS (old.map PV.int)=true:=cx (bJ Ih (by decide))
 have Ua:p<=((old.map PV.int).length:Int):=by rw[List.length_map];exact Int.le_of_lt hp
 have RQ:p+1<=((old.map PV.int).length:Int):=by rw[List.length_map];exact hp
 have e1:(p+1).toNat=p.toNat+1:=Int.toNat_add Nt (by decide)
 have en:∀y,ai cf ae (.bin .add (.bin .add (.slice (.aa 5) .no (.yes (.aa 3))) (.ah (.cons (.aa 4) .nil))) (.slice (.aa 5) (.yes (.bin .add (.aa 3) (.k (.int 1)))) .no)) (jK d t row p (.int x) (some (pr old))) (Z++y)=some (.ok (pr (setAt p.toNat x old)),Z++y):=λy=>by
  have a1:=An (cf:=cf) (Z:=Z++y) (J:=jK d t row p (.int x) (some (pr old))) (X:=.aa 5) (l:=old.map .int) (lo:=.no) (hi:=.yes (.aa 3)) (u:=.none) (v:=some (.int p)) (i:=0) rfl rfl rfl Qk rfl (kI Nt Ua)
  have a2:=An (cf:=cf) (Z:=Z++y) (J:=jK d t row p (.int x) (some (pr old))) (X:=.aa 5) (l:=old.map .int) (lo:=.yes (.bin .add (.aa 3) (.k (.int 1)))) (hi:=.no) (u:=some (.int (p+1))) (v:=.none) (j:=(old.map PV.int).length) rfl rfl rfl Qk (kI (Int.le_trans Nt (Int.le_add_of_nonneg_right (by decide))) RQ) rfl
  rw[ru] at a2
  have q:(((old.map PV.int).drop 0).take (p.toNat-0)++[PV.int x])++(old.map PV.int).drop (p+1).toNat=(setAt p.toNat x old).map .int:=by
   rw[setAt,List.map_append,List.map_append,List.map_take,List.map_drop,e1];rfl
  have ql:(setAt p.toNat x old).length<=20:=by
   rw[setAt,List.length_append,List.length_append,List.length_take,List.length_drop]
   exact bJ (Nat.add_le_add (Nat.add_le_add (Nat.min_le_right _ _) (Nat.le_refl 1)) (Nat.sub_le _ _)) (bJ (Nat.add_le_add (Nat.add_le_add Ih (Nat.le_refl 1)) Ih) (by decide))
  have a3:=Ao a1 (iP:=.ah (.cons (.aa 4) .nil)) (y:=[.int x]) rfl (fits_of (b:=10) (by rw[List.length_append,List.length_take,List.drop_zero,List.length_map];exact Nat.add_le_add (bJ (Nat.min_le_right _ _) Ih) (Nat.le_refl 1)) (by decide))
  exact(Ao a3 a2 (q▸cx (bJ ql (by decide)))).trans (by rw[q];rfl)
 have c1:=λy=>LN.cut (cf:=cf) (J:=jK d t row p (.int x) (some (pr old))) (lo:=.no) (hi:=.yes (.bin .sub (.aa 2) (.k (.int 1)))) (u:=.none) (v:=some (.int (row-1))) (i:=0) (sO cf h ht y) (bS Z y _ _ kh) rfl rfl Ny rfl (kI EL (Int.le_of_lt (Nz▸Nu)))
 have c3:=λy=>LN.cut (cf:=cf) (J:=jK d t row p (.int x) (some (pr old))) (lo:=.yes (.aa 2)) (hi:=.no) (u:=some (.int row)) (v:=.none) (j:=((R t).map pr).length) (sO cf h ht y) (bS Z y _ _ kh) rfl rfl Ny (kI (Int.le_trans (by decide) Qi) (Nz▸HK)) rfl
 have c1:=c1 []
 rw[List.append_nil,List.drop_zero,Nat.sub_zero,<-List.map_take] at c1
 have tl:((R t).take (row-1).toNat).length<=b:=by rw[List.length_take];exact bJ (Nat.min_le_right _ _) Nv
 have dl:((R t).take (row-1).toNat++[setAt p.toNat x old]++(R t).drop row.toNat).length<=b+1:=by
  rw[List.length_append,List.length_append,List.length_take,List.length_drop,Nat.min_eq_left (Nat.le_of_lt dv),Qj]
  exact Nat.le_succ_of_le (bJ (Nat.le_of_eq (Nat.add_sub_cancel' (Qj▸ye))) Nv)
 have he:=LN.add (LN.add c1.r (λy=>(LN.list1 (en y)).r) (by rw[show [pr (setAt p.toNat x old)]=[setAt p.toNat x old].map pr from rfl,<-List.map_append];exact mr h hb ht (by rw[List.length_append];exact Nat.add_le_add tl (Nat.le_add_left 1 9)))).r (λy=>(c3 y).r)
  (by rw[ru,<-List.map_drop,show [pr (setAt p.toNat x old)]=[setAt p.toNat x old].map pr from rfl,<-List.map_append,<-List.map_append];exact mr h hb ht (bJ dl (Nat.add_le_add_left (by decide) b)))
 rw[ru,<-List.map_drop,show [pr (setAt p.toNat x old)]=[setAt p.toNat x old].map pr from rfl,<-List.map_append,<-List.map_append] at he
 obtain ⟨aY,ag,bq,e,r⟩:=rv cf h ht he dl
 exact⟨aY,ag,bq,aP (dX (bR (by have q:=sO cf h (row:=row) (p:=p) (v:=.int x) (o:=none) ht [];rw[List.append_nil] at q;exact q) rfl T9)) e,r⟩
theorem EM(h:RD d n0 b aL aa R Z)(hb:b<=30000)(t row p:Int)(v:Ev)(hw:∀r∈R t,r.length<=9)(he:t7 R ⟨t,row,p,v⟩=true):iO cf d n0 (b+1) R Z rM.body (jK d t row p (pW v) none) t (oV R ⟨t,row,p,v⟩):=by
 have ht:=Ig he
 have kh:=h.at_ t ht
 have dv:=h.ln t ht
 have i0:=λv=>sO cf h (row:=row) (p:=p) (v:=v) (o:=none) ht []
 rw[List.append_nil] at i0
 refine yd he (λr ev ep=> ?_) (λep=> ?_) λhv p0 pl r1 rl=> ?_
 ·rw[ev,oV,if_pos ep,ep]
  rw[ep] at i0
  refine iO.one cf (x:=true) rfl (rv cf h ht (l:=R t++[r]) ?_ (by rw[List.length_append];exact Nat.succ_le_succ dv))
  rw[List.map_append]
  exact LN.add ⟨aa t,[],by rw[List.append_nil];exact i0 _,by rw[List.append_nil];exact kh⟩ (λy=>(LN.list1 (X:=.aa 4) (x:=pr r) rfl).r) (by rw[<-List.map_append];exact mr h hb ht (by rw[List.length_append];exact Nat.add_le_add dv (Nat.le_add_left 1 9)))
 ·rw[oV,if_neg (λe:p= -1=>absurd (ep.symm.trans e) (by decide)),if_pos ep,ep]
  rw[ep] at i0
  refine iO.one cf (x:=false) rfl (iO.one cf (x:=true) rfl (rv cf h ht (l:=(R t).take ((R t).length-1)) ?_ (by rw[List.length_take];exact bJ (Nat.min_le_right _ _) (Nat.le_succ_of_le dv))))
  have c:=LN.cut (cf:=cf) (lo:=.no) (hi:=.yes (.neg (.k (.int 1)))) (u:=.none) (v:=some (.int (-1))) (i:=0) (i0 (pW v)) kh rfl rfl (mr h hb ht (bJ dv (Nat.le_add_right b 10))) rfl (congrArg some (clipAt_neg _ 1 (Nat.le_refl 1)))
  rw[List.drop_zero,Nat.sub_zero,<-List.map_take,List.length_map] at c
  exact c
 ·have p1:p≠ -1:=λe=>absurd (e▸p0) (by decide)
  have p2:p≠ -2:=λe=>absurd (e▸p0) (by decide)
  rw[oV,if_neg p1,if_neg p2]
  have e1:ai cf ae (.cmp .eq (.aa 3) (.neg (.k (.int 1)))) (jK d t row p (pW v) none) Z=some (.ok (.bool false),Z):=(kJ (x:=p) (y:= -1) rfl rfl).trans (by rw[decide_eq_false p1])
  have e2:ai cf ae (.cmp .eq (.aa 3) (.neg (.k (.int 2)))) (jK d t row p (pW v) none) Z=some (.ok (.bool false),Z):=(kJ (x:=p) (y:= -2) rfl rfl).trans (by rw[decide_eq_false p2])
  refine iO.one cf (x:=false) e1 (iO.one cf (x:=false) e2 ?_)
  have cell:=λx=>EK cf h hb (x:=x) ht hw p0 pl r1 rl
  have Ql:b<=60000:=bJ hb (by decide)
  cases v with
  |r x=>exact absurd rfl (hv x)
  |i x=>
   obtain ⟨aY,ag,bq,e,r⟩:=cell x
   exact⟨aY,ag,bq,aP ((eh (Z:=Z) false rfl).trans rfl) (aP ((eh (Z:=Z) false rfl).trans rfl) e),r⟩
  |T=>
   obtain ⟨aY,ag,bq,e,r⟩:=cell (len R 2+1)
   exact⟨aY,ag,bq,aP ((eh (Z:=Z) true rfl).trans (iX (dX (df (h.len Ql rfl (by decide)) rfl rfl)))) (aP ((eh (Z:=Z) false rfl).trans rfl) e),r⟩
  |M=>
   obtain ⟨aY,ag,bq,e,r⟩:=cell (len R 6+1)
   exact⟨aY,ag,bq,aP ((eh (Z:=Z) false rfl).trans rfl) (aP ((eh (Z:=Z) true rfl).trans (iX (dX (df (h.len Ql rfl (by decide)) rfl rfl)))) e),r⟩
end
theorem J5(n:Nat){d n0 b:Nat}{aa:Int->Nat}{R:Int->List Row}{Z:af}(h:RD d n0 b aL aa R Z)(hb:b<=30000)(e:Ed)(hw:∀r∈R e.t,r.length<=9)(he:t7 R e=true):
  ∃ag bq,ax aj ae (n+1) 40 [.ref d,.int e.t,.int e.row,.int e.p,pW e.v] Z=some (.ok .none,ag)/\RD d n0 (b+1) aL bq (eI R e) ag/\Fr n0 Z ag:=by
 obtain ⟨aY,ag,bq,e1,h1,f1⟩:=EM (ax aj ae n) h hb e.t e.row e.p e.v hw he
 exact⟨ag,bq,m8 rfl rfl e1,h1,f1⟩
noncomputable def rx(R:Int->List Row):Ev->Int
 |.i x=>x
 |.T=>len R 2
 |.M=>len R 6
 |.r _=>0
noncomputable def GS(R:Int->List Row):Lv->Int
 |.i x=>x
 |.F=>len R 4+2
 |.M=>len R 6+2
noncomputable def pJ(R:Int->List Row):List Row:=(((R 2).drop 4).take 1).filter λr=>decide (cl r 1=17)
noncomputable def pK:List Nat:=[98,97,115,101]
noncomputable def eW(R:Int->List Row)(k:Nat):Bool:=match pJ R with
 |[]=>false
 |r::_=>decide (cl r k=0)
noncomputable def eE(x:Int)(R:Int->List Row):List Ed×List PV:=
 if x<11 then
  let s:=dB.getD x.toNat (0,0,0)
  ([⟨s.1,s.2.1,s.2.2,.i 0⟩],aG s.1 s.2.1 [110,97,109,101]::(if decide (s.1=32)&&eW R 3 then [aG 2 5 pK] else []))
 else
  ([⟨2,2,1,.i 17⟩],(if eW R 2 then [aG 2 5 [116,119,105,99,101]] else [])++(if cl ((R 32).getD 0 []) 7=23 then [aG 2 2 pK]++(if eW R 3 then [aG 2 5 pK] else []) else []))
noncomputable def Cp(x y:Int):Int:=if x.fmod 27>15 then 9+y.fmod 5 else 24+y.fmod 5
noncomputable def cF(way x y:Int)(R:Int->List Row):List Ed×List PV:=
 if way=0 then (let e:=mE.getD (x.fmod 8).toNat ue;([e],[aG e.t e.row [116,97,103]]))
 else if way=1 then (let e:=hN.getD (x.fmod 30).toNat ue;([e],[aG e.t e.row [112,97,114,101,110,116]]))
 else if way=2 then (let s:=fu.getD (x.fmod 13).toNat rG;([⟨s.t,rx R s.row,s.p,.i (GS R s.v)⟩],[aG s.t (rx R s.row) [108,105,115,116]]))
 else if way=3 then (let s:=(jo++gy++ir).getD (x.fmod 27).toNat (0,0,0);([⟨s.1,s.2.1,s.2.2,.i (Cp x y)⟩],[aG s.1 s.2.1 [104,101,97,112]]))
 else if way=4/\x.fmod 19<7 then (let s:=gy.getD (x.fmod 19).toNat (0,0,0);([⟨s.1,s.2.1,s.2.2,.i 0⟩],[aG s.1 s.2.1 [104,101,97,112]]))
 else if way=4 then eE (x.fmod 19-7) R
 else jW.getD (x.fmod 85).toNat ([],[])
theorem idx_map{α:Type}(f:α->PV)(d:α)(l:List α)(hl:l.length<=65536)(i:Int)(h0:0<=i)(h1:i<l.length)(Z:af):index (.ah (l.map f)) (.int i) Z=some (f (l.getD i.toNat d)):=by
 show listAt (l.map f) (.int i)=_
 rw[gE h0 (by rw[List.length_map];exact h1) (cx hl),nth_get?,List.getElem?_map,List.getD_eq_getElem?_getD,List.getElem?_eq_getElem ((Int.toNat_lt h0).mpr h1)]
 rfl
theorem dW(x:Int)(n:Int)(h:0<n):0<=x.fmod n/\x.fmod n<n:=⟨Int.fmod_nonneg_of_pos _ h,Int.fmod_lt_of_pos _ h⟩
theorem Ub:mH=.ah (mE.map jk):=rfl
theorem Uc:jG=.ah (hN.map jk):=rfl
theorem Ud:lu=.ah (fu.map uf):=rfl
theorem V5:pY=.ah (jo.map jm):=rfl
theorem Ue:mG=.ah (gy.map jm):=rfl
theorem V6:nT=.ah (ir.map jm):=rfl
theorem Ug:iW=.ah (dB.map jm):=rfl
theorem Uh:j7=.ah (jW.map j6):=rfl
section
variable{cf:Nat->List PV->af->aF PV}{J:aD}{Z:af}
theorem sP{g:Nat}{i:Nat}{x n:Int}(hx:bD J i=some (.int x))(hn:ai cf ae (.aO .len (.gl g)) J Z=some (.ok (.int n),Z))(h:n≠0):ai cf ae (.bin .mod (.aa i) (.aO .len (.gl g))) J Z=some (.ok (.int (x.fmod n)),Z):=
 df (eD hx) hn (congrArg (λq=>aJ q (some (x.fmod n))) (decide_eq_true h))
theorem pL{i:Nat}{x n:Int}(hx:bD J i=some (.int x))(h:n≠0):ai cf ae (.bin .mod (.aa i) (.k (.int n))) J Z=some (.ok (.int (x.fmod n)),Z):=
 df (eD hx) rfl (congrArg (λq=>aJ q (some (x.fmod n))) (decide_eq_true h))
theorem pM{g:Nat}{e:ME}{i:Int}{v:PV}(h:ai cf ae e J Z=some (.ok (.int i),Z))(hi:index (ae g) (.int i) Z=some v):ai cf ae (.aq (.gl g) e) J Z=some (.ok v,Z):=bR rfl h hi
theorem cG{i:Nat}{e:ME}{v:PV}{ak:af}(h:ai cf ae e J Z=some (.ok v,ak)):br cf ae (.aK i e) J Z=some (.ok (.next,cU J i v),ak):=dX h
theorem Cq{s:MS}{rest:bG}{v:PV}{du:aD}{ak:af}(h:br cf ae s J Z=some (.ok (.ret v,du),ak)):au cf ae (.cons s rest) J Z=some (.ok (.ret v,du),ak):=eY nofun h
end
noncomputable def jD(R:Int->List Row):Prop:=(∀r∈R 2,r.length=6)/\(R 32≠[]/\∀r∈R 32,r.length=9)
theorem Ap{cf:Nat->List PV->af->aF PV}{J:aD}{Z:af}{i a:Nat}{l:List PV}(h:bD J i=some (.ref a))(g:ar Z a=some (.list l))(hl:l.length<=1):ai cf ae (.aO .len (.aa i)) J Z=some (.ok (.int l.length),Z):=
 aM (eD h) (by rw[len_list g (fits_of hl (by decide))];rfl)
theorem NA{cf:Nat->List PV->af->aF PV}{e:ME}{c:ME}{J:aD}{Z ak:af}{a:Nat}{l:List Row}{q:Row->Bool}(hc:ai cf ae e J Z=some (.ok (.ref a),ak))(g:ar ak a=some (.list (l.map pr)))(hl:l.length<=1)(hq:∀x∈l,ai cf ae c [some (pr x)] ak=some (.ok (.bool (q x)),ak)):
  ai cf ae (.comp (.aa 0) (.plain e) (.yes c)) J Z=some (.ok (.ref ak.length),ak++[.list ((l.filter q).map pr)]):=by
 refine lQ (jq hc (gk g)) ?_
 rw[fD g]
 cases l with
 |nil=>exact jr ((gz g).trans rfl)
 |cons x l=>
  cases l with
  |cons _ _=>exact absurd (Nat.le_of_succ_le_succ hl) (Nat.not_succ_le_zero _)
  |nil=>
   have h1:cC ak 0 (.live a)=some (some (pr x)):=(gz g).trans rfl
   have h2:cC ak 1 (.live a)=some none:=(gz g).trans rfl
   have hq:=hq x (List.mem_singleton_self x)
   have e2:∀r:aF (Option PV),pick (some (q x)) (bp (ai cf ae (.aa 0) [some (pr x)] ak) λy Z=>av (some y) Z) (av none ak)=r->bp (dk cf ae (.yes c) [some (pr x)] ak) (λc Z=>pick (iz Z c) (bp (ai cf ae (.aa 0) [some (pr x)] Z) λy Z=>av (some y) Z) (av none Z))=r:=λr hr=>by
    show bp (ay (ai cf ae c [some (pr x)] ak) λv Z=>av (some v) Z) (λc Z=>pick (iz Z c) (bp (ai cf ae (.aa 0) [some (pr x)] Z) λy Z=>av (some y) Z) (av none Z))=r
    rw[hq];exact hr
   rw[List.filter_cons]
   cases hb:q x with
   |true=>exact nU h1 (Nat.zero_le _) (e2 _ (by rw[hb];rfl)) (jr h2)
   |false=>exact(AZ h1 (Nat.zero_le _) (e2 _ (by rw[hb];rfl))).trans (jr h2)
theorem NB{α:Type}(l:List α):(l.drop (clipAt l.length 4)).take (clipAt l.length 5-clipAt l.length 4)=(l.drop 4).take 1:=by
 rw[show clipAt l.length 4=min 4 l.length from clipAt_nat l.length 4,show clipAt l.length 5=min 5 l.length from clipAt_nat l.length 5]
 by_cases h4:4<l.length
 ·rw[Nat.min_eq_left (Nat.le_of_lt h4),Nat.min_eq_left h4]
 ·have h:=Nat.le_of_not_lt h4
  rw[Nat.min_eq_right h,Nat.min_eq_right (Nat.le_succ_of_le h),List.drop_eq_nil_of_le (Nat.le_refl _),List.drop_eq_nil_of_le h,Nat.sub_self];rfl
theorem J6(cf:Nat->List PV->af->aF PV){d n0 b:Nat}{aa:Int->Nat}{R:Int->List Row}{Z:af}(h:RD d n0 b aL aa R Z)(hb:b<=30000)(hn:jD R)(x:Option PV)(p q r:Option PV):
  ∃ak a,ai cf ae (.comp (.aa 0) (.plain (.slice (.aq (.aa 1) (.k (.int 2))) (.yes (.k (.int 4))) (.yes (.k (.int 5))))) (.yes (.cmp .eq (.aq (.aa 0) (.k (.int 1))) (.k (.int 17))))) [x,some (.ref d),p,q,r] Z=some (.ok (.ref a),ak)/\ar ak a=some (.list ((pJ R).map pr))/\RD d n0 b aL aa R ak/\Fr n0 Z ak:=by
 have Dw:=bJ h.nd (Nat.le_of_lt (bA _ _ _ h.dict))
 have hc:=LN.cut (cf:=cf) (Z:=Z) (J:=[x,some (.ref d),p,q,r]) (lo:=.yes (.k (.int 4))) (hi:=.yes (.k (.int 5))) (u:=some (.int 4)) (v:=some (.int 5)) (h.aq (i:=1) (k:=2) rfl (by decide)) (h.at_ 2 (by decide)) rfl rfl (h.aS (bJ hb (by decide)) (by decide)) rfl rfl
 rw[NB,<-List.map_drop,<-List.map_take] at hc
 obtain ⟨i,y,e,g,_⟩:=hc
 have Ui:(((R 2).drop 4).take 1).length<=1:=by rw[List.length_take];exact Nat.min_le_left _ _
 have hq:∀z∈((R 2).drop 4).take 1,ai cf ae (.cmp .eq (.aq (.aa 0) (.k (.int 1))) (.k (.int 17))) [some (pr z)] (Z++y)=some (.ok (.bool (decide (cl z 1=17))),Z++y):=λz hz=>by
  have h6:=hn.1 z (List.mem_of_mem_drop (List.mem_of_mem_take hz))
  exact kJ (bR (x:=pr z) (y:=.int 1) rfl rfl (iI ⟨by decide,by rw[h6];decide,by rw[h6];decide⟩)) rfl
 exact⟨_,_,NA (q:=λz=>decide (cl z 1=17)) e g Ui hq,bM _ _,(h.keep (bS Z y)).keep (bS _ _),(Fr.app Z y Dw).trans (Fr.app _ _ (bJ Dw (by rw[List.length_append];exact Nat.le_add_right _ _)))⟩
theorem EN(R:Int->List Row):(pJ R).length<=1:=bJ (List.length_filter_le _ _) (by rw[List.length_take];exact Nat.min_le_left _ _)
theorem EO{R:Int->List Row}{r:Row}(h:r∈pJ R):r∈R 2:=List.mem_of_mem_drop (List.mem_of_mem_take (List.mem_filter.mp h).1)
theorem NC{cf:Nat->List PV->af->aF PV}{J:aD}{Z:af}{a:Nat}{R:Int->List Row}(hn:jD R)(h:bD J 2=some (.ref a))(g:ar Z a=some (.list ((pJ R).map pr)))(k:Nat)(K:Int)(hK:K=k)(hk:k<6):
  ai cf ae (.and (.cons (.cmp .gt (.aO .len (.aa 2)) (.k (.int 0))) (.cons (.cmp .eq (.aq (.aq (.aa 2) (.k (.int 0))) (.k (.int K))) (.k (.int 0))) .nil))) J Z=some (.ok (.bool (eW R k)),Z):=by
 have hlen:=EN R
 have hm:= @EO R
 unfold eW
 cases hg:pJ R with
 |nil=>
  rw[hg] at g
  exact zK (d8 (x:=.int 0) (y:=.int 0) (Ap h g (Nat.zero_le 1)) rfl rfl)
 |cons r l=>
  rw[hg] at g hm hlen
  have h6:=hn.1 r (hm cR)
  have hl:((r::l).map pr).length<=1:=by rw[List.length_map];exact hlen
  have pos:(0:Int)<(((r::l).map pr).length:Int):=Int.ofNat_lt.mpr (Nat.succ_pos l.length |> λh=>by rw[List.length_map];exact h)
  have e0:index (.ref a) (.int 0) Z=some (pr r):=by rw[gD g,gE (Int.le_refl 0) pos (fits_of hl (by decide))];rfl
  have e1:index (pr r) (.int K) Z=some (.int (cl r k)):=by rw[hK];exact iI (k:=k) ⟨Int.natCast_nonneg k,Int.ofNat_lt.mpr (h6▸hk),by rw[h6];decide⟩
  exact lR (x:=true) (y:=decide (cl r k=0)) (d8 (x:=.int ((r::l).map pr).length) (y:=.int 0) (Ap h g hl) rfl (congrArg some (decide_eq_true pos))) (o9 (kJ (bR (y:=.int K) (bR (y:=.int 0) (eD h) rfl e0) rfl e1) rfl))
theorem J7{cf:Nat->List PV->af->aF PV}{J:aD}{Z:af}{a b:ME}{c:ME}{x y:Bool}(h1:ai cf ae a J Z=some (.ok (.bool x),Z))(h2:ai cf ae (.and (.cons b (.cons c .nil))) J Z=some (.ok (.bool y),Z)):
  ai cf ae (.and (.cons a (.cons b (.cons c .nil)))) J Z=some (.ok (.bool (x&&y)),Z):=lR h1 h2
noncomputable abbrev oX(x:Int)(d a:Nat)(t:List PV)(v:Option PV):aD:=[some (.int x),some (.ref d),some (.ref a),some (.ah t),v]
section
variable(cf:Nat->List PV->af->aF PV){d n0 b a:Nat}{aa:Int->Nat}{R:Int->List Row}{Z:af}
theorem Uj(h:RD d n0 b aL aa R Z)(hb:b<=30000)(hn:jD R)(x:Int)(t:List PV):ai cf ae (.cmp .eq (.aq (.aq (.aq (.aa 1) (.k (.int 32))) (.k (.int 0))) (.k (.int 7))) (.k (.int 23))) (oX x d a t none) Z=some (.ok (.bool (decide (cl ((R 32).getD 0 []) 7=23))),Z):=by
 have Qm:=h.at_ 32 (by decide)
 have hf:=h.aS (bJ hb (by decide)) (k:=32) (by decide)
 have hi:=h.aq (cf:=cf) (gl:=ae) (i:=1) (J:=oX x d a t none) (k:=32) rfl (by decide)
 obtain ⟨dC,h9⟩:=hn.2
 generalize R 32=l at Qm dC h9 hf⊢
 cases l with
 |nil=>exact absurd rfl dC
 |cons r0 rs=>
  have Qn:=h9 r0 cR
  have i0:index (.ref (aa 32)) (.int 0) Z=some (pr r0):=by rw[gD Qm,gE (Int.le_refl 0) (Int.ofNat_lt.mpr (by rw[List.length_map];exact Nat.succ_pos _)) hf];rfl
  exact kJ (bR (y:=.int 7) (bR (y:=.int 0) hi rfl i0) rfl (iI ⟨by decide,by rw[Qn];decide,by rw[Qn];decide⟩)) rfl
theorem yf(h:RD d n0 b aL aa R Z)(hb:b<=30000)(hn:jD R)(x:Int)(hx:0<=x):
  ∃J ag,au cf ae lP.body [some (.int x),some (.ref d),none,none,none] Z=some (.ok (.ret (j6 (eE x R)),J),ag)/\RD d n0 b aL aa R ag/\Fr n0 Z ag:=by
 obtain ⟨ak,a,e1,g,h1,f1⟩:=J6 cf h hb hn (some (.int x)) none none none
 refine Exists.elim ?_ λJ e=>⟨J,ak,aP (cG e1) (aP (cG (v:=.ah []) rfl) e),h1,f1⟩
 have has:=λ(t:List PV)(v:Option PV)(k:Nat)(K:Int)(hK:K=k)(hk:k<6)=>NC (cf:=cf) (J:=oX x d a t v) hn rfl g k K hK hk
 clear e1 g h
 have dv:ai cf ae (.cmp .lt (.aa 0) (.k (.int 11))) (oX x d a [] none) ak=some (.ok (.bool (decide (x<11))),ak):=rfl
 by_cases hc:x<11
 ·rw[decide_eq_true hc] at dv
  have e4:ai cf ae (.aq (.gl 55) (.aa 0)) (oX x d a [] none) ak=some (.ok (jm (dB.getD x.toNat (0,0,0))),ak):=pM (i:=x) rfl (by rw[show ae 55=iW from rfl,Ug];exact idx_map jm (0,0,0) dB (by decide) _ hx hc _)
  rw[eE,if_pos hc]
  dsimp only
  generalize dB.getD x.toNat (0,0,0)=s at e4⊢
  refine Exists.elim ?_ λJ e=>⟨J,Cq ((eh true dv).trans (aP (cG e4) e))⟩
  have c1:=J7 (kJ (cf:=cf) (J:=oX x d a [] (some (jm s))) (Z:=ak) (X:=.aq (.aa 4) (.k (.int 0))) (iP:=.k (.int 32)) (x:=s.1) (y:=32) rfl rfl) (has [] (some (jm s)) 3 3 rfl (by decide))
  cases EP:(decide (s.1=32)&&eW R 3) with
  |true=>rw[EP] at c1;exact⟨_,aP ((eh true c1).trans rfl) rfl⟩
  |false=>rw[EP] at c1;exact⟨_,aP ((eh false c1).trans rfl) rfl⟩
 ·rw[decide_eq_false hc] at dv
  rw[eE,if_neg hc]
  have a2:=has [] none 2 2 rfl (by decide)
  have a3:=λt=>has t none 3 3 rfl (by decide)
  have c7:=Uj cf (a:=a) h1 hb hn x
  clear has hn h1 f1
  refine Exists.elim ?_ λJ e=>⟨J,aP ((eh false dv).trans rfl) e⟩
  clear dv
  generalize eW R 2=b2 at a2⊢
  generalize eW R 3=b3 at a3⊢
  rw[show ∀l:List PV,(if cl ((R 32).getD 0 []) 7=23 then l else [])=bif decide (cl ((R 32).getD 0 []) 7=23) then l else [] from λl=>(Bool.cond_decide _ _ _).symm]
  generalize decide (cl ((R 32).getD 0 []) 7=23)=b7 at c7⊢
  have O5:∀{r:bG}{v:PV}{J:aD},au cf ae r (oX x d a (bif b2 then [aG 2 5 [116,119,105,99,101]] else []) none) ak=some (.ok (.ret v,J),ak)->au cf ae (.cons (.ba (.and (.cons (.cmp .gt (.aO .len (.aa 2)) (.k (.int 0))) (.cons (.cmp .eq (.aq (.aq (.aa 2) (.k (.int 0))) (.k (.int 2))) (.k (.int 0))) .nil)))
    (.cons (.aK 3 (.ah (.cons (.ah (.cons (.k (.int 2)) (.cons (.k (.int 5)) (.cons (.k (.str [116,119,105,99,101])) .nil)))) .nil))) .nil) .nil) r) (oX x d a [] none) ak=some (.ok (.ret v,J),ak):=λe=>aP ((eh b2 a2).trans (by cases b2<;>rfl)) e
  clear a2
  refine Exists.elim ?_ λJ e=>⟨J,O5 e⟩
  cases b7 with
  |false=>cases b2<;>exact⟨_,aP ((eh false (c7 _)).trans rfl) rfl⟩
  |true=>
   cases b3 with
   |false=>cases b2<;>exact⟨_,aP ((eh true (c7 _)).trans (aP (cG rfl) (aP ((eh false (a3 _)).trans rfl) rfl))) rfl⟩
   |true=>cases b2<;>exact⟨_,aP ((eh true (c7 _)).trans (aP (cG rfl) (aP ((eh true (a3 _)).trans rfl) rfl))) rfl⟩
end
theorem zC(n:Nat){d n0 b:Nat}{aa:Int->Nat}{R:Int->List Row}{Z:af}(h:RD d n0 b aL aa R Z)(hb:b<=30000)(hn:jD R)(x:Int)(hx:0<=x):
  ∃ag,ax aj ae (n+1) 39 [.int x,.ref d] Z=some (.ok (j6 (eE x R)),ag)/\RD d n0 b aL aa R ag/\Fr n0 Z ag:=by
 obtain ⟨J,ag,e,r⟩:=yf (ax aj ae n) h hb hn x hx
 exact⟨ag,bN rfl rfl e,r⟩
section
variable{cf:Nat->List PV->af->aF PV}{J du:aD}{Z ak:af}{c e:ME}{A B rest:bG}{r:aF (Fl×aD)}{v:PV}{i:Nat}
theorem bK(hc:ai cf ae c J Z=some (.ok (.bool false),Z))(k:au cf ae rest J Z=r):au cf ae (.cons (.ba c A .nil) rest) J Z=r:=aP ((eh false hc).trans rfl) k
theorem kK(hc:ai cf ae c J Z=some (.ok (.bool true),Z))(k:au cf ae A J Z=some (.ok (.ret v,du),ak)):au cf ae (.cons (.ba c A B) rest) J Z=some (.ok (.ret v,du),ak):=Cq ((eh true hc).trans k)
theorem sQ(hc:ai cf ae c J Z=some (.ok (.bool true),Z))(h:ai cf ae e J Z=some (.ok v,Z))(k:au cf ae rest (cU J i v) Z=r):au cf ae (.cons (.ba c (.cons (.aK i e) .nil) .nil) rest) J Z=r:=aP ((eh true hc).trans (aP (cG h) rfl)) k
end
noncomputable abbrev gs(way x y:Int)(d:Nat)(a b c e:Option PV):aD:=[some (.int way),some (.int x),some (.int y),some (.ref d),a,b,c,e]
noncomputable def Br(cf:Nat->List PV->af->aF PV)(d:Nat)(Z:af)(way x y:Int)(r:List Ed×List PV)(ag:af):Prop:=∃J,au cf ae nR.body (gs way x y d none none none none) Z=some (.ok (.ret (j6 r),J),ag)
section
variable(cf:Nat->List PV->af->aF PV){d n0 b:Nat}{aa:Int->Nat}{R:Int->List Row}{Z:af}(x y:Int)
theorem Uk:Br cf d Z 0 x y (cF 0 x y R) Z:=by
 have hm:=dW x 8 (by decide)
 have e4:ai cf ae (.aq (.gl 54) (.bin .mod (.aa 1) (.aO .len (.gl 54)))) (gs 0 x y d none none none none) Z=some (.ok (jk (mE.getD (x.fmod 8).toNat ue)),Z):=
  pM (sP (x:=x) (n:=8) rfl rfl (by decide)) (by rw[show ae 54=mH from rfl,Ub];exact idx_map jk ue mE (by decide) _ hm.1 hm.2 _)
 rw[cF,if_pos rfl]
 dsimp only
 generalize mE.getD (x.fmod 8).toNat ue=e at e4⊢
 exact⟨_,kK rfl (aP (cG e4) rfl)⟩
theorem Ul:Br cf d Z 1 x y (cF 1 x y R) Z:=by
 have hm:=dW x 30 (by decide)
 have e4:ai cf ae (.aq (.gl 53) (.bin .mod (.aa 1) (.aO .len (.gl 53)))) (gs 1 x y d none none none none) Z=some (.ok (jk (hN.getD (x.fmod 30).toNat ue)),Z):=
  pM (sP (x:=x) (n:=30) rfl rfl (by decide)) (by rw[show ae 53=jG from rfl,Uc];exact idx_map jk ue hN (by decide) _ hm.1 hm.2 _)
 rw[cF,if_neg (by decide),if_pos rfl]
 dsimp only
 generalize hN.getD (x.fmod 30).toNat ue=e at e4⊢
 exact⟨_,bK rfl (kK rfl (aP (cG e4) rfl))⟩
theorem ER(k:Nat)(hk:k<13):(∃r,(fu.getD k rG).row=.i r)\/(fu.getD k rG).row=.T\/(fu.getD k rG).row=.M:=by
 have:∀k<13,(match (fu.getD k rG).row with | .r _=>false | _=>true)=true:=by decide
 have:=this k hk
 revert this
 cases (fu.getD k rG).row with
 |i r=>exact λO=>.inl ⟨r,rfl⟩
 |T=>exact λO=>.inr (.inl rfl)
 |M=>exact λO=>.inr (.inr rfl)
 |r _=>exact λh=>by cases h
theorem Um(h:RD d n0 b aL aa R Z)(hb:b<=60000):Br cf d Z 2 x y (cF 2 x y R) Z:=by
 have hm:=dW x 13 (by decide)
 have e4:ai cf ae (.aq (.gl 52) (.bin .mod (.aa 1) (.aO .len (.gl 52)))) (gs 2 x y d none none none none) Z=some (.ok (uf (fu.getD (x.fmod 13).toNat rG)),Z):=
  pM (sP (x:=x) (n:=13) rfl rfl (by decide)) (by rw[show ae 52=lu from rfl,Ud];exact idx_map uf rG fu (by decide) _ hm.1 hm.2 _)
 have ye:=ER (x.fmod 13).toNat ((Int.toNat_lt hm.1).mpr hm.2)
 rw[cF,if_neg (by decide),if_neg (by decide),if_pos rfl]
 dsimp only
 generalize fu.getD (x.fmod 13).toNat rG=e at e4 ye⊢
 obtain ⟨t,row,p,v⟩:=e
 dsimp only at ye⊢
 have ln:∀(k:Int)(J:aD),k∈aL->bD J 3=some (.ref d)->ai cf ae (.aO .len (.aq (.aa 3) (.k (.int k)))) J Z=some (.ok (.int (len R k)),Z):=λk J hk hl=>h.len hb hl hk
 have s1:∀{rest:bG}{r:aF (Fl×aD)},au cf ae rest (gs 2 x y d (some (uf ⟨t,row,p,v⟩)) (some (.int (rx R row))) none none) Z=r->
   au cf ae (.cons (.ba (.cmp .eq (.aa 5) (.k (.str [84]))) (.cons (.aK 5 (.aO .len (.aq (.aa 3) (.k (.int 2))))) .nil) .nil) (.cons (.ba (.cmp .eq (.aa 5) (.k (.str [77]))) (.cons (.aK 5 (.aO .len (.aq (.aa 3) (.k (.int 6))))) .nil) .nil) rest)) (gs 2 x y d (some (uf ⟨t,row,p,v⟩)) (some (pW row)) none none) Z=r:=by
  intro rest r hh
  rcases ye with ⟨z,rfl⟩ | rfl | rfl
  ·exact bK rfl (bK rfl hh)
  ·exact sQ rfl (ln 2 _ (by decide) rfl) (bK rfl hh)
  ·exact bK rfl (sQ rfl (ln 6 _ (by decide) rfl) hh)
 have s2:∀{rest:bG}{r:aF (Fl×aD)},au cf ae rest (gs 2 x y d (some (uf ⟨t,row,p,v⟩)) (some (.int (rx R row))) (some (.int (GS R v))) none) Z=r->
   au cf ae (.cons (.ba (.cmp .eq (.aa 6) (.k (.str [70]))) (.cons (.aK 6 (.bin .add (.aO .len (.aq (.aa 3) (.k (.int 4)))) (.k (.int 2)))) .nil) .nil) (.cons (.ba (.cmp .eq (.aa 6) (.k (.str [77]))) (.cons (.aK 6 (.bin .add (.aO .len (.aq (.aa 3) (.k (.int 6)))) (.k (.int 2)))) .nil) .nil) rest)) (gs 2 x y d (some (uf ⟨t,row,p,v⟩)) (some (.int (rx R row))) (some (Pj v)) none) Z=r:=by
  intro rest r hh
  cases v with
  |i z=>exact bK rfl (bK rfl hh)
  |F=>exact sQ rfl (df (ln 4 _ (by decide) rfl) rfl rfl) (bK rfl hh)
  |M=>exact bK rfl (sQ rfl (df (ln 6 _ (by decide) rfl) rfl rfl) hh)
 exact⟨_,bK rfl (bK rfl (kK rfl (aP (cG e4) (aP (cG rfl) (s1 (aP (cG rfl) (s2 rfl)))))))⟩
theorem Un:Br cf d Z 3 x y (cF 3 x y R) Z:=by
 have hm:=dW x 27 (by decide)
 have em:=pL (cf:=cf) (Z:=Z) (J:=gs 3 x y d none none none none) (i:=1) (x:=x) (n:=27) rfl (by decide)
 have ea:ai cf ae (.bin .add (.bin .add (.gl 50) (.gl 47)) (.gl 51)) (gs 3 x y d none none none none) Z=some (.ok (.ah ((jo++gy++ir).map jm)),Z):=rfl
 have e4:=bR ea em (idx_map jm (0,0,0) (jo++gy++ir) (by decide) _ hm.1 hm.2 Z)
 rw[cF,if_neg (by decide),if_neg (by decide),if_neg (by decide),if_pos rfl]
 dsimp only
 generalize (jo++gy++ir).getD (x.fmod 27).toNat (0,0,0)=s at e4⊢
 have ec:ai cf ae (.cmp .gt (.bin .mod (.aa 1) (.k (.int 27))) (.k (.int 15))) (gs 3 x y d none none (some (.int (24+y.fmod 5))) (some (jm s))) Z=some (.ok (.bool (decide (x.fmod 27>15))),Z):=rfl
 have hv:Cp x y=bif decide (x.fmod 27>15) then 9+y.fmod 5 else 24+y.fmod 5:=(Bool.cond_decide _ _ _).symm
 rw[hv]
 cases EP:decide (x.fmod 27>15) with
 |true=>rw[EP] at ec;exact⟨_,bK rfl (bK rfl (bK rfl (kK rfl (aP (cG e4) (aP (cG (v:=.int (24+y.fmod 5)) rfl) (sQ (v:=.int (9+y.fmod 5)) ec rfl rfl))))))⟩
 |false=>rw[EP] at ec;exact⟨_,bK rfl (bK rfl (bK rfl (kK rfl (aP (cG e4) (aP (cG (v:=.int (24+y.fmod 5)) rfl) (bK ec rfl))))))⟩
theorem Qo:ai cf ae (.and (.cons (.cmp .eq (.aa 0) (.k (.int 4))) (.cons (.cmp .lt (.bin .mod (.aa 1) (.k (.int 19))) (.k (.int 7))) .nil))) (gs 4 x y d none none none none) Z=some (.ok (.bool (decide (x.fmod 19<7))),Z):=
 lR (x:=true) rfl (o9 (d8 (pL (i:=1) (x:=x) (n:=19) rfl (by decide)) rfl rfl))
theorem Uo(hc:x.fmod 19<7):Br cf d Z 4 x y (cF 4 x y R) Z:=by
 have hm:=dW x 19 (by decide)
 have e4:ai cf ae (.aq (.gl 47) (.bin .mod (.aa 1) (.k (.int 19)))) (gs 4 x y d none none none none) Z=some (.ok (jm (gy.getD (x.fmod 19).toNat (0,0,0))),Z):=
  pM (pL (x:=x) (n:=19) rfl (by decide)) (by rw[show ae 47=mG from rfl,Ue];exact idx_map jm (0,0,0) gy (by decide) _ hm.1 hc _)
 have ec:=Qo cf (d:=d) (Z:=Z) x y
 rw[decide_eq_true hc] at ec
 rw[cF,if_neg (by decide),if_neg (by decide),if_neg (by decide),if_neg (by decide),if_pos ⟨rfl,hc⟩]
 dsimp only
 generalize gy.getD (x.fmod 19).toNat (0,0,0)=s at e4⊢
 exact⟨_,bK rfl (bK rfl (bK rfl (bK rfl (kK ec (aP (cG e4) rfl)))))⟩
theorem RS(hc:¬x.fmod 19<7){ak:af}(e1:cf 39 [.int (x.fmod 19-7),.ref d] Z=some (.ok (j6 (eE (x.fmod 19-7) R)),ak)):Br cf d Z 4 x y (cF 4 x y R) ak:=by
 have ec:=Qo cf (d:=d) (Z:=Z) x y
 rw[decide_eq_false hc] at ec
 rw[cF,if_neg (by decide),if_neg (by decide),if_neg (by decide),if_neg (by decide),if_neg λh=>hc h.2,if_pos rfl]
 have es:ai cf ae (.bin .sub (.bin .mod (.aa 1) (.k (.int 19))) (.k (.int 7))) (gs 4 x y d none none none none) Z=some (.ok (.int (x.fmod 19-7)),Z):=df (pL (x:=x) (n:=19) rfl (by decide)) rfl rfl
 have er:ai cf ae (.aC 39 (.cons (.bin .sub (.bin .mod (.aa 1) (.k (.int 19))) (.k (.int 7))) (.cons (.aa 3) .nil))) (gs 4 x y d none none none none) Z=some (.ok (j6 (eE (x.fmod 19-7) R)),ak):=
  aM (v:=[.int (x.fmod 19-7),.ref d]) (aM es (aM (v:=[.ref d]) (aM (v:=.ref d) (ak:=Z) rfl rfl) rfl)) e1
 exact⟨_,bK rfl (bK rfl (bK rfl (bK rfl (bK ec (kK rfl (y_ret er))))))⟩
theorem Up(way:Int)(h0:way≠0)(h1:way≠1)(h2:way≠2)(h3:way≠3)(h4:way≠4):Br cf d Z way x y (cF way x y R) Z:=by
 have hm:=dW x 85 (by decide)
 have e4:ai cf ae (.aq (.gl 46) (.bin .mod (.aa 1) (.aO .len (.gl 46)))) (gs way x y d none none none none) Z=some (.ok (j6 (jW.getD (x.fmod 85).toNat ([],[]))),Z):=
  pM (sP (x:=x) (n:=85) rfl rfl (by decide)) (by rw[show ae 46=j7 from rfl,Uh];exact idx_map j6 ([],[]) jW (by decide) _ hm.1 hm.2 _)
 have no:∀k:Int,way≠k->ai cf ae (.cmp .eq (.aa 0) (.k (.int k))) (gs way x y d none none none none) Z=some (.ok (.bool false),Z):=λk hk=>(kJ (x:=way) (y:=k) rfl rfl).trans (by rw[decide_eq_false hk])
 rw[cF,if_neg h0,if_neg h1,if_neg h2,if_neg h3,if_neg λh=>h4 h.1,if_neg h4]
 exact⟨_,bK (no 0 h0) (bK (no 1 h1) (bK (no 2 h2) (bK (no 3 h3) (bK (zK (no 4 h4)) (bK (no 4 h4) (y_ret e4))))))⟩
end
theorem ES(n:Nat){d n0 b:Nat}{aa:Int->Nat}{R:Int->List Row}{Z:af}(h:RD d n0 b aL aa R Z)(hb:b<=30000)(hn:jD R)(way x y:Int):
  ∃ag,ax aj ae (n+2) 38 [.int way,.int x,.int y,.ref d] Z=some (.ok (j6 (cF way x y R)),ag)/\RD d n0 b aL aa R ag/\Fr n0 Z ag:=by
 have go:∀{ag},Br (ax aj ae (n+1)) d Z way x y (cF way x y R) ag->ax aj ae (n+2) 38 [.int way,.int x,.int y,.ref d] Z=some (.ok (j6 (cF way x y R)),ag):=λh=>h.elim λJ e=>bN rfl rfl e
 by_cases h0:way=0
 ·subst h0;exact⟨Z,go (Uk _ x y),h,Fr.refl _ _⟩
 by_cases h1:way=1
 ·subst h1;exact⟨Z,go (Ul _ x y),h,Fr.refl _ _⟩
 by_cases h2:way=2
 ·subst h2;exact⟨Z,go (Um _ x y h (bJ hb (by decide))),h,Fr.refl _ _⟩
 by_cases h3:way=3
 ·subst h3;exact⟨Z,go (Un _ x y),h,Fr.refl _ _⟩
 by_cases h4:way=4
 ·subst h4
  by_cases hc:x.fmod 19<7
  ·exact⟨Z,go (Uo _ x y hc),h,Fr.refl _ _⟩
  ·obtain ⟨ak,e1,r⟩:=zC n h hb hn (x.fmod 19-7) (Int.sub_nonneg_of_le (Int.not_lt.mp hc))
   exact⟨ak,go (RS _ x y hc e1),r⟩
 exact⟨Z,go (Up _ x y way h0 h1 h2 h3 h4),h,Fr.refl _ _⟩
structure TD(jt dt n1 b:Nat)(ks:List Int)(aa:Int->Nat)(R:Int->List Row)(Z:af):Prop where
 rd:RD dt n1 b ks aa R Z
 at_:ar Z jt=some (.attrs (some (.ref dt)))
 no:∀t,t∉ks->R t=[]
 nj:n1<=jt
noncomputable def gN(ks:List Int)(t:Int):List Int:=if t∈ks then ks else ks++[t]
noncomputable def mv(n1 dt:Nat)(ks ny:List Int)(aa bq:Int->Nat)(Z ag:af):Prop:=Fr n1 Z ag/\∀c o,ar Z c=some o->c≠dt->(∀k∈ks,aa k≠c)->ar ag c=some o/\∀k∈ny,bq k≠c
section
variable{jt dt n1 b:Nat}{ks:List Int}{aa:Int->Nat}{R:Int->List Row}{Z:af}
theorem RD.key(h:RD dt n1 b ks aa R Z){t:Int}(ht:t∉ks)(hR:R t=[]){i:Nat}(hi:Z.length<=i)(hn:n1<=i)(hl:ks.length<60){ak:af}(hs:∀i o,ar Z i=some o->ar ak i=some o)(hg:ar ak i=some (.list [])):
  RD dt n1 b (ks++[t]) (fR aa t i) R (sset ak dt (.dict .int (cn (eg aa ks) (.int t) (.ref i)))):=by
 have hd:=bA _ _ _ h.dict
 have lt:∀k'∈ks,aa k'≠i:=λk' dE=>Nat.ne_of_lt (Nat.lt_of_lt_of_le (bA _ _ _ (h.at_ k' dE)) hi)
 have dC:∀k'∈ks,k'≠t:=λk' dE e=>ht (e▸dE)
 have mem:∀{k'},k'∈ks++[t]->k'∈ks\/k'=t:=λh=>(List.mem_append.mp h).imp_right c_
 have old:∀{k'},k'∈ks->fR aa t i k'=aa k':=λm=>if_neg (dC _ m)
 have new:fR aa t i t=i:=if_pos rfl
 refine⟨?_,λk' dE=> ?_,λk1 h1 k2 h2 e=> ?_,h.nd,λk' dE=> ?_,λk' dE=> ?_,?_,?_⟩
 ·rw[O3 aa t i ht];exact eN _ _ _ (bA _ _ _ (hs _ _ h.dict))
 ·rcases mem dE with m | m
  ·rw[old m];exact(bO _ _ _ _ (h.ne m)).trans (hs _ _ (h.at_ _ m))
  ·rw[m,new,hR];exact(bO _ _ _ _ (Nat.ne_of_gt (Nat.lt_of_lt_of_le hd hi))).trans hg
 ·rcases mem h1 with g1 | g1
  ·rw[old g1] at e
   rcases mem h2 with g2 | g2
   ·rw[old g2] at e;exact h.inj _ g1 _ g2 e
   ·rw[g2,new] at e;exact absurd e (lt _ g1)
  ·rw[g1,new] at e
   rcases mem h2 with g2 | g2
   ·rw[old g2] at e;exact absurd e.symm (lt _ g2)
   ·rw[g1,g2]
 ·rcases mem dE with m | m
  ·rw[old m];exact h.nl _ m
  ·rw[m,new];exact hn
 ·rcases mem dE with m | m
  ·exact h.ln _ m
  ·rw[m,hR];exact Nat.zero_le _
 ·exact List.nodup_append.mpr ⟨h.nk,List.pairwise_singleton _ _,λa ha b hb=>c_ hb▸dC _ ha⟩
 ·rw[List.length_append];exact hl
theorem TD.keep(h:TD jt dt n1 b ks aa R Z){ag:af}(hk:∀i o,ar Z i=some o->ar ag i=some o):TD jt dt n1 b ks aa R ag:=
 {h with rd:=h.rd.keep hk,at_:=hk _ _ h.at_}
theorem TD.jd(h:TD jt dt n1 b ks aa R Z):jt≠dt:=λe=>by have:=h.at_;rw[e,h.rd.dict] at this;exact nomatch this
theorem TD.jl(h:TD jt dt n1 b ks aa R Z){k:Int}(hk:k∈ks):jt≠aa k:=λe=>by have:=h.at_;rw[e,h.rd.at_ k hk] at this;exact nomatch this
theorem J8{ks:List Int}{t:Int}:t∈gN ks t:=by
 by_cases h:t∈ks
 ·rw[gN,if_pos h];exact h
 ·rw[gN,if_neg h];exact List.mem_append_right _ cR
variable{cf:Nat->List PV->af->aF PV}
theorem J9(h:TD jt dt n1 b ks aa R Z)(hl:ks.length<60)(t:Int){i:Nat}(hi:i=Z.length):∃ak fJ,vP (.ref dt) (.int t) (.ref i) (Z++[.list []])=some (.ref (fJ t),ak)/\TD jt dt n1 b (gN ks t) fJ R ak/\mv n1 dt ks (gN ks t) aa fJ Z ak:=by
 subst hi
 have wN:=bJ h.rd.nd (Nat.le_of_lt (bA _ _ _ h.rd.dict))
 have hd2:ar (Z++[.list []]) dt=_:=bS Z [.list []] _ _ h.rd.dict
 have Nl:aS (eg aa ks)=true:=cx (bJ h.rd.lk (by decide))
 have hm:vP (.ref dt) (.int t) (.ref Z.length) (Z++[.list []])=(match bj (eg aa ks) (.int t) with | some v=>some (v,Z++[.list []]) | .none=>some (.ref Z.length,sset (Z++[.list []]) dt (.dict .int (cn (eg aa ks) (.int t) (.ref Z.length))))):=by
  show ((ar (Z++[.list []]) dt).bind λo=>(ji o).bind λq=>(intD q.1).bind λO=>aJ (aS q.2) (match bj q.2 (.int t) with | some v=>some (v,Z++[.list []]) | .none=>some (.ref Z.length,sset (Z++[.list []]) dt (.dict .int (cn q.2 (.int t) (.ref Z.length))))))=_
  rw[hd2]
  show aJ (aS (eg aa ks)) _=_
  rw[Nl];rfl
 rw[hm]
 by_cases ht:t∈ks
 ·rw[ya aa t ht,gN,if_pos ht]
  exact⟨_,aa,rfl,h.keep (bS _ _),Fr.app _ _ wN,λc o g O hc=>⟨bS _ _ _ _ g,hc⟩⟩
 ·rw[Ie aa t ht,gN,if_neg ht]
  refine⟨_,fR aa t Z.length,congrArg (λx=>some (PV.ref x,_)) (if_pos rfl).symm,⟨h.rd.key ht (h.no t ht) (Nat.le_refl _) wN hl (bS _ _) (bM _ _),(bO _ _ _ _ h.jd).trans (bS _ _ _ _ h.at_),λt' yg=>h.no t' λhh=>yg (List.mem_append_left _ hh),h.nj⟩,
   (Fr.app _ _ wN).trans (Fr.set _ _ h.rd.nd),λc o g nH hc=>⟨(bO _ _ _ _ nH).trans (bS _ _ _ _ g),λk hk=> ?_⟩⟩
  by_cases e:k=t
  ·rw[fR,if_pos e];exact Nat.ne_of_gt (bA _ _ _ g)
  ·rw[fR,if_neg e];exact hc k ((List.mem_append.mp hk).resolve_right λm=>e (c_ m))
theorem Ka(h:TD jt dt n1 b ks aa R Z)(hb:b<=30000)(hl:ks.length<60)(t:Int)(r:Row):
  ∃ag bq v J,au cf ae jL.body [some (.inst 1 jt),some (.int t),some (pr r)] Z=some (.ok (.ret v,J),ag)/\TD jt dt n1 (b+1) (gN ks t) bq (up R t (R t++[r])) ag/\mv n1 dt ks (gN ks t) aa bq Z ag:=by
 obtain ⟨ak,fJ,e1,h1,f1,c1⟩:=J9 h hl t rfl
 have iL:t∈gN ks t:=J8
 have kh:=h1.rd.at_ t iL
 have h3:TD jt dt n1 (b+1) (gN ks t) fJ (up R t (R t++[r])) (sset ak (fJ t) (.list ((R t).map pr++[pr r]))):=
  ⟨h1.rd.push iL r,(bO _ _ _ _ (h1.jl iL)).trans h1.at_,λt' yg=>(cQ λ(e:t'=t)=>yg (e▸iL)).trans (h1.no t' yg),h1.nj⟩
 have Qp:b+1<=60000:=bJ (Nat.add_le_add_right hb 1) (by decide)
 have em:ai cf ae (.aU (.attr (.aa 0)) 1 (.cons (.aa 1) (.cons (.list .nil) .nil))) [some (.inst 1 jt),some (.int t),some (pr r)] Z=some (.ok (.ref (fJ t)),ak):=by
  refine(iv (vs:=[.int t,.ref Z.length]) (ak:=Z++[.list []]) (md rfl h.at_ (by decide)) (zL h.rd.dict) rfl).trans ?_
  show FR.lift (vP (.ref dt) (.int t) (.ref Z.length) (Z++[.list []]))=_
  rw[e1];rfl
 have ea:ai cf ae (.aU (.aU (.attr (.aa 0)) 1 (.cons (.aa 1) (.cons (.list .nil) .nil))) 2 (.cons (.aa 2) .nil)) [some (.inst 1 jt),some (.int t),some (pr r)] Z=some (.ok .none,sset ak (fJ t) (.list ((R t).map pr++[pr r]))):=by
  refine aM em ?_
  show aJ (dj 2 (.ref (fJ t)) ak) (FR.lift (te (.ref (fJ t)) (pr r) ak))=_
  rw[tA kh,wm kh (h1.rd.aS (Nat.le_of_succ_le Qp) iL)];rfl
 refine⟨_,fJ,_,_,aP (j8 ea) (y_ret (v:=.int (up R t (R t++[r]) t).length) ?_),h3,f1.trans (Fr.set _ _ (h1.rd.nl t iL)),λc o g nH hc=>⟨(bO _ _ _ _ λx=>(c1 c o g nH hc).2 t iL x.symm).trans (c1 c o g nH hc).1,(c1 c o g nH hc).2⟩⟩
 refine aM (v:=.ref (fJ t)) (bR (x:=.ref dt) (y:=.int t) (md rfl h3.at_ (by decide)) rfl (h3.rd.get iL)) ?_
 rw[len_list (h3.rd.at_ t iL) (h3.rd.aS Qp iL),List.length_map];rfl
theorem ND(n:Nat)(h:TD jt dt n1 b ks aa R Z)(hb:b<=30000)(hl:ks.length<60)(t:Int)(r:Row):
  ∃ag bq v,ax aj ae (n+1) 104 [.inst 1 jt,.int t,pr r] Z=some (.ok v,ag)/\TD jt dt n1 (b+1) (gN ks t) bq (up R t (R t++[r])) ag/\mv n1 dt ks (gN ks t) aa bq Z ag:=by
 obtain ⟨ag,bq,v,J,e,r⟩:=Ka h hb hl t r
 exact⟨ag,bq,v,bN rfl rfl e,r⟩
end
theorem lC(aa:Int->Nat):∀(ks:List Int),intKeys (eg aa ks)=some ks
 |[]=>rfl
 |k::ks=>by
  show ((intKeys (eg aa ks)).bind λl=>some (k::l))=_
  rw[lC aa ks];rfl
theorem uR:∀(l:List Int),l.Pairwise (· < ·)->gV (l.map .int)=some (l.map .int)
 |[],_=>rfl
 |x::l,h=>by
  have h:=List.pairwise_cons.mp h
  show (gV (l.map .int)).bind (tc (.int x))=_
  rw[uR l h.2]
  cases l with
  |nil=>rfl
  |cons y l=>
   show (bif decide (x<y) then some (PV.int x::.int y::l.map .int) else _)=_
   rw[decide_eq_true (h.1 y cR)];rfl
theorem NF{R:Int->List Row}{t:Int}(h:R t=[]):up R t []=R:=funext λk=>by
 by_cases e:k=t
 ·rw[e,h];exact up_eq
 ·exact cQ e
theorem vM(R:Int->List Row)(t:Int)(l l':List Row):up (up R t l) t l'=up R t l':=funext λk=>by
 by_cases e:k=t
 ·rw[e,up_eq,up_eq]
 ·rw[cQ e,cQ e,cQ e]
theorem mv.refl{n1 dt:Nat}{ks:List Int}{aa:Int->Nat}{Z:af}:mv n1 dt ks ks aa aa Z Z:=⟨Fr.refl _ _,λO O a O k=>⟨a,k⟩⟩
theorem mv.trans{n1 dt:Nat}{ks Qq Qr:List Int}{aa fJ eU:Int->Nat}{Z ak bk:af}(h:mv n1 dt ks Qq aa fJ Z ak)(g:mv n1 dt Qq Qr fJ eU ak bk):mv n1 dt ks Qr aa eU Z bk:=
 ⟨h.1.trans g.1,λc o a b k=>g.2 c o (h.2 c o a b k).1 b (h.2 c o a b k).2⟩
noncomputable def kj(ks:List Int)(t:Int):Nat->List Int
 |0=>ks
 |_+1=>ks++[t]
noncomputable abbrev gO(q:Nat->Option PV)(d jt:Nat)(t v:Option PV):aD:=[q 0,q 1,q 2,q 3,q 4,some (.ref d),q 6,q 7,q 8,some (.inst 1 jt),t,v]
noncomputable abbrev yh:bG:=.cons (.expr (.aU (.aa 9) 5 (.cons (.aa 10) (.cons (.aa 11) .nil)))) .nil
section
variable{cf:Nat->List PV->af->aF PV}{d n0 n1 jt dt b b2:Nat}{aa eU:Int->Nat}{R R2:Int->List Row}{Z:af}{ks:List Int}
theorem Cr(yi:∀vs Z,cf 104 vs Z=ax aj ae 11 104 vs Z)(h:TD jt dt n1 b ks aa R Z)(hb:b<=30000)(hl:ks.length<60)(t:Int)(r:Row)(q:Nat->Option PV):
  ∃ag bq,au cf ae yh (gO q d jt (some (.int t)) (some (pr r))) Z=some (.ok (.next,gO q d jt (some (.int t)) (some (pr r))),ag)/\TD jt dt n1 (b+1) (gN ks t) bq (up R t (R t++[r])) ag/\mv n1 dt ks (gN ks t) aa bq Z ag:=by
 obtain ⟨ag,bq,v,e,p⟩:=ND 10 h hb hl t r
 have e:gw cf (.inst 1 jt) 5 [.int t,pr r] Z=_:=(yi _ _).trans e
 exact⟨ag,bq,aP (j8 ((iv (o:=.aa 9) (vs:=[.int t,pr r]) (ak:=Z) rfl (tB h.at_) rfl).trans e)) rfl,p⟩
theorem GU(yi:∀vs Z,cf 104 vs Z=ax aj ae 11 104 vs Z)(h:RD d n0 b aL aa R Z)(Cs:∀k∈aL,aa k<n1)(h2:TD jt dt n1 b2 ks eU R2 Z)(hb:b2+b<=20000)(hk:ks.length<59)(t:Int)(ht:t∈aL)(hn:t∉ks)(q:Nat->Option PV)(w:Option PV):
  ∃ag bq v,br cf ae (.bt (.one 11) (.plain (.aq (.aa 5) (.aa 10))) yh) (gO q d jt (some (.int t)) w) Z=some (.ok (.next,gO q d jt (some (.int t)) v),ag)/\
   TD jt dt n1 (b2+b) (kj ks t (R t).length) bq (up R2 t (R t)) ag/\mv n1 dt ks (kj ks t (R t).length) eU bq Z ag:=by
 have kh:=h.at_ t ht
 have dv:=Cs t ht
 have hf:=mn (body:=au cf ae yh) (t:=.one 11) (en:=false) (src:=.live (aa t)) (l:=(R t).map pr)
  (Inv:=λj J ag=>(∃bq,TD jt dt n1 (b2+j) (kj ks t j) bq (up R2 t ((R t).take j)) ag/\mv n1 dt ks (kj ks t j) eU bq Z ag)/\∃v,J=gO q d jt (some (.int t)) v)
  (λk J ag hi=>hi.1.elim λO h=>mq (h.2.1.get kh dv)) ?_ ((R t).map pr).length 0 (gO q d jt (some (.int t)) w) Z (Nat.zero_add _) ⟨⟨eU,by rw[List.take_zero,NF (h2.no t hn)];exact h2,mv.refl⟩,_,rfl⟩
 ·obtain ⟨aY,ag,e1,⟨bq,h1,c1⟩,v,rfl⟩:=hf
  rw[List.length_map] at h1 c1
  rw[List.take_length] at h1
  exact⟨ag,bq,v,(jX (jq (v:=.ref (aa t)) (bR (x:=.ref d) (y:=.int t) rfl rfl (h.get ht)) (gk kh))).trans (by rw[fD kh];exact e1),{h1 with rd:=h1.rd.mono (Nat.add_le_add_left (h.ln t ht) b2)},c1⟩
 ·intro j x J ak hx hi
  obtain ⟨⟨bq,h1,c1⟩,v,rfl⟩:=hi
  rw[List.getElem?_map] at hx
  obtain ⟨r,hr,rfl⟩:=Option.map_eq_some_iff.mp hx
  have hj:=Nat.lt_of_lt_of_le (List.getElem?_eq_some_iff.mp hr).1 (h.ln t ht)
  have hl:(kj ks t j).length<60:=by
   cases j with
   |zero=>exact Nat.lt_succ_of_lt hk
   |succ j=>rw[kj,List.length_append];exact Nat.succ_lt_succ hk
  have Qs:gN (kj ks t j) t=kj ks t (j+1):=by
   cases j with
   |zero=>exact if_neg hn
   |succ j=>exact if_pos (List.mem_append_right _ cR)
  obtain ⟨bk,Ct,e2,cj,f2⟩:=Cr (d:=d) yi h1 (bJ (Nat.add_le_add_left (Nat.le_of_lt hj) b2) (bJ hb (by decide))) hl t r q
  rw[Qs,up_eq,vM] at cj
  rw[Qs] at f2
  exact⟨_,rfl,_,bk,e2,⟨Ct,by rw[List.take_add_one,hr,Option.toList_some];exact cj,c1.trans f2⟩,_,rfl⟩
noncomputable def hJ(R:Int->List Row)(l:List Int):Int->List Row:=λt=>if t∈l then R t else []
noncomputable def fm(R:Int->List Row)(l:List Int):List Int:=l.filter λt=> !(R t).isEmpty
theorem Cu(R:Int->List Row)(l:List Int)(t:Int):hJ R (l++[t])=up (hJ R l) t (R t):=funext λk=>by
 rw[hJ]
 by_cases e:k=t
 ·rw[e,up_eq,if_pos (List.mem_append_right _ cR)]
 ·rw[cQ e,hJ]
  by_cases m:k∈l
  ·rw[if_pos m,if_pos (List.mem_append_left _ m)]
  ·rw[if_neg m,if_neg λh=>(List.mem_append.mp h).elim m λh=>e (c_ h)]
theorem Cv(R:Int->List Row)(l:List Int)(t:Int):fm R (l++[t])=kj (fm R l) t (R t).length:=by
 rw[fm,List.filter_append]
 cases h:R t with
 |nil=>rw[List.filter_cons_of_neg (by rw[h];exact Bool.noConfusion)];exact List.append_nil _
 |cons r rs=>rw[List.filter_cons_of_pos (by rw[h];rfl)];rfl
theorem GW(yi:∀vs Z,cf 104 vs Z=ax aj ae 11 104 vs Z)(h:RD d n0 b aL aa R Z)(hd:d<n1)(Cs:∀k∈aL,aa k<n1)(h2:TD jt dt n1 0 [] eU (λO=>[]) Z)(hb:b<=500)(q:Nat->Option PV)(NG NH:Option PV):
  ∃ag bq v w,br cf ae (.bt (.one 10) (.plain (.aO .sorted (.aa 5))) (.cons (.bt (.one 11) (.plain (.aq (.aa 5) (.aa 10))) yh) .nil)) (gO q d jt NG NH) Z=some (.ok (.next,gO q d jt v w),ag)/\
   TD jt dt n1 (23*b) (fm R aL) bq (hJ R aL) ag/\Fr n1 Z ag:=by
 have Ii:=h.dict
 have O6:builtin .sorted (.ref d) Z=some (.ref Z.length,Z++[.list (aL.map .int)]):=by
  show (ar Z d).bind (vw Z)=_
  rw[Ii]
  show ((intKeys (eg aa aL)).bind λks=>aJ (decide (ks.length<64)) ((gV (ks.map .int)).bind λl=>some (PV.ref Z.length,Z++[.list l])))=_
  rw[lC];rfl
 have DB:n1<=Z.length:=bJ h2.nj (Nat.le_of_lt (bA _ _ _ h2.at_))
 have hf:=mn (body:=au cf ae (.cons (.bt (.one 11) (.plain (.aq (.aa 5) (.aa 10))) yh) .nil)) (t:=.one 10) (en:=false) (src:=.live Z.length) (l:=aL.map .int)
  (Inv:=λk J ag=>(∃bq,TD jt dt n1 (k*b) (fm R (aL.take k)) bq (hJ R (aL.take k)) ag/\∀t∈fm R (aL.take k),bq t≠Z.length)/\Fr n1 Z ag/\ar ag Z.length=some (.list (aL.map .int))/\∃v w,J=gO q d jt v w)
  (λk J ag hi=>mq hi.2.2.1) ?_ 23 0 (gO q d jt NG NH) (Z++[.list (aL.map .int)]) rfl ⟨⟨eU,by rw[Nat.zero_mul];exact h2.keep (bS _ _),λt ht=>absurd ht List.not_mem_nil⟩,Fr.app _ _ DB,bM _ _,_,_,rfl⟩
 ·obtain ⟨aY,ag,e1,⟨bq,h1,_⟩,f1,_,v,w,rfl⟩:=hf
  have es:ai cf ae (.aO .sorted (.aa 5)) (gO q d jt NG NH) Z=some (.ok (.ref Z.length),Z++[.list (aL.map .int)]):=aM (v:=.ref d) (ak:=Z) rfl (congrArg FR.lift O6)
  exact⟨ag,bq,v,w,(jX (jq es (gk (bM _ _)))).trans (by rw[fD (bM _ _)];exact e1),h1,f1⟩
 ·intro k x J ak hx hi
  obtain ⟨⟨fJ,h1,c1⟩,f1,O7,v,w,rfl⟩:=hi
  rw[List.getElem?_map] at hx
  obtain ⟨t,ht,rfl⟩:=Option.map_eq_some_iff.mp hx
  have hk:k<23:=(List.getElem?_eq_some_iff.mp ht).1
  have Cw:aL.take (k+1)=aL.take k++[t]:=by rw[List.take_add_one,ht,Option.toList_some]
  have Uq:t∉aL.take k:=λhh=>(List.nodup_append.mp (Cw▸h.nk.sublist (List.take_sublist (k+1) _))).2.2 t hh t cR rfl
  have h':RD d n0 b aL aa R ak:={h with dict:=f1.get Ii hd,at_:=λk hk=>f1.get (h.at_ k hk) (Cs k hk)}
  obtain ⟨bk,Ct,v2,e2,cj,f2⟩:=GU yi h' Cs h1 (Nat.succ_mul k b▸bJ (Nat.mul_le_mul hk hb) (by decide))
   (Nat.lt_of_le_of_lt (bJ (List.length_filter_le _ _) (List.length_take_le k aL)) (Nat.lt_trans hk (by decide))) t (List.mem_of_getElem? ht) (λhh=>Uq (List.mem_filter.mp hh).1) q w
  have a2:=f2.2 Z.length _ O7 (Nat.ne_of_gt (bA _ _ _ h2.rd.dict)) c1
  rw[<-Cv] at a2 cj
  exact⟨_,rfl,_,bk,aP e2 rfl,⟨Ct,by rw[Cw,Cu,Nat.succ_mul];exact cj,by rw[Cw];exact a2.2⟩,f1.trans f2.1,a2.1,_,_,rfl⟩
end
noncomputable def dr(ns:List Int):List Int:=(ns.take 6).map λn=>n.fmod 1000003
noncomputable def hh(ns:List Int)(i:Nat):Int:=(dr ns++[0,0,0]).getD i 0
noncomputable def eH(ns:List Int):List Int:=(dr ns).drop 3
theorem oY(ns:List Int):(dr ns).length<=6:=by rw[dr,List.length_map];exact List.length_take_le _ _
section
variable{cf:Nat->List PV->af->aF PV}{J:aD}{Z ak:af}
theorem uS{F:PV->af->aF (Option PV)}{a:Nat}{l:List Int}{f:Int->Int}(g:ar Z a=some (.list (l.map .int)))(hF:∀x,F (.int x) Z=some (.ok (some (.int (f x))),Z))(hl:l.length<=60):
  ∀(j k:Nat),k+j=l.length->cu F (.live a) false (j+1) k Z=some (.ok ((l.drop k).map λx=>PV.int (f x)),Z)
 |0,k,e=>by
  have e:l.length<=k:=Nat.le_of_eq e.symm
  rw[List.drop_eq_nil_of_le e]
  exact jr ((mq g).trans (congrArg some (List.getElem?_eq_none (by rw[List.length_map];exact e))))
 |j+1,k,e=>by
  have dv:k<l.length:=e▸Nat.lt_add_of_pos_right (Nat.succ_pos j)
  rw[List.drop_eq_getElem_cons dv]
  exact nU ((mq g).trans (congrArg some (by rw[List.getElem?_map,List.getElem?_eq_getElem dv];rfl))) (bJ (Nat.le_of_lt dv) (bJ hl (by decide))) (hF _) (uS g hF hl j (k+1) ((Nat.succ_add_eq_add_succ k j).trans e))
theorem comp_map{e elt:ME}{a:Nat}{l:List Int}{f:Int->Int}(hc:ai cf ae e J Z=some (.ok (.ref a),ak))(g:ar ak a=some (.list (l.map .int)))(he:∀x:Int,ai cf ae elt [some (.int x)] ak=some (.ok (.int (f x)),ak))(hl:l.length<=60):
  ai cf ae (.comp elt (.plain e) .no) J Z=some (.ok (.ref ak.length),ak++[.list ((l.map f).map .int)]):=by
 refine lQ (jq hc (gk g)) ?_
 rw[fD g,List.length_map,List.map_map]
 refine uS (f:=f) g (λx=> ?_) hl l.length 0 (Nat.zero_add _)
 show bp (ai cf ae elt [some (.int x)] ak) (λy Z=>av (some y) Z)=_
 rw[he];rfl
theorem take3(l:List Int):((l++[0,0,0]).map PV.int).take 3=[.int ((l++[0,0,0]).getD 0 0),.int ((l++[0,0,0]).getD 1 0),.int ((l++[0,0,0]).getD 2 0)]:=by
 cases l with
 |nil=>rfl
 |cons a l=>cases l with
  |nil=>rfl
  |cons b l=>cases l with
   |nil=>rfl
   |cons c l=>rfl
end
noncomputable def words:List PV:=texts.map .str
noncomputable def yj:List PV:=kR.map .bytes
noncomputable abbrev Cy(ns:List Int)(r:af):af:=.list ((ns.take 6).map .int)::.list ((dr ns).map .int)::.list [.int 0,.int 0,.int 0]::.list ((dr ns++[0,0,0]).map .int)::.list [.int (hh ns 0),.int (hh ns 1),.int (hh ns 2)]::r
noncomputable def pre(ns:List Int):af:=Cy ns [.attrs (some (.ref 9)),.list [.str []],.attrs (some (.ref 10)),.list [.bytes []],.list words,.list yj]
noncomputable abbrev ig(ns:List Int)(e f g h i j k:Option PV):aD:=[some (.dh (ns.map .int)),some (.ref 1),some (.ref 4),some (.inst 0 5),some (.inst 0 7),e,f,g,h,i,j,k]
theorem NI(ns:List Int)(n:Nat)(r:bG):au (ax aj ae (n+1)) ae (.cons (.aK 3 (.new 0 (.cons (.k (.str [])) .nil))) (.cons (.aK 4 (.new 0 (.cons (.k (.bytes [])) .nil))) (.cons (.setAttr (.aa 3) (.aO .list (.gl 49))) (.cons (.setAttr (.aa 4) (.aO .list (.gl 48))) r))))
  [some (.dh (ns.map .int)),some (.ref 1),some (.ref 4),none,none,none,none,none,none,none,none,none] (Cy ns [])=au (ax aj ae (n+1)) ae r (ig ns none none none none none none none) (pre ns):=rfl
theorem NJ(ns:List Int)(yk:ns.length<=63)(cf:Nat->List PV->af->aF PV)(r:bG):au cf ae (.cons (.aK 1 (.comp (.bin .mod (.aa 0) (.k (.int 1000003))) (.plain (.slice (.aa 0) .no (.yes (.k (.int 6))))) .no))
 (.cons (.aK 2 (.slice (.bin .add (.aa 1) (.list (.cons (.k (.int 0)) (.cons (.k (.int 0)) (.cons (.k (.int 0)) .nil))))) .no (.yes (.k (.int 3))))) r)) (some (.dh (ns.map .int))::List.replicate 11 none) []=
  au cf ae r [some (.dh (ns.map .int)),some (.ref 1),some (.ref 4),none,none,none,none,none,none,none,none,none] (Cy ns []):=by
 have c1:ai cf ae (.slice (.aa 0) .no (.yes (.k (.int 6)))) (some (.dh (ns.map .int))::List.replicate 11 none) []=some (.ok (.ref 0),[.list ((ns.take 6).map .int)]):=
  oW (v:=.dh (ns.map .int)) (l:=ns.map .int) (u:=.none) (w:=some (.int 6)) (i:=0) (j:=min 6 (ns.map PV.int).length) (r:=(.ref 0,[.list ((ns.take 6).map .int)])) rfl rfl rfl rfl (cx (bJ yk (by decide))) rfl (congrArg some (clipAt_nat _ 6)) (by
   show some (PV.ref 0,[MO.list ((ns.map PV.int).take (min 6 (ns.map PV.int).length))])=_
   rw[<-List.take_eq_take_min,List.map_take])
 have c2:=comp_map (f:=λx=>x.fmod 1000003) (elt:=.bin .mod (.aa 0) (.k (.int 1000003))) c1 rfl (λx=>rfl) (bJ (List.length_take_le _ _) (by decide))
 have hl:(dr ns++[0,0,0]).length<=9:=by rw[List.length_append];exact Nat.add_le_add_right (oY ns) 3
 have hm:(dr ns).map PV.int++[.int 0,.int 0,.int 0]=(dr ns++[0,0,0]).map .int:=(List.map_append (f:=PV.int) (l₁:=dr ns) (l₂:=[0,0,0])).symm
 have c3:=EJ (cf:=cf) (Z:=[.list ((ns.take 6).map .int),.list ((dr ns).map .int)]) (J:=some (.dh (ns.map .int))::some (.ref 1)::List.replicate 10 none) (X:=.aa 1) (iP:=.list (.cons (.k (.int 0)) (.cons (.k (.int 0)) (.cons (.k (.int 0)) .nil)))) (a:=1) (b:=2) (x:=(dr ns).map .int) (y:=[.int 0,.int 0,.int 0]) rfl rfl rfl rfl (hm▸cx (bJ hl (by decide)))
 rw[hm] at c3
 have c4:=oW (lo:=.no) (hi:=.yes (.k (.int 3))) (u:=.none) (w:=some (.int 3)) (i:=0) (j:=3) (r:=(.ref 4,Cy ns [])) c3 rfl rfl rfl (cx (bJ hl (by decide))) rfl (kI (by decide) (by
  rw[List.length_map,List.length_append];exact Int.ofNat_le.mpr (Nat.le_add_left 3 _))) (by
  show some (PV.ref 4,_++[MO.list (((dr ns++[0,0,0]).map PV.int).take 3)])=_
  rw[take3];rfl)
 exact aP (cG c2) (aP (cG c4) rfl)
theorem RT:words=texts.map .str:=rfl
theorem RU:yj=kR.map .bytes:=rfl
noncomputable def brk(ns:List Int)(R:Int->List Row):List Ed×List PV:=if (hh ns 1).fmod 8>0 then cF ((hh ns 1).fmod 8-1) (hh ns 2) ((hh ns 1).fdiv 8) R else ([],[])
noncomputable def ik(R:Int->List Row):Tb:=⟨hJ R aL,fm R aL,texts,kR⟩
noncomputable def Ij(t:Int):Ev->Bool
 |.r row=>decide (row.length=(bB t).length)
 |_=>true
noncomputable def pN(R:Int->List Row)(e:Ed):Bool:=t7 R e&&Ij e.t e.v
noncomputable def jU:(Int->List Row)->List Ed->Bool
 |_,[]=>true
 |R,e::es=>pN R e&&jU (eI R e) es
structure Good(R:Int->List Row)(want:List PV):Prop where
 e1:(early (ik R)).length<=1000
 e2:early (ik R)=[]->(rf (ik R)).length<=1000
 Ur:∃l1 l2,gu (aA (ik R))=some l1/\gu want=some l2/\hM (eqv 6) l1 l2=some true
noncomputable def eJ(R:Int->List Row):Prop:=(∀t,∀r∈R t,r.length=(bB t).length)/\(∀t,t∉aL->R t=[])
theorem eJ.put{R:Int->List Row}(h:eJ R){t:Int}(ht:t∈aL){l:List Row}(hl:∀r∈l,r.length=(bB t).length):eJ (up R t l):=by
 refine⟨λt' r hr=> ?_,λt' yg=>(cQ λ(e:t'=t)=>yg (e▸ht)).trans (h.2 t' yg)⟩
 by_cases e:t'=t
 ·rw[e,up_eq] at hr;rw[e];exact hl r hr
 ·rw[cQ e] at hr;exact h.1 t' r hr
theorem eJ.app{R:Int->List Row}(h:eJ R){t:Int}(ht:t∈aL){l:List Row}(hl:(l.all λr=>decide (r.length=(bB t).length))=true):eJ (up R t (R t++l)):=
 h.put ht λr hr=>(List.mem_append.mp hr).elim (h.1 t r) λm=>bV (List.all_eq_true.mp hl r m)
theorem Aq{α:Type}{d:α}{l:List (Int×α)}{t:Int}(h:t∉l.map (·.1)):look d l t=d:=by
 induction l with
 |nil=>rfl
 |cons p r ih=>exact(if_neg λ(e:p.1=t)=>h (e▸cR)).trans (ih λm=>h (List.mem_cons_of_mem _ m))
theorem NK(core:Int):eJ (R0 core):=by
 refine⟨λt r hr=> ?_,λt ht=>Aq ht⟩
 by_cases ht:t∈(Np core).map (·.1)
 ·have key:((Np core).all λp=>p.2.all λr=>decide (r.length=(bB p.1).length))=true:=rfl
  exact bV (List.all_eq_true.mp (List.all_eq_true.mp key _ (xB ht)) r hr)
 ·have e:R0 core t=[]:=Aq ht
  rw[e] at hr;exact absurd hr List.not_mem_nil
theorem GX{R:Int->List Row}(h:eJ R)(e:E):eJ (oU R e):=by
 have h3:=((h.app (t:=2) (by decide) (l:=[[1,e.nm,e.sp,e.ex,len R 4+1,len R 6+1]]) rfl).app (t:=4) (by decide) (l:=gZ e.f) (by rcases e.f with _ | _ | _<;>rfl)).app (t:=6) (by decide) (l:=hG e.m) (by rcases e.m with _ | _ | _<;>rfl)
 rw[cQ (R:=R) (t:=2) (k:=4) (by decide),cQ (t:=4) (k:=6) (by decide),cQ (R:=R) (t:=2) (k:=6) (by decide)] at h3
 exact h3
theorem sR(core:Int):∀(xs:List Int)(k:Nat){R:Int->List Row},eJ R->eJ (fC core k xs R)
 |[],_,_,h=>h
 |x::xs,k,_,h=>sR core xs (k+1) (GX h _)
theorem ll(core:Int)(xs:List Int):eJ (dg core xs):=by
 have h:=sR core xs 0 (NK core)
 rw[dg]
 generalize fC core 0 xs (R0 core)=R at h⊢
 by_cases hx:xs=[]
 ·rw[if_pos hx];exact h
 ·rw[if_neg hx]
  have h3:=((h.app (t:=9) (by decide) (l:=[[len R 2,len R 2*4]]) rfl).app (t:=43) (by decide) (l:=[[len R 6*2,8]]) rfl).app (t:=44) (by decide) (l:=[[3,len R 2*4]]) rfl
  rw[cQ (R:=R) (t:=9) (k:=43) (by decide),cQ (t:=43) (k:=44) (by decide),cQ (R:=R) (t:=9) (k:=44) (by decide)] at h3
  exact h3
theorem NL(core:Int):∀(xs:List Int)(k:Nat)(R:Int->List Row),fC core k xs R 32=R 32
 |[],_,_=>rfl
 |x::xs,k,R=>NL core xs (k+1) _
theorem Kb(core:Int)(xs:List Int):dg core xs 32=R0 core 32:=by
 rw[dg]
 by_cases hx:xs=[]
 ·rw[if_pos hx];exact NL core xs 0 _
 ·rw[if_neg hx];exact NL core xs 0 _
theorem GY(core:Int)(xs:List Int):jD (dg core xs):=
 ⟨λr hr=>(ll core xs).1 2 r hr,by rw[Kb];exact List.cons_ne_nil _ _,λr hr=>(ll core xs).1 32 r hr⟩
theorem Kd{R:Int->List Row}(h:eJ R){t row p:Int}{v:Ev}(he:t7 R ⟨t,row,p,v⟩=true)(hr:Ij t v=true):∀r∈oV R ⟨t,row,p,v⟩,r.length=(bB t).length:=by
 refine yd he (λVB ev ep=> ?_) (λep=> ?_) λhv p0 pl r1 rl=> ?_
 ·rw[ev] at hr⊢
  rw[oV,if_pos ep]
  exact λr m=>(List.mem_append.mp m).elim (h.1 t r) λm=>by rw[c_ m];exact bV hr
 ·rw[oV,if_neg (λe:p= -1=>absurd (ep.symm.trans e) (by decide)),if_pos ep]
  exact λr m=>h.1 t r (List.mem_of_mem_take m)
 ·rw[oV,if_neg (λe:p= -1=>absurd (e▸p0) (by decide)),if_neg (λe:p= -2=>absurd (e▸p0) (by decide))]
  refine λr m=>(List.mem_append.mp m).elim (λm=>(List.mem_append.mp m).elim (λm=>h.1 t r (List.mem_of_mem_take m)) λm=> ?_) λm=>h.1 t r (List.mem_of_mem_drop m)
  have EL:0<=row-1:=Int.sub_nonneg_of_le r1
  have dv:(row-1).toNat<(R t).length:=(Int.toNat_lt EL).mpr (Int.lt_of_lt_of_le (Int.sub_lt_self row (by decide)) rl)
  rw[c_ m,<-h.1 t _ (show (R t).getD (row-1).toNat []∈R t by rw[List.getD_eq_getElem?_getD,List.getElem?_eq_getElem dv];exact List.getElem_mem dv)]
  have hp:p.toNat<((R t).getD (row-1).toNat []).length:=(Int.toNat_lt p0).mpr pl
  show (((R t).getD (row-1).toNat []).take p.toNat++[Qh R v]++((R t).getD (row-1).toNat []).drop (p.toNat+1)).length=_
  rw[List.length_append,List.length_append,List.length_take,List.length_drop,Nat.min_eq_left (Nat.le_of_lt hp)]
  exact Nat.add_sub_cancel' hp
theorem ET{R:Int->List Row}(h:eJ R){e:Ed}(he:pN R e=true):eJ (eI R e):=
 have he:=b_ he
 h.put (Ig he.1) (Kd h he.1 he.2)
theorem EU:∀{es:List Ed}{R:Int->List Row},jU R es=true->eJ R->∀(k:Nat)(e:Ed),es[k]? =some e->pN ((es.take k).foldl eI R) e=true/\eJ ((es.take k).foldl eI R)
 |[],_,_,_,_,_,h=>nomatch h
 |x::es,R,ho,hw,0,e,h=>by cases h;exact⟨(b_ ho).1,hw⟩
 |x::es,R,ho,hw,k+1,e,h=>EU (b_ ho).2 (ET hw (b_ ho).1) k e h
theorem t8:∀{es:List Ed}{R:Int->List Row},jU R es=true->eJ R->eJ (es.foldl eI R)
 |[],_,_,hw=>hw
 |x::es,R,ho,hw=>t8 (es:=es) (R:=eI R x) (b_ ho).2 (ET hw (b_ ho).1)
theorem kM{R:Int->List Row}(hw:eJ R):hJ R aL=R:=funext λt=>by
 rw[hJ]
 by_cases h:t∈aL
 ·rw[if_pos h]
 ·rw[if_neg h,hw.2 t h]
theorem GZ{R:Int->List Row}(hw:eJ R)(hl:∀k∈aL,(R k).length<=500):Shape (ik R) where
 len t:=by
  show (hJ R aL t).length<=60000
  rw[kM hw]
  by_cases h:t∈aL
  ·exact bJ (hl t h) (by decide)
  ·rw[hw.2 t h];exact Nat.zero_le _
 txt:=by show texts.length<=60000;decide
 gG:=by
  have h:(kR.all λs=>decide (s.length<=60000))=true:=by decide
  exact λs hs=>bV (List.all_eq_true.mp h s hs)
 keys t ht:=(List.mem_filter.mp ht).1
 OY:=bJ (List.length_filter_le _ _) (by decide)
 nI t r hr:=hw.1 t r (kM hw▸hr)
noncomputable abbrev oZ(q:Nat->Option PV)(d:Nat)(es:List Ed)(v:Option PV):aD:=[q 0,q 1,q 2,q 3,q 4,some (.ref d),q 6,some (.ah (es.map jk)),v,q 9,q 10,q 11]
noncomputable abbrev Ik:bG:=.cons (.expr (.aC 40 (.cons (.aa 5) (.cons (.aq (.aa 8) (.k (.int 0))) (.cons (.aq (.aa 8) (.k (.int 1))) (.cons (.aq (.aa 8) (.k (.int 2))) (.cons (.aq (.aa 8) (.k (.int 3))) .nil))))))) .nil
theorem NM{cf:Nat->List PV->af->aF PV}{q:Nat->Option PV}{d:Nat}{es:List Ed}{e:Ed}{Z ag:af}(h:cf 40 [.ref d,.int e.t,.int e.row,.int e.p,pW e.v] Z=some (.ok .none,ag)):au cf ae Ik (oZ q d es (some (jk e))) Z=some (.ok (.next,oZ q d es (some (jk e))),ag):=
 have ev:bw cf ae (.cons (.aa 5) (.cons (.aq (.aa 8) (.k (.int 0))) (.cons (.aq (.aa 8) (.k (.int 1))) (.cons (.aq (.aa 8) (.k (.int 2))) (.cons (.aq (.aa 8) (.k (.int 3))) .nil))))) (oZ q d es (some (jk e))) Z=some (.ok [.ref d,.int e.t,.int e.row,.int e.p,pW e.v],Z):=rfl
 aP (j8 (aM ev h)) rfl
theorem G0(n:Nat){d n0:Nat}{aa:Int->Nat}{R:Int->List Row}{Z:af}(h:RD d n0 30 aL aa R Z)(hw:eJ R)(es:List Ed)(he:jU R es=true)(hl:es.length<=100)(q:Nat->Option PV)(p8:Option PV):
  ∃ag bq v,br (ax aj ae (n+1)) ae (.bt (.one 8) (.plain (.aa 7)) Ik) (oZ q d es p8) Z=some (.ok (.next,oZ q d es v),ag)/\RD d n0 150 aL bq (es.foldl eI R) ag/\Fr n0 Z ag:=by
 have hf:=mn (body:=au (ax aj ae (n+1)) ae Ik) (t:=.one 8) (en:=false) (src:=.ah (es.map jk)) (l:=es.map jk)
  (Inv:=λk J ag=>(∃bq,RD d n0 (30+k) aL bq ((es.take k).foldl eI R) ag)/\Fr n0 Z ag/\∃v,J=oZ q d es v)
  (λk J ag hi=>Nn) ?_ (es.map jk).length 0 (oZ q d es p8) Z (Nat.zero_add _) ⟨⟨aa,h⟩,Fr.refl _ _,_,rfl⟩
 ·obtain ⟨aY,ag,e1,⟨bq,h1⟩,f1,v,rfl⟩:=hf
  rw[List.length_map,List.take_length] at h1
  exact⟨ag,bq,v,e1,h1.mono (bJ (Nat.add_le_add_left hl 30) (by decide)),f1⟩
 ·intro k x J ak hx hi
  obtain ⟨⟨fJ,h1⟩,f1,v,rfl⟩:=hi
  rw[List.getElem?_map] at hx
  obtain ⟨e,hk,rfl⟩:=Option.map_eq_some_iff.mp hx
  obtain ⟨ho,Us⟩:=EU he hw k e hk
  obtain ⟨bk,eU,e2,h2,f2⟩:=J5 n h1 (bJ (Nat.add_le_add_left (bJ (Nat.le_of_lt (List.getElem?_eq_some_iff.mp hk).1) hl) 30) (by decide)) e (λr hr=>by rw[Us.1 _ r hr];exact fk _) (b_ ho).1
  exact⟨_,rfl,_,bk,NM e2,⟨eU,by rw[List.take_add_one,hk,Option.toList_some,List.foldl_append];exact h2⟩,f1.trans f2,_,rfl⟩
theorem Ke(n:Nat){jt dt n1 b:Nat}{aa:Int->Nat}{R:Int->List Row}{Z:af}(h:TD jt dt n1 b (fm R aL) aa (hJ R aL) Z)(hw:eJ R)(hl:∀k∈aL,(R k).length<=500){want:List PV}(g:Good R want)
  (x1:ar Z 5=some (.attrs (some (.ref 9)))) (x2:ar Z 9=some (.list words)) (y1:ar Z 7=some (.attrs (some (.ref 10)))) (y2:ar Z 10=some (.list yj)):
  ∃ag a,ax aj ae (n+7) 4 [.inst 1 jt,.inst 0 5,.inst 0 7] Z=some (.ok (.ref a),ag)/\ar ag a=some (.list (aA (ik R))):=by
 have Ut:aL.Pairwise (· < ·):=by decide
 have uI:(fm R aL).length<64:=Nat.lt_of_le_of_lt (List.length_filter_le _ _) (by decide)
 have ww:WW ⟨Z.length,jt,5,7,ik R,Z⟩:=⟨rfl,⟨dt,_,fm R aL,h.at_,h.rd.dict,λt=>by
  by_cases ht:t∈fm R aL
  ·exact .inr ⟨_,ya aa t ht,h.rd.at_ t ht⟩
  ·exact .inl ⟨Ie aa t ht,h.no t ht⟩,lC _ _,uI,uR _ (List.Pairwise.filter _ Ut)⟩,⟨9,x1,x2⟩,⟨10,y1,y2,rfl⟩⟩
 have hk:∀t,(ik R).R t≠[]->t∈fm R aL:=λt ht=>by
  have ht:hJ R aL t≠[]:=ht
  rw[kM hw] at ht
  refine List.mem_filter.mpr ⟨Decidable.byContradiction λm=>ht (hw.2 t m),?_⟩
  cases e:R t with
  |nil=>exact absurd e ht
  |cons r rs=>rfl
 obtain ⟨ag,e,g'⟩:=GO ww (GZ hw hl) hk (bJ g.e1 (by decide)) (λhe=>bJ (g.e2 he) (by decide)) n
 exact⟨ag,_,e,g'⟩
section
variable{cf:Nat->List PV->af->aF PV}{J:aD}{Z ak:af}
theorem t9{f:Nat}{es:bZ}{vs:List PV}{r:aF PV}(h:bw cf ae es J Z=some (.ok vs,ak))(k:cf f vs ak=r):ai cf ae (.aC f es) J Z=r:=aM h k
theorem G1{is:List Nat}{e:ME}{v:PV}{dP:aD}(h:ai cf ae e J Z=some (.ok v,ak))(hb:fe (.many is) v J=some dP):br cf ae (.dR is e) J Z=some (.ok (.next,dP),ak):=by
 show ay (ai cf ae e J Z) (λv Z=>FR.read Z ((fe (.many is) v J).bind λJ=>some (Fl.next,J)))=_
 rw[h]
 show FR.read ak ((fe (.many is) v J).bind λJ=>some (Fl.next,J))=_
 rw[hb];rfl
end
noncomputable def yl:Prop:=∀(ns:List Int),ns.length<=63->
 jU (dg ((hh ns 0).fmod 2) (eH ns)) (brk ns (dg ((hh ns 0).fmod 2) (eH ns))).1=true/\
 (brk ns (dg ((hh ns 0).fmod 2) (eH ns))).1.length<=100/\
 Good ((brk ns (dg ((hh ns 0).fmod 2) (eH ns))).1.foldl eI (dg ((hh ns 0).fmod 2) (eH ns))) (brk ns (dg ((hh ns 0).fmod 2) (eH ns))).2
section
variable{cf:Nat->List PV->af->aF PV}{J:aD}{Z:af}{a:Nat}{x y z:PV}
theorem NN(hl:bD J 2=some (.ref a))(g:ar Z a=some (.list [x,y,z])):ai cf ae (.aq (.aa 2) (.k (.int 0))) J Z=some (.ok x,Z):=bR (x:=.ref a) (y:=.int 0) (eD hl) rfl (gD g)
theorem NO(hl:bD J 2=some (.ref a))(g:ar Z a=some (.list [x,y,z])):ai cf ae (.aq (.aa 2) (.k (.int 1))) J Z=some (.ok y,Z):=bR (x:=.ref a) (y:=.int 1) (eD hl) rfl (gD g)
theorem NP(hl:bD J 2=some (.ref a))(g:ar Z a=some (.list [x,y,z])):ai cf ae (.aq (.aa 2) (.k (.int 2))) J Z=some (.ok z,Z):=bR (x:=.ref a) (y:=.int 2) (eD hl) rfl (gD g)
end
noncomputable abbrev ry(ns:List Int):af:=pre ns++[.list ((eH ns).map .int)]
section
variable(ns:List Int)
theorem NQ:(((dr ns).map PV.int).drop (min 3 ((dr ns).map PV.int).length)).take (min 6 ((dr ns).map PV.int).length-min 3 ((dr ns).map PV.int).length)=(eH ns).map .int:=by
 have hD:=oY ns
 rw[eH,List.length_map,Nat.min_eq_right hD,List.map_drop]
 by_cases h3:3<=(dr ns).length
 ·rw[Nat.min_eq_left h3,List.take_of_length_le (by rw[List.length_drop,List.length_map];exact Nat.le_refl _)]
 ·have h3:=Nat.le_of_not_le h3
  rw[Nat.min_eq_right h3,List.drop_eq_nil_of_le (by rw[List.length_map];exact Nat.le_refl _),List.drop_eq_nil_of_le (by rw[List.length_map];exact h3),List.take_nil]
theorem RV:∃ak d aa,br (ax aj ae 11) ae (.aK 5 (.aC 37 (.cons (.bin .mod (.aq (.aa 2) (.k (.int 0))) (.k (.int 2))) (.cons (.slice (.aa 1) (.yes (.k (.int 3))) (.yes (.k (.int 6)))) .nil)))) (ig ns none none none none none none none) (pre ns)=some (.ok (.next,ig ns (some (.ref d)) none none none none none none),ak)/\
  RD d 12 30 aL aa (dg ((hh ns 0).fmod 2) (eH ns)) ak/\Fr 12 (ry ns) ak:=by
 have Uu:(eH ns).length<=3:=by rw[eH,List.length_drop];exact Nat.sub_le_sub_right (oY ns) 3
 obtain ⟨ak,d,aa,e1,r⟩:=GR 10 ((hh ns 0).fmod 2) (eH ns) Uu 11 (ry ns) (bM _ _)
 have Uv:(ry ns).length=12:=rfl
 rw[Uv] at r
 refine⟨ak,d,aa,cG (t9 (vs:=[.int ((hh ns 0).fmod 2),.ref 11]) (ak:=ry ns) ?_ e1),r⟩
 refine aM (v:=.int ((hh ns 0).fmod 2)) (df (b:=.k (.int 2)) (y:=2) (NN (a:=4) (x:=.int (hh ns 0)) (y:=.int (hh ns 1)) (z:=.int (hh ns 2)) rfl rfl) rfl rfl) (aM (v:=[.ref 11]) (aM (v:=.ref 11) (ak:=ry ns) ?_ rfl) rfl)
 exact oW (v:=.ref 1) (l:=(dr ns).map .int) (u:=some (.int 3)) (w:=some (.int 6)) (i:=min 3 ((dr ns).map PV.int).length) (j:=min 6 ((dr ns).map PV.int).length) (r:=(.ref 11,ry ns)) rfl rfl rfl rfl (cx (bJ (oY ns) (by decide))) (congrArg some (clipAt_nat _ 3)) (congrArg some (clipAt_nat _ 6)) (by rw[NQ];rfl)
noncomputable abbrev RW:MS:=.ba (.cmp .gt (.bin .mod (.aq (.aa 2) (.k (.int 1))) (.k (.int 8))) (.k (.int 0)))
 (.cons (.dR [7,6] (.aC 38 (.cons (.bin .sub (.bin .mod (.aq (.aa 2) (.k (.int 1))) (.k (.int 8))) (.k (.int 1))) (.cons (.aq (.aa 2) (.k (.int 2))) (.cons (.bin .fdiv (.aq (.aa 2) (.k (.int 1))) (.k (.int 8))) (.cons (.aa 5) .nil))))))
 (.cons (.bt (.one 8) (.plain (.aa 7)) Ik) .nil)) .nil
theorem RX{d:Nat}{aa:Int->Nat}{R:Int->List Row}{ak:af}(h1:RD d 12 30 aL aa R ak)(g4:ar ak 4=some (.list [.int (hh ns 0),.int (hh ns 1),.int (hh ns 2)]))(hw:eJ R)(Uw:jD R)(p1:jU R (brk ns R).1=true)(p2:(brk ns R).1.length<=100):
  ∃bk eU v7 v8,br (ax aj ae 11) ae RW (ig ns (some (.ref d)) (some (.ah [])) none none none none none) ak=some (.ok (.next,ig ns (some (.ref d)) (some (.ah (brk ns R).2)) v7 v8 none none none),bk)/\RD d 12 150 aL eU ((brk ns R).1.foldl eI R) bk/\Fr 12 ak bk:=by
 have c1:=NO (cf:=ax aj ae 11) (J:=ig ns (some (.ref d)) (some (.ah [])) none none none none none) rfl g4
 have c2:=NP (cf:=ax aj ae 11) (J:=ig ns (some (.ref d)) (some (.ah [])) none none none none none) rfl g4
 have cm:=df (o:=.mod) (b:=.k (.int 8)) (y:=8) (z:=(hh ns 1).fmod 8) c1 rfl rfl
 have cg:ai (ax aj ae 11) ae (.cmp .gt (.bin .mod (.aq (.aa 2) (.k (.int 1))) (.k (.int 8))) (.k (.int 0))) (ig ns (some (.ref d)) (some (.ah [])) none none none none none) ak=some (.ok (.bool (decide ((hh ns 1).fmod 8>0))),ak):=d8 cm rfl rfl
 rw[brk] at p1 p2⊢
 by_cases h8:(hh ns 1).fmod 8>0
 ·rw[if_pos h8] at p1 p2⊢
  rw[decide_eq_true h8] at cg
  obtain ⟨V7,ea,ha,fa⟩:=ES 9 h1 (by decide) Uw ((hh ns 1).fmod 8-1) (hh ns 2) ((hh ns 1).fdiv 8)
  generalize cF ((hh ns 1).fmod 8-1) (hh ns 2) ((hh ns 1).fdiv 8) R=bb at p1 p2 ea⊢
  obtain ⟨Ux,RY,v,eb,hb,fb⟩:=G0 10 ha hw bb.1 p1 p2 (EH (ig ns (some (.ref d)) (some (.ah bb.2)) none none none none none)) none
  have es:bw (ax aj ae 11) ae (.cons (.bin .sub (.bin .mod (.aq (.aa 2) (.k (.int 1))) (.k (.int 8))) (.k (.int 1))) (.cons (.aq (.aa 2) (.k (.int 2))) (.cons (.bin .fdiv (.aq (.aa 2) (.k (.int 1))) (.k (.int 8))) (.cons (.aa 5) .nil)))) (ig ns (some (.ref d)) (some (.ah [])) none none none none none) ak=some (.ok [.int ((hh ns 1).fmod 8-1),.int (hh ns 2),.int ((hh ns 1).fdiv 8),.ref d],ak):=
   aM (df (z:=(hh ns 1).fmod 8-1) cm rfl rfl) (aM (aM c2 (aM (aM (df (z:=(hh ns 1).fdiv 8) c1 rfl rfl) (aM (v:=[.ref d]) (ak:=ak) rfl rfl)) rfl)) rfl)
  exact⟨Ux,RY,some (.ah (bb.1.map jk)),v,(eh true cg).trans (aP (du:=oZ (EH (ig ns (some (.ref d)) (some (.ah bb.2)) none none none none none)) d bb.1 none) (G1 (t9 es ea) rfl) (aP eb rfl)),hb,fa.trans fb⟩
 ·rw[if_neg h8]
  rw[decide_eq_false h8] at cg
  exact⟨ak,aa,none,none,(eh false cg).trans rfl,h1.mono (by decide),Fr.refl _ _⟩
noncomputable abbrev rz(Z:af):af:=sset (Z++[.attrs .none]++[.dict .int []]) Z.length (.attrs (some (.ref (Z++[MO.attrs .none]).length)))
theorem RZ(n:Nat)(e f g h:Option PV)(Z:af):br (ax aj ae (n+1)) ae (.aK 9 (.new 1 .nil)) (ig ns e f g h none none none) Z=some (.ok (.next,ig ns e f g h (some (.inst 1 Z.length)) none none),rz Z):=by
 have hg:ar (Z++[MO.attrs .none]++[.dict .int []]) Z.length=some (.attrs .none):=bS _ _ _ _ (bM _ _)
 have hi:ax aj ae (n+1) 103 [.inst 1 Z.length] (Z++[.attrs .none])=some (.ok .none,rz Z):=by
  refine m8 rfl rfl (aP (du:=[some (.inst 1 Z.length)]) (ak:=rz Z) ?_ rfl)
  show FR.put [some (PV.inst 1 Z.length)] (tf (.inst 1 Z.length) (.ref (Z++[MO.attrs .none]).length) (Z++[.attrs .none]++[.dict .int []]))=_
  show FR.put [some (PV.inst 1 Z.length)] ((ar (Z++[.attrs .none]++[.dict .int []]) Z.length).bind λa=>(lI a).bind λO=>aJ true (some (rz Z)))=_
  rw[hg];rfl
 refine cG (aM (v:=[]) (ak:=Z) rfl ?_)
 show ay (ax aj ae (n+1) 103 [.inst 1 Z.length] (Z++[.attrs .none])) (λr ag=>(lH r).bind λO=>av (PV.inst 1 Z.length) ag)=_
 rw[hi];rfl
theorem Kf(Z:af):TD Z.length (Z++[MO.attrs .none]).length Z.length 0 [] (λO=>0) (λO=>[]) (rz Z)/\Fr Z.length Z (rz Z):=by
 have one:∀(s:af)(o:MO),s.length<(s++[o]).length:=λs o=>by rw[List.length_append];exact Nat.lt_succ_self _
 have l1:=one Z (.attrs .none)
 have l2:=Nat.lt_trans l1 (one (Z++[.attrs .none]) (.dict .int []))
 exact⟨⟨⟨(bO _ _ _ _ (Nat.ne_of_gt l1)).trans (bM _ _),λO hk=>absurd hk List.not_mem_nil,λO hk=>absurd hk List.not_mem_nil,Nat.le_of_lt l1,λO hk=>absurd hk List.not_mem_nil,λO hk=>absurd hk List.not_mem_nil,List.nodup_nil,Nat.zero_le _⟩,
  eN _ _ _ l2,λO O=>rfl,Nat.le_refl _⟩,((Fr.app Z _ (Nat.le_refl _)).trans (Fr.app _ _ (Nat.le_of_lt l1))).trans (Fr.set _ _ (Nat.le_refl _))⟩
theorem R1{cf:Nat->List PV->af->aF PV}{q:Nat->Option PV}{d jt a:Nat}{v w:Option PV}{want T l1 l2:List PV}{Z eV:af}(q3:q 3=some (.inst 0 5))(q4:q 4=some (.inst 0 7))(q6:q 6=some (.ah want))(h:cf 4 [.inst 1 jt,.inst 0 5,.inst 0 7] Z=some (.ok (.ref a),eV))(g:ar eV a=some (.list T))
  (s1:gu T=some l1) (s2:gu want=some l2) (s3:hM (eqv 6) l1 l2=some true):∃NR,br cf ae (.ret (.cmp .eq (.aO .sorted (.aC 4 (.cons (.aa 9) (.cons (.aa 3) (.cons (.aa 4) .nil))))) (.aO .sorted (.aa 6)))) (gO q d jt v w) Z=some (.ok (.ret (.bool true),gO q d jt v w),NR):=by
 have b1:builtin .sorted (.ref a) eV=some (.ref eV.length,eV++[.list l1]):=by
  show (ar eV a).bind (vw eV)=_
  rw[g]
  show (gu T).bind _=_
  rw[s1];rfl
 have b2:builtin .sorted (.ah want) (eV++[.list l1])=some (.ref (eV++[MO.list l1]).length,eV++[.list l1]++[.list l2]):=by
  show (gu want).bind _=_
  rw[s2];rfl
 have es:bw cf ae (.cons (.aa 9) (.cons (.aa 3) (.cons (.aa 4) .nil))) (gO q d jt v w) Z=some (.ok [.inst 1 jt,.inst 0 5,.inst 0 7],Z):=
  aM (v:=.inst 1 jt) (ak:=Z) rfl (aM (aM (eD (i:=3) q3) (aM (aM (eD (i:=4) q4) (aM (v:=[]) (ak:=Z) rfl rfl)) rfl)) rfl)
 have h2:ai cf ae (.aO .sorted (.aa 6)) (gO q d jt v w) (eV++[.list l1])=some (.ok (.ref (eV++[MO.list l1]).length),eV++[.list l1]++[.list l2]):=aM (eD (i:=6) q6) (congrArg FR.lift b2)
 have h1:ai cf ae (.aO .sorted (.aC 4 (.cons (.aa 9) (.cons (.aa 3) (.cons (.aa 4) .nil))))) (gO q d jt v w) Z=some (.ok (.ref eV.length),eV++[.list l1]):=aM (t9 es h) (congrArg FR.lift b1)
 refine⟨eV++[.list l1]++[.list l2],tv (u:=.bool true) (aM h1 (aM h2 ?_))⟩
 show FR.read _ ((((ar (eV++[MO.list l1]++[.list l2]) eV.length).bind c9).bind λx=>((ar (eV++[MO.list l1]++[.list l2]) (eV++[MO.list l1]).length).bind c9).bind λy=>hM (eqv 6) x y).bind λb=>some (PV.bool b))=_
 rw[bS _ _ _ _ (bM _ _),bM]
 show FR.read _ ((hM (eqv 6) l1 l2).bind λb=>some (PV.bool b))=_
 rw[s3];rfl
end
theorem NS(hp:yl)(ns:List Int)(yk:ns.length<=63):∃ag,ax aj ae 12 41 [.dh (ns.map .int)] []=some (.ok (.bool true),ag):=by
 obtain ⟨p1,p2,p3⟩:=hp ns yk
 have hw:=ll ((hh ns 0).fmod 2) (eH ns)
 obtain ⟨ak,d,aa,e1,h1,f1⟩:=RV ns
 obtain ⟨bk,eU,v7,v8,e2,h2,f2⟩:=RX ns h1 (f1.get (i:=4) rfl (by decide)) hw (GY _ _) p1 p2
 have Ia:=t8 p1 hw
 have Uy:=f1.trans f2
 generalize (brk ns (dg ((hh ns 0).fmod 2) (eH ns))).1.foldl eI (dg ((hh ns 0).fmod 2) (eH ns))=R2 at h2 Ia p3
 generalize (brk ns (dg ((hh ns 0).fmod 2) (eH ns))).2=want at e2 p3
 obtain ⟨td,ju⟩:=Kf bk
 have e3:=RZ ns 10 (some (.ref d)) (some (.ah want)) v7 v8 bk
 generalize rz bk=l9 at td ju e3
 have dv:∀k∈aL,eU k<bk.length:=λk hk=>bA _ _ _ (h2.at_ k hk)
 have hd2:=bA _ _ _ h2.dict
 have h3:RD d 12 150 aL eU R2 l9:={h2 with dict:=ju.get h2.dict hd2,at_:=λk hk=>ju.get (h2.at_ k hk) (dv k hk)}
 obtain ⟨Uz,VC,v10,v11,e4,h4,f4⟩:=GW (cf:=ax aj ae 11) (λO O=>rfl) h3 hd2 dv td (by decide) (EH (ig ns (some (.ref d)) (some (.ah want)) v7 v8 none none none)) none none
 have low:∀{i o},i<12->ar (ry ns) i=some o->ar Uz i=some o:=λhi g=>have l:=Nat.lt_of_lt_of_le hi (bJ h2.nd (Nat.le_of_lt hd2));f4.get (ju.get (Uy.get g hi) l) l
 obtain ⟨eV,a,e5,g5⟩:=Ke 4 h4 Ia (λk hk=>bJ (h2.ln k hk) (by decide)) p3 (low (by decide) rfl) (low (by decide) rfl) (low (by decide) rfl) (low (by decide) rfl)
 obtain ⟨l1,l2,s1,s2,s3⟩:=p3.Ur
 obtain ⟨NR,e6⟩:=R1 (q:=EH (ig ns (some (.ref d)) (some (.ah want)) v7 v8 none none none)) (d:=d) (v:=v10) (w:=v11) rfl rfl rfl e5 g5 s1 s2 s3
 exact⟨NR,bN rfl rfl ((NJ ns yk _ _).trans ((NI ns 10 _).trans (aP e1 (aP (cG rfl) (aP e2 (aP e3 (aP e4 (Cq e6))))))))⟩
noncomputable def iU(f m:Int):List E->List Row
 |[]=>[]
 |e::es=>[1,e.nm,e.sp,e.ex,f,m]::iU (f+(gZ e.f).length) (m+(hG e.m).length) es
noncomputable def fl:List E->List Row
 |[]=>[]
 |e::es=>gZ e.f++fl es
noncomputable def ml:List E->List Row
 |[]=>[]
 |e::es=>hG e.m++ml es
noncomputable def nf(core:Int):Nat->List Int->List E
 |_,[]=>[]
 |k,x::xs=>cc core k x::nf core (k+1) xs
noncomputable def o3(R:Int->List Row)(a b c:List Row):Int->List Row:=up (up (up R 2 a) 4 b) 6 c
noncomputable def sX(core:Int)(T F M:List Row):Int->List Row:=
 up (up (up (o3 (R0 core) (R0 core 2++T) (R0 core 4++F) (R0 core 6++M)) 9 (R0 core 9++(if T.isEmpty then [] else [[((R0 core 2++T).length:Int),((R0 core 2++T).length:Int)*4]])))
  43 (R0 core 43++(if T.isEmpty then [] else [[((R0 core 6++M).length:Int)*2,8]]))) 44 (R0 core 44++(if T.isEmpty then [] else [[3,((R0 core 2++T).length:Int)*4]]))
noncomputable def sE(core:Int)(es:List E):Int->List Row:=sX core (iU 6 9 es) (fl es) (ml es)
theorem j3{R:Int->List Row}{t:Int}{l:List Row}(h:R t=l):up R t l=R:=funext λk=>by
 by_cases e:k=t
 ·rw[e,up_eq,h]
 ·exact cQ e
theorem ua{R:Int->List Row}{t u:Int}{a b:List Row}(h:t≠u):up (up R t a) u b=up (up R u b) t a:=funext λk=>by
 by_cases e:k=u
 ·rw[e,up_eq,cQ λq=>h q.symm,up_eq]
 ·rw[cQ e]
  by_cases f:k=t
  ·rw[f,up_eq,up_eq]
  ·rw[cQ f,cQ f,cQ e]
theorem Kg(R:Int->List Row)(a b c a' b' c':List Row):o3 (o3 R a b c) a' b' c'=o3 R a' b' c':=by
 rw[o3,o3,o3,ua (t:=6) (u:=2) (by decide),ua (t:=4) (u:=2) (by decide),vM,ua (t:=6) (u:=4) (by decide),vM,vM]
theorem uT(core:Int):∀(xs:List Int)(k:Nat)(R:Int->List Row),fC core k xs R=o3 R (R 2++iU (len R 4+1) (len R 6+1) (nf core k xs)) (R 4++fl (nf core k xs)) (R 6++ml (nf core k xs))
 |[],k,R=>by
  show R=up (up (up R 2 (R 2++[])) 4 (R 4++[])) 6 (R 6++[])
  rw[List.append_nil,List.append_nil,List.append_nil,j3 (R:=R) rfl,j3 (R:=R) rfl,j3 (R:=R) rfl]
 |x::xs,k,R=>by
  have l4:len (oU R (cc core k x)) 4+1=len R 4+1+(gZ (cc core k x).f).length:=by
   show ((R 4++gZ (cc core k x).f).length:Int)+1=_
   rw[List.length_append,Int.natCast_add,Int.add_right_comm];rfl
  have l6:len (oU R (cc core k x)) 6+1=len R 6+1+(hG (cc core k x).m).length:=by
   show ((R 6++hG (cc core k x).m).length:Int)+1=_
   rw[List.length_append,Int.natCast_add,Int.add_right_comm];rfl
  show fC core (k+1) xs (oU R (cc core k x))=_
  rw[uT core xs (k+1),l4,l6]
  show o3 (o3 R _ _ _) ((R 2++[_])++_) ((R 4++gZ (cc core k x).f)++_) ((R 6++hG (cc core k x).m)++_)=_
  rw[Kg,List.append_assoc,List.append_assoc,List.append_assoc];rfl
theorem G2(core:Int)(xs:List Int):dg core xs=sE core (nf core 0 xs):=by
 have h:=uT core xs 0 (R0 core)
 cases xs with
 |nil=>
  have q:∀iP:Int->List Row,iP 9=R0 core 9->iP 43=R0 core 43->iP 44=R0 core 44->up (up (up iP 9 (R0 core 9++[])) 43 (R0 core 43++[])) 44 (R0 core 44++[])=iP:=λiP a b c=>by
   rw[List.append_nil,List.append_nil,List.append_nil,j3 a,j3 b,j3 c]
  exact(if_pos rfl).trans (h.trans (q (o3 (R0 core) (R0 core 2++[]) (R0 core 4++[]) (R0 core 6++[])) rfl rfl rfl).symm)
 |cons x xs=>
  refine(if_neg (List.cons_ne_nil x xs)).trans ?_
  rw[h];rfl
noncomputable def UA:List (List Ed×List PV):=mE.map λe=>([e],[aG e.t e.row sj])
noncomputable def UB:List (List Ed×List PV):=hN.map λe=>([e],[aG e.t e.row gg])
noncomputable def UC(R:Int->List Row):List (List Ed×List PV):=fu.map λs=>([⟨s.t,rx R s.row,s.p,.i (GS R s.v)⟩],[aG s.t (rx R s.row) fy])
noncomputable def Il(l:List Spot)(V:List Int):List (List Ed×List PV):=l.flatMap λs=>V.map λv=>([⟨s.1,s.2.1,s.2.2,.i v⟩],[aG s.1 s.2.1 lX])
noncomputable def EV(R:Int->List Row):List (List Ed×List PV):=UA++(UB++(UC R++(Il jo [24,25,26,27,28]++(Il (gy++ir) [9,10,11,12,13]++Il gy [0]))))
noncomputable def Im(a3:Bool):List Ed×List PV:=([⟨32,1,7,.i 0⟩],aG 32 1 kx::(if a3 then [aG 2 5 kz] else []))
noncomputable def jV(a2 a3 c7:Bool):List Ed×List PV:=([⟨2,2,1,.i 17⟩],(if a2 then [aG 2 5 eR] else [])++(if c7 then [aG 2 2 kz]++(if a3 then [aG 2 5 kz] else []) else []))
noncomputable def Ar:List (List Ed×List PV):=((dB.filter λs=> !decide (s.1=32)).map λs=>([⟨s.1,s.2.1,s.2.2,.i 0⟩],[aG s.1 s.2.1 kx]))++(([],[])::jW)
noncomputable def uU(a2 a3 c7:Bool):List (List Ed×List PV):=[Im a3,jV a2 a3 c7]
noncomputable def Io(R:Int->List Row):List (List Ed×List PV):=Ar++uU (eW R 2) (eW R 3) (decide (cl ((R 32).getD 0 []) 7=23))
theorem ym{α:Type}{l:List α}{d:α}{k:Nat}(h:k<l.length):l.getD k d∈l:=by
 rw[List.getD_eq_getElem?_getD,List.getElem?_eq_getElem h]
 exact List.getElem_mem _
theorem getD_in{α:Type}{l:List α}{d:α}{i:Int}(h0:0<=i)(h1:i<l.length):l.getD i.toNat d∈l:=ym ((Int.toNat_lt h0).mpr h1)
theorem getD_or{α:Type}{A B:List α}{d:α}{i:Int}(h0:0<=i)(h1:i<(A++B).length):(i<A.length->(A++B).getD i.toNat d∈A)/\(¬i<A.length->(A++B).getD i.toNat d∈B):=by
 rw[List.getD_eq_getElem?_getD]
 have h1:=(Int.toNat_lt h0).mpr h1
 rw[List.length_append] at h1
 refine⟨λh=> ?_,λh=> ?_⟩
 ·rw[List.getElem?_append_left ((Int.toNat_lt h0).mpr h),<-List.getD_eq_getElem?_getD];exact getD_in h0 h
 ·have h:=Nat.le_of_not_lt λq=>h ((Int.toNat_lt h0).mp q)
  rw[List.getElem?_append_right h,<-List.getD_eq_getElem?_getD];exact ym (Nat.sub_lt_left_of_lt_add h h1)
theorem Qt(a:Int){z:Int}(h:0<=z/\z<5):a+z∈(List.range 5).map λk=>a+((k:Nat):Int):=List.mem_map.mpr ⟨z.toNat,List.mem_range.mpr ((Int.toNat_lt h.1).mpr h.2),by rw[Int.toNat_of_nonneg h.1]⟩
theorem yn{l:List Spot}{V:List Int}{s:Spot}{v:Int}(h:s∈l)(hv:v∈V):([⟨s.1,s.2.1,s.2.2,.i v⟩],[aG s.1 s.2.1 lX])∈Il l V:=List.mem_flatMap.mpr ⟨s,h,List.mem_map.mpr ⟨v,hv,rfl⟩⟩
theorem zD{z:Int}(h0:0<=z)(R:Int->List Row):eE z R∈Io R:=by
 rw[eE]
 by_cases h:z<11
 ·rw[if_pos h]
  have hs:dB.getD z.toNat (0,0,0)∈dB:=getD_in h0 h
  generalize dB.getD z.toNat (0,0,0)=s at hs⊢
  by_cases e:s.1=32
  ·have key:∀s∈dB,s.1=32->s=(32,1,7):=by decide
   rw[key s hs e]
   exact List.mem_append_right _ cR
  ·refine List.mem_append_left _ (List.mem_append_left _ (List.mem_map.mpr ⟨s,List.mem_filter.mpr ⟨hs,by rw[decide_eq_false e];rfl⟩,?_⟩))
   show _=([_],aG s.1 s.2.1 kx::(if decide (s.1=32)&&eW R 3 then [aG 2 5 pK] else []))
   rw[decide_eq_false e];rfl
 ·rw[if_neg h]
  refine List.mem_append_right _ (List.mem_cons_of_mem _ (List.mem_singleton.mpr ?_))
  rw[jV]
  by_cases hc:cl ((R 32).getD 0 []) 7=23
  ·rw[if_pos hc,decide_eq_true hc];rfl
  ·rw[if_neg hc,decide_eq_false hc];rfl
theorem O8(way x y:Int)(R:Int->List Row):cF way x y R∈EV R++Io R:=by
 rw[cF]
 by_cases h0:way=0
 ·have hm:=dW x 8 (by decide)
  rw[if_pos h0]
  exact List.mem_append_left _ (List.mem_append_left _ (List.mem_map.mpr ⟨_,getD_in hm.1 hm.2,rfl⟩))
 rw[if_neg h0]
 by_cases h1:way=1
 ·have hm:=dW x 30 (by decide)
  rw[if_pos h1]
  exact List.mem_append_left _ (List.mem_append_right _ (List.mem_append_left _ (List.mem_map.mpr ⟨_,getD_in hm.1 hm.2,rfl⟩)))
 rw[if_neg h1]
 by_cases h2:way=2
 ·have hm:=dW x 13 (by decide)
  rw[if_pos h2]
  exact List.mem_append_left _ (List.mem_append_right _ (List.mem_append_right _ (List.mem_append_left _ (List.mem_map.mpr ⟨_,getD_in hm.1 hm.2,rfl⟩))))
 rw[if_neg h2]
 by_cases h3:way=3
 ·have hm:=dW x 27 (by decide)
  have hy:=dW y 5 (by decide)
  have ho:=getD_or (A:=jo) (B:=gy++ir) (d:=(0,0,0)) hm.1 hm.2
  rw[if_pos h3,Cp,List.append_assoc]
  refine List.mem_append_left _ (List.mem_append_right _ (List.mem_append_right _ (List.mem_append_right _ ?_)))
  by_cases h:x.fmod 27>15
  ·rw[if_pos h]
   exact List.mem_append_right _ (List.mem_append_left _ (yn (ho.2 (Int.not_lt.mpr h)) (Qt 9 hy)))
  ·rw[if_neg h]
   exact List.mem_append_left _ (yn (ho.1 (Int.lt_add_one_of_le (Int.not_lt.mp h))) (Qt 24 hy))
 rw[if_neg h3]
 have hm:=dW x 19 (by decide)
 by_cases h4:way=4/\x.fmod 19<7
 ·rw[if_pos h4]
  exact List.mem_append_left _ (List.mem_append_right _ (List.mem_append_right _ (List.mem_append_right _ (List.mem_append_right _ (List.mem_append_right _ (yn (getD_in hm.1 h4.2) cR))))))
 rw[if_neg h4]
 by_cases h5:way=4
 ·rw[if_pos h5]
  exact List.mem_append_right _ (zD (Int.sub_nonneg_of_le (Int.not_lt.mp λq=>h4 ⟨h5,q⟩)) R)
 ·have hm:=dW x 85 (by decide)
  rw[if_neg h5]
  exact List.mem_append_right _ (List.mem_append_left _ (List.mem_append_right _ (List.mem_cons_of_mem _ (getD_in hm.1 hm.2))))
noncomputable def tb(R:Int->List Row):Tb:=⟨R,[],texts,kR⟩
noncomputable def NT:PV->List PV
 |.ah l=>l
 |_=>[]
noncomputable def R3:PV->List Nat
 |.str s=>s
 |_=>[]
noncomputable def R4:PV->Int
 |.int i=>i
 |_=>0
noncomputable def mw(p:PV):List Nat:=R3 ((NT p).getD 2 .none)
noncomputable def mt(p:PV):Int:=R4 ((NT p).getD 0 .none)
noncomputable def Qu(a b:PV):Bool:=match a with
 |.int i=>match b with
  |.int j=>decide (i=j)
  |_=>false
 |.str s=>match b with
  |.str t=>decide (s=t)
  |_=>false
 |_=>false
noncomputable def Ip(f:PV->PV->Bool):List PV->List PV->Bool
 |[],m=>m.isEmpty
 |a::l,m=>match m with
  |b::m=>f a b&&Ip f l m
  |[]=>false
noncomputable def Qv(a b:PV):Bool:=match a with
 |.ah l=>match b with
  |.ah m=>Ip Qu l m
  |_=>false
 |_=>false
noncomputable abbrev Iq:List PV->List PV->Bool:=Ip Qv
theorem yo{f:PV->PV->Bool}(hf:∀{a b},f a b=true->a=b):∀{l m:List PV},Ip f l m=true->l=m
 |[],m,h=>(List.isEmpty_iff.mp h).symm
 |a::l,m,h=>by
  cases m with
  |nil=>cases h
  |cons b m=>
   have h:=b_ h
   rw[hf h.1,yo hf h.2]
theorem NU{a b:PV}(h:Qu a b=true):a=b:=by
 cases a with
 |int i=>cases b with
  |int j=>exact congrArg PV.int (bV h)
  |_=>cases h
 |str s=>cases b with
  |str t=>exact congrArg PV.str (bV h)
  |_=>cases h
 |_=>cases h
theorem NV{a b:PV}(h:Qv a b=true):a=b:=by
 cases a with
 |ah l=>cases b with
  |ah m=>exact congrArg PV.ah (yo NU h)
  |_=>cases h
 |_=>cases h
theorem yp{l l':List PV}(h:Iq l l'=true):l=l':=yo NV h
noncomputable abbrev Part:=(Tb->List PV)×(List Ed->PV->Bool)
noncomputable abbrev Pl:=List (Int×Int)
noncomputable def pick(j:Int)(r:Row):Int:=if j<16 then cl r j.toNat else 0
noncomputable def inR(R:Int->List Row)(e:Ed)(j:Int):Bool:=decide (0<=e.p)&&(decide (1<=e.row)&&(decide (e.row<=len R e.t)&&(decide (16<=j)||decide (e.p<((R e.t).getD (e.row-1).toNat []).length))))
noncomputable def yr(R:Int->List Row)(e:Ed):Pl->Bool
 |[]=>false
 |c::l=>(decide (c.1=e.t)&&(decide (c.2<0)||(decide (c.2=e.p)|| !inR R e c.2)))||yr R e l
noncomputable def hit(cs:Pl):(Int->List Row)->List Ed->Bool
 |_,[]=>false
 |R,e::es=>yr R e cs||hit cs (eI R e) es
noncomputable def meets(e:Ed):Pl->Bool
 |[]=>false
 |c::l=>decide (c.1=e.t)||meets e l
noncomputable def vN(cs:Pl):List Ed->Bool
 |[]=>false
 |e::es=>meets e cs||vN cs es
noncomputable def mU(p:Part)(cs:Pl)(R:Int->List Row)(w:List Ed×List PV):Bool:=bif vN cs w.1&&hit cs R w.1 then Iq (p.1 (tb (w.1.foldl eI R))) (w.2.filter (p.2 w.1)) else (w.2.filter (p.2 w.1)).isEmpty
noncomputable def oo(p:Part)(cs:Pl)(ws:List (List Ed×List PV))(R:Int->List Row):Bool:=Iq (p.1 (tb R)) []&&ws.all (mU p cs R)
noncomputable abbrev NW(R R':Int->List Row)(c:Int×Int):Prop:=(R c.1).map (pick c.2)=(R' c.1).map (pick c.2)/\(c.2<0->R c.1=R' c.1)
noncomputable def Ag(cs:Pl)(R R':Int->List Row):Prop:=∀c∈cs,NW R R' c
noncomputable def ub(p:Part)(cs:Pl):Prop:=∀R R':Int->List Row,Ag cs R R'->p.1 (tb R)=p.1 (tb R')
noncomputable def wt(l:List Int):Pl:=l.map (·,-1)
noncomputable def whole(t:Int):Pl->Bool
 |[]=>false
 |c::l=>(decide (c.1=t)&&decide (c.2<0))||whole t l
noncomputable def pO(cs:Pl)(R:Int->List Row):Int->List Row:=λt=>if whole t cs then R t else []
theorem yt{t:Int}{R R':Int->List Row}:∀{cs:Pl},Ag cs R R'->whole t cs=true->R t=R' t
 |c::l,h,w=>(Bool.or_eq_true_iff.mp w).elim (λq=>bV (b_ q).1▸(h c cR).2 (bV (b_ q).2)) λq=>yt (λc m=>h c (List.mem_cons_of_mem _ m)) q
 |[],_,w=>nomatch w
theorem As{p:Part}{cs:Pl}(h:∀R,p.1 (tb R)=p.1 (tb (pO cs R))):ub p cs:=λR R' hh=>by
 have e:pO cs R=pO cs R':=funext λt=>by
  rw[pO,pO]
  by_cases m:whole t cs=true
  ·rw[if_pos m,if_pos m,yt hh m]
  ·rw[if_neg m,if_neg m]
 rw[h R,h R',e]
theorem yu{v:Int}:∀{r:Row}{p j:Nat},p<r.length->j≠p->cl (setAt p v r) j=cl r j
 |[],_,_,h,_=>absurd h (Nat.not_lt_zero _)
 |_::_,0,0,_,h=>absurd rfl h
 |_::_,0,_+1,_,_=>rfl
 |_::_,_+1,0,_,_=>rfl
 |_::r,p+1,j+1,h,n=>yu (r:=r) (p:=p) (j:=j) (Nat.lt_of_succ_lt_succ h) λe=>n (congrArg (· +1) e)
theorem EW{f:Row->Int}{x:Row}:∀{l:List Row}{i:Nat},i<l.length->f x=f (l.getD i [])->(l.take i++[x]++l.drop (i+1)).map f=l.map f
 |[],_,h,_=>absurd h (Nat.not_lt_zero _)
 |y::l,0,_,e=>congrArg (· ::l.map f) e
 |y::l,_+1,h,e=>congrArg (f y:: ·) (EW (Nat.lt_of_succ_lt_succ h) e)
theorem G3{R:Int->List Row}{e:Ed}{j:Int}(h:inR R e j=true)(h0:¬j<0)(n:j≠e.p):(R e.t).map (pick j)=(oV R e).map (pick j):=by
 have h:=b_ h
 have hp:=bV h.1
 have h:=b_ h.2
 have h1:=bV h.1
 have h:=b_ h.2
 have hl:e.row<=((R e.t).length:Int):=bV h.1
 rw[oV,if_neg (by omega),if_neg (by omega),show e.row.toNat=(e.row-1).toNat+1 by omega]
 refine(EW (by omega) ?_).symm
 rw[pick,pick]
 by_cases c:j<16
 ·rw[if_pos c,if_pos c]
  exact yu ((Int.toNat_lt hp).mpr (bV ((Bool.or_eq_true_iff.mp h.2).resolve_left λq=>Int.not_lt.mpr (bV q) c))) (by omega)
 ·rw[if_neg c,if_neg c]
theorem Au{R:Int->List Row}{e:Ed}:∀{cs:Pl},yr R e cs=false->Ag cs R (eI R e)
 |[],_,_,m=>absurd m List.not_mem_nil
 |c::l,h,q,m=>by
  have h:=Bool.or_eq_false_iff.mp h
  refine(List.mem_cons.mp m).elim (λz=> ?_) (Au h.2 q)
  subst z
  by_cases t:q.1=e.t
  ·have h:=h.1
   rw[decide_eq_true t] at h
   have h:=Bool.or_eq_false_iff.mp h
   have g:=Bool.or_eq_false_iff.mp h.2
   have l0:=of_decide_eq_false h.1
   rw[NW,t,eI,up_eq]
   exact⟨G3 ((Bool.not_eq_false' _).mp g.2) l0 (of_decide_eq_false g.1),λz=>absurd z l0⟩
  ·rw[NW,eI,cQ t]
   exact⟨rfl,λO=>rfl⟩
theorem EX{cs:Pl}:∀(es:List Ed)(R:Int->List Row),hit cs R es=false->Ag cs R (es.foldl eI R)
 |[],_,_,_,_=>⟨rfl,λO=>rfl⟩
 |e::es,R,h,c,m=>
  have h:=Bool.or_eq_false_iff.mp h
  have a:=Au h.1 c m
  have b:=EX es _ h.2 c m
  ⟨a.1.trans b.1,λz=>(a.2 z).trans (b.2 z)⟩
theorem yv{R:Int->List Row}{e:Ed}:∀{cs:Pl},meets e cs=false->yr R e cs=false
 |[],_=>rfl
 |c::l,h=>by
  have h:=Bool.or_eq_false_iff.mp h
  rw[yr,h.1,yv h.2];rfl
theorem yw{cs:Pl}:∀{es:List Ed}{R:Int->List Row},vN cs es=false->hit cs R es=false
 |[],_,_=>rfl
 |e::es,R,h=>by
  have h:=Bool.or_eq_false_iff.mp h
  rw[hit,yv h.1,yw h.2];rfl
theorem NX{p:Part}{cs:Pl}{ws:List (List Ed×List PV)}{R:Int->List Row}(h:oo p cs ws R=true)(ho:ub p cs){w:List Ed×List PV}(hw:w∈ws):p.1 (tb (w.1.foldl eI R))=w.2.filter (p.2 w.1):=by
 have h:=b_ h
 have h2:=List.all_eq_true.mp h.2 w hw
 rw[mU] at h2
 cases ht:vN cs w.1&&hit cs R w.1 with
 |true=>rw[ht] at h2;exact yp h2
 |false=>
  rw[ht] at h2
  rw[<-ho R _ (EX _ _ ((Bool.and_eq_false_iff.mp ht).elim yw id)),yp h.1,List.isEmpty_iff.mp h2]
theorem o5{cs:Pl}{R R':Int->List Row}(h:Ag cs R R'){t j:Int}(m:(t,j)∈cs):(R t).length=(R' t).length:=by
 have h:=congrArg List.length (h _ m).1
 rwa [List.length_map,List.length_map] at h
theorem pg{p:Nat}(hp:(p:Int)<16):pick p=λr=>cl r p:=funext λr=>if_pos hp
theorem yx{cs:Pl}{R R':Int->List Row}(h:Ag cs R R'){t:Int}{p:Nat}(m:(t,(p:Int))∈cs)(hp:(p:Int)<16)(k:Int):cl (bz (tb R) t k) p=cl (bz (tb R') t k) p:=by
 have q:∀(l:List Row)(n:Nat),cl (l.getD n []) p=(l.map λr=>cl r p).getD n 0:=λl=>by
  induction l with
  |nil=>exact λO=>rfl
  |cons y l ih=>
   intro n
   cases n with
   |zero=>rfl
   |succ n=>exact ih n
 have h:=(h _ m).1
 rw[pg hp] at h
 exact(q (R t) _).trans ((congrArg (λl:List Int=>l.getD (k-1).toNat 0) h).trans (q (R' t) _).symm)
theorem yy{X iP:Type}(f:X->iP)(g:Nat->iP->List PV):∀(l:List X)(k:Nat),bI (λk x=>g k (f x)) k l=bI g k (l.map f)
 |[],_=>rfl
 |x::l,k=>congrArg (g k (f x)++ ·) (yy f g l (k+1))
theorem yz{S X iP:Type}(f:X->iP)(g:S->Nat->iP->S×List PV):∀(l:List X)(s:S)(k:Nat),bH (λs k x=>g s k (f x)) s k l=bH g s k (l.map f)
 |[],_,_=>rfl
 |x::l,s,k=>by
  show ((bH _ (g s k (f x)).1 (k+1) l).1,(g s k (f x)).2++(bH _ (g s k (f x)).1 (k+1) l).2)=_
  rw[yz f g l];rfl
noncomputable def build{X:Type}(g:Nat->E)(upd:E->X->E):Nat->List X->List E
 |_,[]=>[]
 |k,x::xs=>upd (g k) x::build g upd (k+1) xs
theorem yA{X:Type}(get:E->X)(upd:E->X->E)(hu:∀e,upd e (get e)=e)(g:Nat->E)(d:E):∀(es:List E)(k:Nat),(∀i,g (k+i)=es.getD i d)->build g upd k (es.map get)=es
 |[],_,_=>rfl
 |e::es,k,h=>by
  show upd (g k) (get e)::build g upd (k+1) (es.map get)=_
  rw[yA get upd hu g d es (k+1) λi=>(congrArg g (Nat.succ_add_eq_add_succ k i)).trans (h (i+1)),show g k=e from h 0,hu]
end FR.Q
section
set_option maxRecDepth 100000
namespace FR.Q
open PySem
noncomputable def i9{X:Type}:List (List X)->List (List X)
 |[]=>[[]]
 |V::Vs=>[]::V.flatMap λx=>(i9 Vs).map (x:: ·)
noncomputable def dS{X:Type}:List X->List (List X)
 |[]=>[[]]
 |x::xs=>[]::(dS xs).map (x:: ·)
noncomputable def d3:List Nat:=[0,1,2]
noncomputable def qp:List (List Nat):=i9 [d3,d3,d3]
noncomputable def rA(e:E)(x:Nat):E:={e with f:=x}
noncomputable def rB(e:E)(x:Nat):E:={e with m:=x}
noncomputable def NY(e:E)(x:Int):E:={e with ex:=x}
noncomputable def nh(e:E)(x:Int×Int):E:={e with nm:=x.1,sp:=x.2}
noncomputable def Cz(e:E)(x:Int×Int×Int):E:={e with nm:=x.1,sp:=x.2.1,ex:=x.2.2}
noncomputable def NZ:List (List Int):=i9 [[5,8,0],[5,8],[5,8]]
noncomputable def yB:List (List (Int×Int)):=i9 [[(20,0),(20,19),(17,0),(17,19)],[(21,0),(21,19)],[(2,19)]]
noncomputable def a0:List (List (Int×Int×Int)):=i9 [[(20,0,5),(20,0,8),(20,19,5),(20,19,8),(17,0,5),(17,0,8),(17,19,5),(17,19,8)],[(21,0,5),(21,0,8),(21,19,5),(21,19,8)],[(2,19,5),(2,19,8)]]
noncomputable def a1:List (List (Int×Int×Int)):=i9 [[(20,0,5),(20,0,8),(20,19,5),(20,19,8),(17,0,0),(17,19,5),(17,19,8)],[(21,0,5),(21,0,8),(21,19,5),(21,19,8)],[(2,19,5),(2,19,8)]]
noncomputable def uj(w:PV):Bool:=tM (mw w) [sj,gg,fy,lX]
noncomputable def rC:List (List Ed×List PV):=[Im false,Im true,jV false false false,jV true false false,jV false false true,jV false true true,jV true false true,jV true true true]
noncomputable def dI(R:Int->List Row):List (List Ed×List PV):=EV R++(Ar++rC)
noncomputable def o6:List (List Ed×List PV):=Ar.filter λw=> !w.2.any uj
noncomputable def Av:List (List Ed×List PV):=o6++rC
noncomputable def sS(R:Int->List Row):List (List Ed×List PV):=o6++uU (eW R 2) (eW R 3) (decide (cl ((R 32).getD 0 []) 7=23))
noncomputable def cT(w:List Nat)(t:Int):List Ed->PV->Bool:=λO v=>decide (mw v=w)&&decide (mt v=t)
noncomputable def cW(w:List Nat):List Ed->PV->Bool:=λO v=>decide (mw v=w)
noncomputable def jg(t:Int):Part:=(λB=>B3 B t,cT sj t)
noncomputable def yC(t:Int):Part:=(λB=>Gh B t,cT gg t)
noncomputable def fS(t:Int):Part:=(λB=>B5 B t,cT lX t)
noncomputable def lp(l:Row):Part:=(λB=>listOf B (cl l 0) (cl l 1).toNat (cl l 2),λes v=>decide (mw v=fy)&&(match es with
 |e::_=>decide (e.t=cl l 0)&&(decide (e.p=cl l 1)||decide (e.p= -2))
 |[]=>false))
noncomputable def eM(x:Int×List Nat×Nat):Part:=(λB=>B9 B x.1 x.2.2,cT kx x.1)
noncomputable def sT(t:Int):Part:=(λB=>vF B t,cT B8 t)
noncomputable def sU(t:Int)(p:Nat)(o:Int)(np:Nat)(sp:Int):Part:=(λB=>d0 B t p o np sp,cT eR o)
noncomputable def Aw:Part:=(jZ,λO v=>tM (mw v) [ky,mY])
noncomputable def rD:Part:=(kB,cT eR 2)
noncomputable def N0:Part:=(kA,cT eR 1)
noncomputable def EY:Part:=(l5,cW lZ)
noncomputable def nq:Part:=(bases,cW kz)
noncomputable def EZ:Part:=(lY,cW tO)
noncomputable def Ir:Part:=(λB=>l7 (B.R 6),cW sk)
noncomputable def E0:Part:=(constants,cW gC)
noncomputable def E1:Part:=(params,cW tP)
noncomputable def N1:Part:=(i6,λO v=>decide (mw v=qY)||(decide (mw v=eR)&&decide (mt v=42)))
noncomputable def CA:Part:=(gh,cW pD)
noncomputable def It:Part:=(pC,cW xF)
noncomputable def Iu:Part:=(nested,cW hZ)
noncomputable def N2(p:Part)(ws:List (List Ed×List PV))(R:Int->List Row):Bool:=ws.all λw=>Iq (p.1 (tb (w.1.foldl eI R))) (w.2.filter (p.2 w.1))
noncomputable def n2(k:Nat):Int×List Nat×Nat:=named.getD k (0,[],0)
noncomputable abbrev Ax:=(Int->List Row)->List (List Ed×List PV)
noncomputable abbrev wL:Ax:=λO=>Av
noncomputable abbrev PL:=List (Part×Pl)
noncomputable def rE(s:Int):List Int:=if s<512 then [s-256] else (coded (s-512)).2
noncomputable def yD(t:Int):Nat->List (List Nat×Int)->Pl
 |_,[]=>[]
 |k,c::l=>(if decide (c.2<256)||fj t k then [] else (t,(k:Int))::(rE c.2).map (·,99))++yD t (k+1) l
noncomputable abbrev nt(t:Int):Part×Pl:=(yC t,yD t 0 (bB t))
noncomputable abbrev sV(l:Row):Part×Pl:=(lp l,[(cl l 0,cl l 1),(cl l 2,99)])
noncomputable abbrev E2(t:Int)(p:Nat)(o:Int)(np:Nat)(sp:Int):Part×Pl:=(sU t p o np sp,[(t,p),(o,np),(o,sp.toNat)])
noncomputable def b5(W:Ax)(l:PL)(R:Int->List Row):Bool:=l.all λq=>oo q.1 q.2 (W R) R
noncomputable def Ay:List Nat->List Row
 |[]=>[]
 |m::ms=>hG m++Ay ms
noncomputable def E3:List Nat->List Row
 |[]=>[]
 |m::ms=>gZ m++E3 ms
noncomputable def sW:List (List Nat):=i9 [[1,2],[1,2],[1,2]]
noncomputable abbrev UD:PL:=[0,1,4,6,8,10,11,17,18,20,21,23,24,25,27,32,35,41,42].map λt=>(jg t,wt [t])
noncomputable abbrev UE:PL:=[0,1,8,10,11,17,18,20,21,23,24,25,27,35,41,42].map λt=>(fS t,wt [t])
noncomputable abbrev UG:PL:=[0,1,4,6,8,17,23,27,32,35].map nt
noncomputable abbrev UH:PL:=[[18,1,20],[21,1,23]].map sV
noncomputable abbrev UI:PL:=[(jg 9,wt [9]),(jg 44,wt [44]),(fS 9,wt [9]),(fS 44,wt [44])]
noncomputable abbrev UJ:PL:=[9,18,20,21,41,44].map nt
noncomputable abbrev UK:PL:=[(jg 43,wt [43]),(fS 43,wt [43])]
noncomputable abbrev UL:PL:=[10,24,25,42,43].map nt
noncomputable abbrev UM:PL:=[(Aw,wt [0,32,2]),(sT 18,wt [18]),(sT 21,wt [21]),(eM (n2 0),wt [0]),(eM (n2 1),wt [1]),(eM (n2 5),wt [10]),(eM (n2 6),wt [20]),(eM (n2 7),wt [23]),(eM (n2 9),wt [35]),(eM (n2 10),wt [42]),(N0,wt [1]),(sU 21 1 23 1 2,wt [21,23]),(sU 18 1 20 1 (-1),wt [18,20]),(N1,wt [42]),(Iu,wt [41])]
noncomputable abbrev Qw:PL:=[(eM (n2 4),wt [6]),(EZ,wt [6]),(Ir,wt [6]),(E1,wt [6,8])]
noncomputable abbrev Qx:PL:=[(eM (n2 3),wt [4]),(E0,wt [11,4])]
noncomputable abbrev Qy:PL:=[(It,wt [25,2,6]),(EY,wt [2,4])]
theorem UN:∀(core:Int)(T F M:List Row),b5 dI UD (sX core T F M)=true:=by intros;kernel_rfl
theorem UO:∀(core:Int)(T F M:List Row),b5 dI UE (sX core T F M)=true:=by intros;kernel_rfl
theorem UP:∀(core:Int)(T F M:List Row),b5 dI UG (sX core T F M)=true:=by intros;kernel_rfl
theorem UQ:∀(core:Int)(T F M:List Row),b5 dI UH (sX core T F M)=true:=by intros;kernel_rfl
theorem UR:∀(core:Int)(T F M:List Row),b5 wL UM (sX core T F M)=true:=by intros;kernel_rfl
theorem R5:∀(T F M:List Row),([0,1].all λcore=>b5 dI [(fS 32,wt [32])] (sX core T F M))=true:=by intros;kernel_rfl
theorem R6:∀(T F M:List Row),([0,1].all λcore=>b5 wL [(eM (n2 8),wt [32])] (sX core T F M))=true:=by intros;kernel_rfl
theorem US:∀(core:Int)(t0 t1 t2:Row)(F M:List Row),((dS [t0,t1,t2]).all λT=>b5 dI UI (sX core T F M))=true:=by intros;kernel_rfl
theorem UT:∀(core:Int)(t0 t1 t2:Row)(F M:List Row),((dS [t0,t1,t2]).all λT=>b5 dI UJ (sX core T F M))=true:=by intros;kernel_rfl
theorem UU:∀(core:Int)(t0 t1 t2 m0 m1 m2 m3 m4 m5:Row)(F:List Row),((dS [t0,t1,t2]).all λT=>(dS [m0,m1,m2,m3,m4,m5]).all λM=>b5 dI UK (sX core T F M))=true:=by intros;kernel_rfl
theorem UW:∀(core:Int)(t0 t1 t2 m0 m1 m2 m3 m4 m5:Row)(F:List Row),((dS [t0,t1,t2]).all λT=>(dS [m0,m1,m2,m3,m4,m5]).all λM=>b5 dI UL (sX core T F M))=true:=by intros;kernel_rfl
theorem UX:∀(core:Int)(f0 f1 f2 f3 f4 f5:Row)(T M:List Row),((dS [f0,f1,f2,f3,f4,f5]).all λF=>b5 dI ([11].map nt) (sX core T F M))=true:=by intros;kernel_rfl
theorem UY:∀(core:Int)(g:Nat->E),(NZ.all λxs=>b5 dI [(jg 2,wt [2]),nt 2] (sE core (build g NY 0 xs)))=true:=by intros;kernel_rfl
theorem UZ:∀(core:Int)(g:Nat->E),(yB.all λxs=>b5 dI [(fS 2,wt [2])] (sE core (build g nh 0 xs)))=true:=by intros;kernel_rfl
theorem U0:∀(core:Int)(g:Nat->E),(yB.all λxs=>b5 wL [(eM (n2 2),wt [2])] (sE core (build g nh 0 xs)))=true:=by intros;kernel_rfl
theorem U1:∀(core:Int)(T M:List Row),(sW.all λfs=>b5 dI [(fS 4,wt [4])] (sX core T (E3 fs) M))=true:=by intros;kernel_rfl
theorem U2:∀(core:Int)(T M:List Row),(sW.all λfs=>b5 wL Qx (sX core T (E3 fs) M))=true:=by intros;kernel_rfl
theorem U3:∀(core:Int)(T F:List Row),(sW.all λms=>b5 dI [(fS 6,wt [6])] (sX core T F (Ay ms)))=true:=by intros;kernel_rfl
theorem U4:∀(core:Int)(T F:List Row),(sW.all λms=>b5 dI ([[6,5,8]].map sV) (sX core T F (Ay ms)))=true:=by intros;kernel_rfl
theorem U5:∀(core:Int)(T F:List Row),(sW.all λms=>b5 wL Qw (sX core T F (Ay ms)))=true:=by intros;kernel_rfl
theorem U6:∀(core:Int)(g:Nat->E),(qp.all λxs=>b5 dI ([[2,4,4]].map sV) (sE core (build g rA 0 xs)))=true:=by intros;kernel_rfl
theorem U7:∀(core:Int)(g:Nat->E),(qp.all λxs=>b5 dI ([[2,5,6]].map sV) (sE core (build g rB 0 xs)))=true:=by intros;kernel_rfl
theorem U8:∀(core:Int)(g:Nat->E),(qp.all λxs=>b5 wL [E2 2 4 4 1 2] (sE core (build g rA 0 xs)))=true:=by intros;kernel_rfl
theorem U9:∀(core:Int)(g:Nat->E),(qp.all λxs=>b5 wL [E2 2 5 6 3 4] (sE core (build g rB 0 xs)))=true:=by intros;kernel_rfl
theorem Vb:∀(core:Int)(e0 e1 e2:E),((dS [e0,e1,e2]).all λes=>b5 wL Qy (sE core es))=true:=by intros;kernel_rfl
theorem Vc:∀(core:Int)(e0 e1 e2:E),((dS [e0,e1,e2]).all λes=>N2 CA Av (sE core es))=true:=by intros;kernel_rfl
theorem Ve:∀(g:Nat->E),[(0:Int),1].all (λcore=>yB.all λxs=>b5 (λO=>o6++uU (eW (sE core (build g nh 0 xs)) 2) false false) [(rD,wt [2,41])] (sE core (build g nh 0 xs)))=true:=by intros;kernel_rfl
theorem R7:∀(g:Nat->E),(a0.all λxs=>b5 sS [(nq,wt [2,32,41])] (sE 0 (build g Cz 0 xs)))=true:=by intros;kernel_rfl
theorem R8:∀(g:Nat->E),(a1.all λxs=>b5 sS [(nq,wt [2,32,41])] (sE 1 (build g Cz 0 xs)))=true:=by intros;kernel_rfl
end FR.Q
end
namespace FR.Q
open PySem
theorem lq{X:Type}{p:Nat->X->List PV}:∀(l:List X)(k:Nat),(∀k x,p k x=[])->bI p k l=[]
 |[],_,_=>rfl
 |x::l,k,h=>by
  show p k x++bI p (k+1) l=[]
  rw[h k x,lq l (k+1) h];rfl
theorem lD{X:Type}{p q:Nat->X->List PV}:∀(l:List X)(k:Nat),(∀i x,l[i]? =some x->p (k+i) x=q (k+i) x)->bI p k l=bI q k l
 |[],_,_=>rfl
 |x::l,k,h=>by
  show p k x++bI p (k+1) l=q k x++bI q (k+1) l
  rw[show p k x=q k x from h 0 x rfl,lD l (k+1) λi y hy=>Nat.succ_add_eq_add_succ k i▸h (i+1) y hy]
theorem CB{c n:Int}{p:Int×Int}(h:dm c n=some p):p.1∈(coded c).2:=by
 have key:∀(o:Option Int)(z:Int),(match o with | some t=>if t<0 then none else some (t,z) | none=>none)=some p->o=some p.1:=λo z h=>by
  cases o with
  |none=>cases h
  |some t=>
   have h:(if t<0 then none else some (t,z))=some p:=h
   by_cases e:t<0
   ·rw[if_pos e] at h;cases h
   ·rw[if_neg e] at h;cases h;rfl
 exact List.mem_of_getElem? (key _ _ h)
theorem Az{t:Int}:∀{l:List (List Nat×Int)}{k:Nat}(i:Nat)(c:List Nat×Int),l[i]? =some c->(decide (c.2<256)||fj t (k+i:Nat))=false->(t,((k+i:Nat):Int))∈yD t k l/\∀t'∈rE c.2,(t',99)∈yD t k l
 |[],_,_,_,h,_=>nomatch h
 |x::l,k,0,c,hc,h=>by
  cases hc
  show _∈(if (decide (x.2<256)||fj t (k+0:Nat))=true then [] else (t,((k+0:Nat):Int))::(rE x.2).map (·,99))++_/\∀t'∈rE x.2,_∈(if (decide (x.2<256)||fj t (k+0:Nat))=true then [] else (t,((k+0:Nat):Int))::(rE x.2).map (·,99))++_
  rw[h]
  exact⟨List.mem_append_left _ cR,λt' m=>List.mem_append_left _ (List.mem_cons_of_mem _ (List.mem_map.mpr ⟨t',m,rfl⟩))⟩
 |x::l,k,i+1,c,hc,h=>by
  rw[<-Nat.succ_add_eq_add_succ] at h⊢
  have g:=Az (l:=l) (k:=k+1) i c hc h
  exact⟨List.mem_append_right _ g.1,λt' m=>List.mem_append_right _ (g.2 t' m)⟩
theorem zE{s k:Int}{m:Bool}{R R':Int->List Row}(h:∀t∈rE s,(R t).length=(R' t).length):dq (tb R) s k m=dq (tb R') s k m:=by
 rw[rE] at h
 rw[dq,dq]
 by_cases kY:s<512
 ·rw[if_pos kY] at h
  rw[if_pos kY,if_pos kY]
  show (decide (k>=1)&&decide (k<=((R (s-256)).length:Int)))=_
  rw[h _ cR];rfl
 ·rw[if_neg kY] at h
  rw[if_neg kY,if_neg kY]
  cases hp:dm (s-512) k with
  |none=>rfl
  |some p=>
   show (if p.2=0 then m else decide (p.2>=1)&&decide (p.2<=((R p.1).length:Int)))=_
   rw[h p.1 (CB hp)];rfl
theorem yE(t:Int):ub (yC t) (yD t 0 (bB t)):=λR R' hh=>by
 refine lD _ _ λj c hc=> ?_
 have h:=Az (t:=t) (k:=0) j c hc
 rw[Nat.zero_add] at h⊢
 show (if decide (c.2<256)||fj t j then [] else B4 (tb R) t j c.2 (i5 t c.1))=(if decide (c.2<256)||fj t j then [] else B4 (tb R') t j c.2 (i5 t c.1))
 cases hb:decide (c.2<256)||fj t j with
 |true=>rfl
 |false=>
  have h:=h hb
  have hr:=(hh _ h.1).1
  rw[pg (Int.ofNat_lt.mpr (Nat.lt_of_lt_of_le (List.getElem?_eq_some_iff.mp hc).1 (bJ (fk t) (by decide))))] at hr
  have G:∀R,bI (λk r=>if !dq (tb R) c.2 (cl r j) (i5 t c.1) then [aG t (k+1) gg] else []) 0 (R t)=bI (λk v=>if !dq (tb R) c.2 v (i5 t c.1) then [aG t (k+1) gg] else []) 0 ((R t).map λr=>cl r j):=λR=>yy (λr=>cl r j) (λk v=>if !dq (tb R) c.2 v (i5 t c.1) then [aG t (k+1) gg] else []) (R t) 0
  refine(G R).trans (.trans ?_ (G R').symm)
  rw[hr]
  exact lD _ _ λk v O=>by rw[zE λt' m=>o5 hh (h.2 t' m)]
noncomputable def Qz(t o ct co:Int)(xs:List Int):List PV:=(if decide (ct=0)&&decide (co>0) then [aG o 1 fy] else [])++(bH (λ(last:Int) k v=>if decide (v<last)||(decide (v>co+1)||(decide ((k:Int)=0)&& !decide (v=1))) then (last,[aG t (k+1) fy]) else (v,[])) 1 0 xs).2
theorem Kh{l:Row}(hp:cl l 1<16):ub (lp l) (sV l).2:=λR R' h=>by
 have e:∀R,(lp l).1 (tb R)=Qz (cl l 0) (cl l 2) (R (cl l 0)).length (R (cl l 2)).length ((R (cl l 0)).map λr=>cl r (cl l 1).toNat):=λR=>by rw[Qz,<-yz];rfl
 have a:=(h _ cR).1
 rw[show pick (cl l 1)=λr=>cl r (cl l 1).toNat from funext λr=>if_pos hp] at a
 rw[e R,e R',a,o5 h cR,o5 h (List.mem_cons_of_mem _ cR)]
noncomputable def Vf(o sp ct co:Int)(a n s:Int->Int):List PV:=bI (λO k=>(bH (λ(es:Es) O x=>(cn es (q9 ((c6 texts (n x)).getD []) (if sp>=0 then (c6 kR (s x)).getD [] else [])) one,if (bj es (q9 ((c6 texts (n x)).getD []) (if sp>=0 then (c6 kR (s x)).getD [] else []))).isSome then [aG o x eR] else [])) [] 0 (cL (a k) ((if k<ct then a (k+1) else co+1)-a k).toNat)).2) 0 (cL 1 ct.toNat)
theorem AA{t o sp:Int}{p np:Nat}(hp:(p:Int)<16)(hn:(np:Int)<16)(hs:(sp.toNat:Int)<16):ub (sU t p o np sp) (E2 t p o np sp).2:=λR R' h=>by
 have e:∀R,(sU t p o np sp).1 (tb R)=Vf o sp (R t).length (R o).length (λk=>cl (bz (tb R) t k) p) (λx=>cl (bz (tb R) o x) np) (λx=>cl (bz (tb R) o x) sp.toNat):=λR=>rfl
 have m:=List.mem_cons_of_mem (t,(p:Int)) (cR (a:=(o,(np:Int))) (l:=[(o,(sp.toNat:Int))]))
 rw[e R,e R',o5 h cR,o5 h m,funext (yx h cR hp),funext (yx h m hn),funext (yx h (List.mem_cons_of_mem _ (List.mem_cons_of_mem _ cR)) hs)]
theorem yF{X:Type}(Vs:List (List X)):[]∈i9 Vs:=by cases Vs<;>exact cR
theorem vn{X:Type}{V:List X}{Vs:List (List X)}{x:X}{l:List X}(hx:x∈V)(hl:l∈i9 Vs):x::l∈i9 (V::Vs):=
 List.mem_cons_of_mem _ (List.mem_flatMap.mpr ⟨x,hx,List.mem_map.mpr ⟨l,hl,rfl⟩⟩)
noncomputable def fW{X:Type}(g:E->X)(core:Int):Nat->List (List X)->Prop
 |_,[]=>True
 |k,V::Vs=>(∀x,g (cc core k x)∈V)/\fW g core (k+1) Vs
theorem j4{X:Type}(g:E->X)(core:Int):∀(Vs:List (List X))(k:Nat)(xs:List Int),fW g core k Vs->xs.length<=Vs.length->(nf core k xs).map g∈i9 Vs
 |Vs,_,[],_,_=>yF Vs
 |_::Vs,k,x::xs,h,hl=>vn (h.1 x) (j4 g core Vs (k+1) xs h.2 (Nat.le_of_succ_le_succ hl))
 |[],_,_::_,_,hl=>absurd hl (Nat.not_succ_le_zero _)
structure jP(core:Int)(es:List E):Prop where
 f:es.map (·.f)∈qp
 m:es.map (·.m)∈qp
 x:es.map (·.ex)∈NZ
 n:es.map (λe=>(e.nm,e.sp))∈yB
 b0:core=0->es.map (λe=>(e.nm,e.sp,e.ex))∈a0
 b1:core=1->es.map (λe=>(e.nm,e.sp,e.ex))∈a1
 l:es.length<=3
theorem N3(x:Int):(x.fmod 3).toNat∈d3:=by rcases Co x with h | h | h<;>rw[h]<;>decide
theorem yG(x:Int):x.fmod 2∈[0,1]:=by rcases vL x with h | h<;>rw[h]<;>decide
noncomputable def ff(e:E):Int×Int×Int:=(e.nm,e.sp,e.ex)
noncomputable def Vg(core:Int)(rr:Nat)(a b d:Int):Int×Int×Int:=
 let sp:Int:=if rr=2\/a=1 then 19 else 0
 let c:Bool:=decide (rr=0)&&decide (d=1)
 let ex:Int:=if b=1 then 8 else 5
 (if c then 17 else cl [20,21,2] rr,sp,if c&&(decide (core=1)&&decide (sp=0)) then 0 else ex)
theorem pP{core:Int}{k:Nat}{L:List (Int×Int×Int)}(h:∀a∈[0,1],∀b∈[0,1],∀d∈[0,1],Vg core k a b d∈L)(x:Int):ff (cc core k x)∈L:=h _ (yG (x.fdiv 36)) _ (yG (x.fdiv 18)) _ (yG (x.fdiv 9))
noncomputable def L1:List (Int×Int×Int):=[(21,0,5),(21,0,8),(21,19,5),(21,19,8)]
noncomputable def L2:List (Int×Int×Int):=[(2,19,5),(2,19,8)]
theorem Iv{core:Int}{L0:List (Int×Int×Int)}(hb:(core=0/\i9 [L0,L1,L2]=a0)\/(core=1/\i9 [L0,L1,L2]=a1))(g0:∀x,ff (cc core 0 x)∈L0)(g1:∀x,ff (cc core 1 x)∈L1)(g2:∀x,ff (cc core 2 x)∈L2)
  (p0:∀q∈L0,q.2.2∈([5,8,0]:List Int)/\(q.1,q.2.1)∈([(20,0),(20,19),(17,0),(17,19)]:List (Int×Int))) (xs:List Int) (hl:xs.length<=3):jP core (nf core 0 xs):=by
 have p1:∀q∈L1,q.2.2∈([5,8]:List Int)/\(q.1,q.2.1)∈([(21,0),(21,19)]:List (Int×Int)):=by decide
 have p2:∀q∈L2,q.2.2∈([5,8]:List Int)/\(q.1,q.2.1)∈([(2,19)]:List (Int×Int)):=by decide
 have q0:=λx=>p0 _ (g0 x)
 have q1:=λx=>p1 _ (g1 x)
 have q2:=λx=>p2 _ (g2 x)
 have hf:=N3
 have b:=j4 ff core [L0,L1,L2] 0 xs ⟨g0,g1,g2,a_⟩ hl
 refine⟨j4 (·.f) core [d3,d3,d3] 0 xs ⟨λx=>hf x,λx=>hf x,λx=>hf x,a_⟩ hl,j4 (·.m) core [d3,d3,d3] 0 xs ⟨λx=>hf (x.fdiv 3),λx=>hf (x.fdiv 3),λx=>hf (x.fdiv 3),a_⟩ hl,j4 (·.ex) core [_,_,_] 0 xs ⟨λx=>(q0 x).1,λx=>(q1 x).1,λx=>(q2 x).1,a_⟩ hl,
  j4 (λe=>(e.nm,e.sp)) core [_,_,_] 0 xs ⟨λx=>(q0 x).2,λx=>(q1 x).2,λx=>(q2 x).2,a_⟩ hl,λe=> ?_,λe=> ?_,?_⟩
 ·rcases hb with ⟨_,h⟩ | ⟨h,_⟩
  ·exact h▸b
  ·exact absurd (e.symm.trans h) (by decide)
 ·rcases hb with ⟨h,_⟩ | ⟨_,h⟩
  ·exact absurd (e.symm.trans h) (by decide)
  ·exact h▸b
 ·have len:∀(xs:List Int)(k:Nat),(nf core k xs).length=xs.length:=λxs=>by
   induction xs with
   |nil=>exact λO=>rfl
   |cons x xs ih=>exact λk=>congrArg (· +1) (ih (k+1))
  rw[len];exact hl
theorem O9(core:Int)(hc:core=0\/core=1)(xs:List Int)(hl:xs.length<=3):jP core (nf core 0 xs):=by
 rcases hc with h | h
 ·subst h
  exact Iv (L0:=[(20,0,5),(20,0,8),(20,19,5),(20,19,8),(17,0,5),(17,0,8),(17,19,5),(17,19,8)]) (.inl ⟨rfl,rfl⟩) (pP (by decide)) (pP (by decide)) (pP (by decide)) (by decide) xs hl
 ·subst h
  exact Iv (L0:=[(20,0,5),(20,0,8),(20,19,5),(20,19,8),(17,0,0),(17,19,5),(17,19,8)]) (.inr ⟨rfl,rfl⟩) (pP (by decide)) (pP (by decide)) (pP (by decide)) (by decide) xs hl
theorem dO{X:Type}{get:E->X}{upd:E->X->E}{Vs:List (List X)}{P:List E->Bool}(hu:∀e,upd e (get e)=e)(h:∀g:Nat->E,(Vs.all λxs=>P (build g upd 0 xs))=true){es:List E}(hm:es.map get∈Vs):P es=true:=by
 have:=List.all_eq_true.mp (h λi=>es.getD i ⟨0,0,0,0,0⟩) _ hm
 rwa [yA get upd hu _ ⟨0,0,0,0,0⟩ es 0 λi=>by rw[Nat.zero_add]] at this
noncomputable def N4{X:Type}(d:X)(T:List X):Nat->List X
 |0=>[]
 |n+1=>T.headD d::N4 d T.tail n
theorem nu{X:Type}(d:X):∀(n:Nat)(T:List X),T.length<=n->T∈dS (N4 d T n)
 |n,[],_=>by cases n<;>exact cR
 |n+1,_::T,h=>List.mem_cons_of_mem _ (List.mem_map.mpr ⟨T,nu d n T (Nat.le_of_succ_le_succ h),rfl⟩)
 |0,_::_,h=>absurd h (Nat.not_succ_le_zero _)
theorem yH{P:List E->Bool}(h:∀e0 e1 e2:E,((dS [e0,e1,e2]).all P)=true){es:List E}(hl:es.length<=3):P es=true:=List.all_eq_true.mp (h _ _ _) _ (nu ⟨0,0,0,0,0⟩ 3 es hl)
theorem Iw{P:List Row->Bool}(h:∀t0 t1 t2:Row,((dS [t0,t1,t2]).all P)=true){T:List Row}(hl:T.length<=3):P T=true:=List.all_eq_true.mp (h _ _ _) _ (nu [] 3 T hl)
theorem Iy{P:List Row->Bool}(h:∀m0 m1 m2 m3 m4 m5:Row,((dS [m0,m1,m2,m3,m4,m5]).all P)=true){M:List Row}(hl:M.length<=6):P M=true:=List.all_eq_true.mp (h _ _ _ _ _ _) _ (nu [] 6 M hl)
theorem AB:∀(es:List E)(f m:Int),(iU f m es).length=es.length
 |[],_,_=>rfl
 |_::es,_,_=>congrArg (· +1) (AB es _ _)
theorem E4:∀(es:List E),(fl es).length<=2*es.length
 |[]=>Nat.le_refl _
 |e::es=>by
  show (gZ e.f++fl es).length<=2*es.length+2
  rw[List.length_append,Nat.add_comm];exact Nat.add_le_add (E4 es) (uP e.f)
theorem E5:∀(es:List E),(ml es).length<=2*es.length
 |[]=>Nat.le_refl _
 |e::es=>by
  show (hG e.m++ml es).length<=2*es.length+2
  rw[List.length_append,Nat.add_comm];exact Nat.add_le_add (E5 es) (uQ e.m)
end FR.Q
section
set_option maxRecDepth 100000
namespace FR.Q
open PySem
noncomputable def AllP{X:Type}(P:X->Prop):List X->Prop
 |[]=>True
 |x::l=>P x/\AllP P l
theorem AllP.at{X:Type}{P:X->Prop}:∀{l:List X},AllP P l->∀x∈l,P x
 |_::_,h,x,m=>(List.mem_cons.mp m).elim (λe=>e▸h.1) λm=>AllP.at h.2 x m
 |[],_,_,m=>absurd m List.not_mem_nil
noncomputable abbrev tl(R:Int->List Row)(p:Part):List PV:=p.1 (tb R)
noncomputable abbrev Tl(R:Int->List Row)(w:List Ed×List PV)(p:Part):Prop:=tl (w.1.foldl eI R) p=w.2.filter (p.2 w.1)
noncomputable abbrev sY(q:Part×Pl):Prop:=ub q.1 q.2
theorem cV{l:PL}(h:∀R,(l.map λq=>tl R q.1)=l.map λq=>tl (pO q.2 R) q.1):∀q∈l,sY q:=λq m=>As λR=>List.map_inj_left.mp (h R) q m
theorem pQ{l:List Int}:∀q∈l.map nt,sY q:=λq m=>by
 obtain ⟨x,hx,rfl⟩:=List.mem_map.mp m
 exact yE x
theorem sZ{ls:List Row}(h:(ls.all λl=>decide (cl l 1<16))=true):∀q∈ls.map sV,sY q:=λq m=>by
 obtain ⟨x,hx,rfl⟩:=List.mem_map.mp m
 exact Kh (bV (List.all_eq_true.mp h x hx))
theorem AD{q:Part×Pl}(h:sY q):∀x∈[q],sY x:=λx m=>c_ m▸h
section
variable{R:Int->List Row}{w:List Ed×List PV}{W:Ax}{l:PL}
noncomputable def Gr(R:Int->List Row)(w:List Ed×List PV)(l:PL):Prop:=∀q∈l,Tl R w q.1
theorem eK(k:b5 W l R=true)(o:∀q∈l,sY q)(hw:w∈W R):Gr R w l:=λq m=>NX (List.all_eq_true.mp k q m) (o q m) hw
theorem Gr.at(h:Gr R w l)(i:Nat){p:Part}{ps:Pl}(e:l[i]? =some (p,ps)):Tl R w p:=h _ (List.mem_of_getElem? e)
end
section
variable{core:Int}{es:List E}{w:List Ed×List PV}
theorem AE{P:List Row->Bool}{f:List Nat->List Row}{L:List Row}{ns:List Nat}(h:(sW.all λms=>P (f ms))=true)(k:∀xs∈qp,f xs∈sW.map f)(e:f ns=L)(hn:ns∈qp):P L=true:=by
 obtain ⟨ms,m,q⟩:=List.mem_map.mp (k ns hn)
 rw[<-e,<-q]
 exact List.all_eq_true.mp h ms m
theorem Iz:∀(es:List E),Ay (es.map (·.m))=ml es
 |[]=>rfl
 |e::es=>congrArg (hG e.m++ ·) (Iz es)
theorem IA:∀(es:List E),E3 (es.map (·.f))=fl es
 |[]=>rfl
 |e::es=>congrArg (gZ e.f++ ·) (IA es)
theorem uc{P:List Row->Bool}(h:(sW.all λms=>P (Ay ms))=true)(xo:jP core es):P (ml es)=true:=AE h (by decide+kernel) (Iz es) xo.m
theorem AF{P:List Row->Bool}(h:(sW.all λms=>P (E3 ms))=true)(xo:jP core es):P (fl es)=true:=AE h (by decide+kernel) (IA es) xo.f
theorem QA(xo:jP core es):(iU 6 9 es).length<=3:=by rw[AB];exact xo.l
theorem Vh(xo:jP core es):(fl es).length<=6:=bJ (E4 es) (Nat.mul_le_mul_left 2 xo.l)
theorem Vj(xo:jP core es):(ml es).length<=6:=bJ (E5 es) (Nat.mul_le_mul_left 2 xo.l)
theorem IB{l:PL}{W:Ax}(h:∀(core:Int) (t0 t1 t2 m0 m1 m2 m3 m4 m5:Row) (F:List Row),((dS [t0,t1,t2]).all λT=>(dS [m0,m1,m2,m3,m4,m5]).all λM=>b5 W l (sX core T F M))=true)(xo:jP core es):b5 W l (sE core es)=true:=
 Iy (P:=λM=>b5 W l (sX core (iU 6 9 es) (fl es) M)) (λm0 m1 m2 m3 m4 m5=>Iw (P:=λT=>(dS [m0,m1,m2,m3,m4,m5]).all λM=>b5 W l (sX core T (fl es) M)) (λt0 t1 t2=>h core t0 t1 t2 m0 m1 m2 m3 m4 m5 (fl es)) (QA xo)) (Vj xo)
theorem N5{l:PL}{W:Ax}(h:∀(core:Int) (t0 t1 t2:Row) (F M:List Row),((dS [t0,t1,t2]).all λT=>b5 W l (sX core T F M))=true)(xo:jP core es):b5 W l (sE core es)=true:=
 Iw (P:=λT=>b5 W l (sX core T (fl es) (ml es))) (λt0 t1 t2=>h core t0 t1 t2 (fl es) (ml es)) (QA xo)
theorem N6{l:PL}{W:Ax}(h:∀(T F M:List Row),([0,1].all λcore=>b5 W l (sX core T F M))=true)(hc:core=0\/core=1):b5 W l (sE core es)=true:=
 List.all_eq_true.mp (h (iU 6 9 es) (fl es) (ml es)) core (List.mem_cons.mpr (hc.imp_right List.mem_singleton.mpr))
theorem S8{a2 a3 c7:Bool}(h:w∈o6++uU a2 a3 c7):w∈Av:=by
 rcases List.mem_append.mp h with h | h
 ·exact List.mem_append_left _ h
 ·refine List.mem_append_right _ ?_
  have i:∀k v,rC[k]? =some v->v∈rC:=λk v h=>List.mem_of_getElem? h
  rcases List.mem_cons.mp h with h | h
  ·rw[h];cases a3
   ·exact i 0 _ rfl
   ·exact i 1 _ rfl
  ·rw[c_ h]
   cases c7
   ·cases a2
    ·exact i 2 _ rfl
    ·exact i 3 _ rfl
   ·cases a2<;>cases a3
    ·exact i 4 _ rfl
    ·exact i 5 _ rfl
    ·exact i 6 _ rfl
    ·exact i 7 _ rfl
theorem use(xo:jP core es)(hw:w∈Av):Tl (sE core es) w CA:=yp (List.all_eq_true.mp (yH (P:=λes=>N2 CA Av (sE core es)) (Vc core) xo.l) w hw)
theorem Vk(hc:core=0\/core=1)(xo:jP core es){a3 c7:Bool}(hw:w∈o6++uU (eW (sE core es) 2) a3 c7):Tl (sE core es) w rD:=by
 have h:∀g:Nat->E,(yB.all λxs=>b5 (λO=>o6++uU (eW (sE core (build g nh 0 xs)) 2) false false) [(rD,wt [2,41])] (sE core (build g nh 0 xs)))=true:=λg=>
  List.all_eq_true.mp (Ve g) core (List.mem_cons.mpr (hc.imp_right List.mem_singleton.mpr))
 have h:=dO (get:=λe=>(e.nm,e.sp)) (upd:=nh) (P:=λes=>b5 (λO=>o6++uU (eW (sE core es) 2) false false) [(rD,wt [2,41])] (sE core es)) (λO=>rfl) h xo.n
 have o:∀q∈[(rD,wt [2,41])],sY q:=cV λR=>by kernel_rfl
 have g:∀v∈o6++uU (eW (sE core es) 2) false false,Tl (sE core es) v rD:=λv hv=>(eK h o hv).at 0 rfl
 rcases List.mem_append.mp hw with hw | hw
 ·exact g w (List.mem_append_left _ hw)
 ·rcases List.mem_cons.mp hw with hw | hw
  ·rw[hw]
   exact(g (Im false) (List.mem_append_right _ cR)).trans (by cases a3<;>rfl)
  ·rw[c_ hw]
   refine(g (jV (eW (sE core es) 2) false false) (List.mem_append_right _ (List.mem_cons_of_mem _ cR))).trans ?_
   generalize eW (sE core es) 2=a2
   cases c7
   ·cases a2<;>rfl
   ·cases a2<;>cases a3<;>rfl
theorem Vm(hc:core=0\/core=1)(xo:jP core es)(hw:w∈sS (sE core es)):Tl (sE core es) w nq:=by
 have o:∀q∈[(nq,wt [2,32,41])],sY q:=cV λR=>by kernel_rfl
 rcases hc with h | h
 ·subst h
  exact(eK (W:=sS) (dO (get:=λe=>(e.nm,e.sp,e.ex)) (upd:=Cz) (P:=λes=>b5 sS [(nq,wt [2,32,41])] (sE 0 es)) (λO=>rfl) R7 (xo.b0 rfl)) o hw).at 0 rfl
 ·subst h
  exact(eK (W:=sS) (dO (get:=λe=>(e.nm,e.sp,e.ex)) (upd:=Cz) (P:=λes=>b5 sS [(nq,wt [2,32,41])] (sE 1 es)) (λO=>rfl) R8 (xo.b1 rfl)) o hw).at 0 rfl
end
end FR.Q
end
section
set_option maxRecDepth 100000
namespace FR.Q
open PySem
noncomputable def lE(p:Int->Bool):(Int->List Row)->List Ed->Bool
 |_,[]=>true
 |R,e::es=>(bif p e.t then pN R e else true)&&lE p (eI R e) es
noncomputable def N7(t:Int):Bool:=decide (t=4)
noncomputable def N8(t:Int):Bool:=decide (t=6)
noncomputable def N9(t:Int):Bool:= !decide (t=4)&& !decide (t=6)
theorem AG:∀{es:List Ed}{R:Int->List Row},lE N7 R es=true->lE N8 R es=true->lE N9 R es=true->jU R es=true
 |[],_,_,_,_=>rfl
 |e::es,R,h4,h6,ho=>by
  have h4:=b_ h4
  have h6:=b_ h6
  have ho:=b_ ho
  refine Bool.and_eq_true_iff.mpr ⟨?_,AG h4.2 h6.2 ho.2⟩
  have pick:∀{q:Bool},q=true->(bif q then pN R e else true)=true->pN R e=true:=λhq h=>by rw[hq] at h;exact h
  by_cases e4:e.t=4
  ·exact pick (decide_eq_true e4) h4.1
  ·by_cases e6:e.t=6
   ·exact pick (decide_eq_true e6) h6.1
   ·refine pick ?_ ho.1
    show (!decide (e.t=4)&& !decide (e.t=6))=true
    rw[decide_eq_false e4,decide_eq_false e6];rfl
theorem R9:∀(core:Int)(g:Nat->E),(qp.all λxs=>(dI (sE core (build g rA 0 xs))).all λw=>lE N7 (sE core (build g rA 0 xs)) w.1)=true:=by intros;kernel_rfl
theorem Sf:∀(core:Int)(g:Nat->E),(qp.all λxs=>(dI (sE core (build g rB 0 xs))).all λw=>lE N8 (sE core (build g rB 0 xs)) w.1)=true:=by intros;kernel_rfl
theorem Sg:∀(core:Int)(e0 e1 e2:E),((dS [e0,e1,e2]).all λes=>(dI (sE core es)).all λw=>lE N9 (sE core es) w.1&&decide (w.1.length<=100))=true:=by intros;kernel_rfl
noncomputable abbrev Oa:List Part:=[rD,N0,sU 2 4 4 1 2,sU 2 5 6 3 4,sU 21 1 23 1 2,sU 18 1 20 1 (-1)]
noncomputable abbrev G4:List Part:=[EY,nq,EZ,Ir,E0,E1,N1,CA,It,Iu]
noncomputable def o7:List Part:=Aw::([18,21].map sT++(named.map eM++(Oa++G4)))
noncomputable def mx:List Part:=aL.map jg++(aL.map yC++(lists.map lp++aL.map fS))
noncomputable def nv(ps:List Part)(w:List Ed×List PV):List PV:=ps.flatMap λp=>w.2.filter (p.2 w.1)
theorem jE{X:Type}(G:X->List PV):∀(l:List X)(k:Nat),bI (λO t=>G t) k l=l.flatMap G
 |[],_=>rfl
 |x::l,k=>by
  show G x++bI (λO t=>G t) (k+1) l=G x++l.flatMap G
  rw[jE G l (k+1)]
theorem Ki(R:Int->List Row):rf (tb R)=o7.flatMap (tl R):=by
 have hm:Ca (tb R)=([18,21].map sT).flatMap (tl R):=(jE (vF (tb R)) [18,21] 0).trans (List.flatMap_map ..).symm
 have hn:names (tb R)=(named.map eM).flatMap (tl R):=(jE (λx=>tl R (eM x)) named 0).trans (List.flatMap_map ..).symm
 have ht:ow (tb R)=Oa.flatMap (tl R):=by
  show kB (tb R)++(kA (tb R)++(d0 (tb R) 2 4 4 1 2++(d0 (tb R) 2 5 6 3 4++(d0 (tb R) 21 1 23 1 2++d0 (tb R) 18 1 20 1 (-1)))))=kB (tb R)++(kA (tb R)++(d0 (tb R) 2 4 4 1 2++(d0 (tb R) 2 5 6 3 4++(d0 (tb R) 21 1 23 1 2++(d0 (tb R) 18 1 20 1 (-1)++[])))))
  rw[List.append_nil]
 have he:l5 (tb R)++(bases (tb R)++(lY (tb R)++(l7 (R 6)++(constants (tb R)++(params (tb R)++(i6 (tb R)++(gh (tb R)++(pC (tb R)++nested (tb R)))))))))=G4.flatMap (tl R):=by
  show _=l5 (tb R)++(bases (tb R)++(lY (tb R)++(l7 (R 6)++(constants (tb R)++(params (tb R)++(i6 (tb R)++(gh (tb R)++(pC (tb R)++(nested (tb R)++[])))))))))
  rw[List.append_nil]
 show jZ (tb R)++(Ca (tb R)++(names (tb R)++(ow (tb R)++(l5 (tb R)++(bases (tb R)++(lY (tb R)++(l7 (R 6)++(constants (tb R)++(params (tb R)++(i6 (tb R)++(gh (tb R)++(pC (tb R)++nested (tb R)))))))))))))
  =jZ (tb R)++([18,21].map sT++(named.map eM++(Oa++G4))).flatMap (tl R)
 rw[List.flatMap_append,List.flatMap_append,List.flatMap_append,hm,hn,ht,he]
theorem flat_keys{R:Int->List Row}{G:Int->List PV}(h:∀t,R t=[]->G t=[]):∀l:List Int,(fm R l).flatMap G=l.flatMap G
 |[]=>rfl
 |t::l=>by
  have ih:=flat_keys h l
  rw[fm] at ih⊢
  show _=G t++l.flatMap G
  cases hr:R t with
  |nil=>rw[List.filter_cons_of_neg (by rw[hr];exact Bool.noConfusion),h t hr,ih];rfl
  |cons r rs=>rw[List.filter_cons_of_pos (by rw[hr];rfl),<-ih];rfl
theorem G5{R:Int->List Row}(hw:eJ R):early (ik R)=mx.flatMap (tl R):=by
 rw[ik,kM hw]
 have zt:∀{t:Int}{p:Nat->Row->List PV},R t=[]->bI p 0 (R t)=[]:=λh=>by rw[h];rfl
 have z1:∀t,R t=[]->tl R (jg t)=[]:=λt h=>lq _ _ λk c=>by
  show (if decide (c.2>=512) then bI _ 0 (R t) else [])=[]
  rw[zt h];cases decide (c.2>=512)<;>rfl
 have z2:∀t,R t=[]->tl R (yC t)=[]:=λt h=>lq _ _ λk c=>by
  show (if decide (c.2<256)||fj t k then [] else bI _ 0 (R t))=[]
  rw[zt h];cases decide (c.2<256)||fj t k<;>rfl
 have z3:∀t,R t=[]->tl R (fS t)=[]:=λt h=>lq _ _ λk c=>zt h
 have go:∀{f:Int->Part},(∀t,R t=[]->tl R (f t)=[])->bI (λO t=>tl R (f t)) 0 (fm R aL)=(aL.map f).flatMap (tl R):=λh=>(jE _ _ 0).trans ((flat_keys h aL).trans (List.flatMap_map ..).symm)
 have h4:bI (λO r=>tl R (lp r)) 0 lists=(lists.map lp).flatMap (tl R):=(jE (λr=>tl R (lp r)) lists 0).trans (List.flatMap_map ..).symm
 rw[mx,List.flatMap_append,List.flatMap_append,List.flatMap_append,<-go z1,<-go z2,<-go z3,<-h4]
 rfl
theorem yI{ps:List Part}{w:List Ed×List PV}{R:Int->List Row}(h:∀p∈ps,tl R p=w.2.filter (p.2 w.1)):ps.flatMap (tl R)=nv ps w:=by
 induction ps with
 |nil=>rfl
 |cons p ps ih=>
  show tl R p++ps.flatMap (tl R)=w.2.filter (p.2 w.1)++nv ps w
  rw[h p cR,ih λq hq=>h q (List.mem_cons_of_mem _ hq)]
theorem Kj{ps:List Part}{w:List Ed×List PV}{x:PV}(h:x∈nv ps w):x∈w.2:=
 (List.mem_flatMap.mp h).elim λO h=>(List.mem_filter.mp h.2).1
noncomputable def isInt:PV->Bool
 |.int _=>true
 |_=>false
noncomputable def isStr:PV->Bool
 |.str _=>true
 |_=>false
noncomputable def IC(x:PV):Bool:=match x with
 |.ah l=>match l with
  |a::l=>isInt a&&(match l with
   |b::l=>isInt b&&(match l with
    |c::l=>isStr c&&l.isEmpty
    |[]=>false)
   |[]=>false)
  |[]=>false
 |_=>false
noncomputable def yJ(w:List Ed×List PV):Bool:=bif w.2.any uj then decide (w.2.length=1)&&(w.2.all IC&&decide ((nv mx w).length=1)) else decide ((nv mx w).length=0)
theorem Vn:∀R:Int->List Row,((EV R).all λw=>w.2.any uj&&yJ w)=true:=by intros;kernel_rfl
theorem Vo:((Ar++rC).all yJ)=true:=by kernel_rfl
noncomputable def QB:Option Bool->Bool
 |some b=>b
 |none=>false
noncomputable def G6(a b:List PV):Bool:=match gu a with
 |some l1=>match gu b with
  |some l2=>QB (hM (eqv 6) l1 l2)
  |none=>false
 |none=>false
noncomputable def Ob(a b:List PV):Prop:=∃l1 l2,gu a=some l1/\gu b=some l2/\hM (eqv 6) l1 l2=some true
theorem Oc{a b:List PV}(h:G6 a b=true):Ob a b:=by
 rw[G6] at h
 rw[Ob]
 cases e1:gu a with
 |none=>rw[e1] at h;cases h
 |some l1=>
  rw[e1] at h
  cases e2:gu b with
  |none=>rw[e2] at h;cases h
  |some l2=>
   rw[e2] at h
   have h:QB (hM (eqv 6) l1 l2)=true:=h
   cases e3:hM (eqv 6) l1 l2 with
   |none=>rw[e3] at h;cases h
   |some b=>rw[e3] at h;exact⟨l1,l2,rfl,rfl,e3.trans (congrArg some h)⟩
theorem Vp:(Av.all λw=>G6 (nv o7 w) w.2&&decide ((nv o7 w).length<=1000))=true:=by kernel_rfl
theorem Kk{x:PV}(h:IC x=true):Ob [x] [x]:=by
 cases x with
 |ah l=>
  cases l with
  |nil=>cases h
  |cons a l=>
   have h:=b_ h
   cases a with
   |int a=>
    cases l with
    |nil=>exact nomatch h.2
    |cons b l=>
     have h:=b_ h.2
     cases b with
     |int b=>
      cases l with
      |nil=>exact nomatch h.2
      |cons c l=>
       have h:=b_ h.2
       cases c with
       |str c=>
        rw[List.isEmpty_iff.mp h.2]
        refine⟨[.ah [.int a,.int b,.str c]],[.ah [.int a,.int b,.str c]],rfl,rfl,?_⟩
        show some ((decide (a=a)&&(decide (b=b)&&(decide (c=c)&&true)))&&true)=some true
        rw[decide_eq_true (rfl:a=a),decide_eq_true (rfl:b=b),decide_eq_true (rfl:c=c)];rfl
       |_=>exact nomatch h.1
     |_=>exact nomatch h.1
   |_=>exact nomatch h.1
 |_=>cases h
section
variable{core:Int}{es:List E}{w:List Ed×List PV}
theorem Kl(hc:core=0\/core=1)(xo:jP core es)(hw:w∈dI (sE core es))(lF:eJ (w.1.foldl eI (sE core es))):early (ik (w.1.foldl eI (sE core es)))=nv mx w:=by
 have g1:=eK (UN core (iU 6 9 es) (fl es) (ml es)) (cV λR=>by kernel_rfl) hw
 have g2:=eK (N5 US xo) (cV λR=>by kernel_rfl) hw
 have g3:=eK (IB UU xo) (cV λR=>by kernel_rfl) hw
 have u4:=dO (get:=(·.ex)) (upd:=NY) (P:=λes=>b5 dI [(jg 2,wt [2]),nt 2] (sE core es)) (λO=>rfl) (UY core) xo.x
 have o4:∀q∈[(jg 2,wt [2]),nt 2],sY q:=λq m=>(List.mem_cons.mp m).elim (λe=>e▸As λR=>by kernel_rfl) λm=>c_ m▸yE 2
 have g4:=eK u4 o4 hw
 have g5:=eK (UO core (iU 6 9 es) (fl es) (ml es)) (cV λR=>by kernel_rfl) hw
 have g6:=eK (dO (get:=λe=>(e.nm,e.sp)) (upd:=nh) (P:=λes=>b5 dI [(fS 2,wt [2])] (sE core es)) (λO=>rfl) (UZ core) xo.n) (cV λR=>by kernel_rfl) hw
 have g7:=eK (R:=sE core es) (AF (P:=λF=>b5 dI [(fS 4,wt [4])] (sX core (iU 6 9 es) F (ml es))) (U1 core _ _) xo) (cV λR=>by kernel_rfl) hw
 have g8:=eK (R:=sE core es) (uc (P:=λM=>b5 dI [(fS 6,wt [6])] (sX core (iU 6 9 es) (fl es) M)) (U3 core _ _) xo) (cV λR=>by kernel_rfl) hw
 have g9:=eK (R:=sE core es) (N6 R5 hc) (cV λR=>by kernel_rfl) hw
 have p1:=eK (UP core (iU 6 9 es) (fl es) (ml es)) pQ hw
 have p2:=eK (N5 UT xo) pQ hw
 have p3:=eK (IB UW xo) pQ hw
 have p4:=eK (R:=sE core es) (Iy (P:=λF=>b5 dI ([11].map nt) (sX core (iU 6 9 es) F (ml es))) (λf0 f1 f2 f3 f4 f5=>UX core f0 f1 f2 f3 f4 f5 _ _) (Vh xo)) pQ hw
 have l0:=eK (dO (get:=(·.f)) (upd:=rA) (P:=λes=>b5 dI ([[2,4,4]].map sV) (sE core es)) (λO=>rfl) (U6 core) xo.f) (sZ rfl) hw
 have l1:=eK (dO (get:=(·.m)) (upd:=rB) (P:=λes=>b5 dI ([[2,5,6]].map sV) (sE core es)) (λO=>rfl) (U7 core) xo.m) (sZ rfl) hw
 have l2:=eK (R:=sE core es) (uc (P:=λM=>b5 dI ([[6,5,8]].map sV) (sX core (iU 6 9 es) (fl es) M)) (U4 core _ _) xo) (sZ rfl) hw
 have l3:=eK (UQ core (iU 6 9 es) (fl es) (ml es)) (sZ rfl) hw
 have h1:AllP (Tl (sE core es) w) (aL.map jg):=⟨g1.at 0 rfl,g1.at 1 rfl,g4.at 0 rfl,g1.at 2 rfl,g1.at 3 rfl,g1.at 4 rfl,g2.at 0 rfl,g1.at 5 rfl,g1.at 6 rfl,g1.at 7 rfl,g1.at 8 rfl,g1.at 9 rfl,g1.at 10 rfl,g1.at 11 rfl,g1.at 12 rfl,g1.at 13 rfl,g1.at 14 rfl,g1.at 15 rfl,g1.at 16 rfl,g1.at 17 rfl,g1.at 18 rfl,g3.at 0 rfl,g2.at 1 rfl,a_⟩
 have h2:AllP (Tl (sE core es) w) (aL.map yC):=⟨p1.at 0 rfl,p1.at 1 rfl,g4.at 1 rfl,p1.at 2 rfl,p1.at 3 rfl,p1.at 4 rfl,p2.at 0 rfl,p3.at 0 rfl,p4.at 0 rfl,p1.at 5 rfl,p2.at 1 rfl,p2.at 2 rfl,p2.at 3 rfl,p1.at 6 rfl,p3.at 1 rfl,p3.at 2 rfl,p1.at 7 rfl,p1.at 8 rfl,p1.at 9 rfl,p2.at 4 rfl,p3.at 3 rfl,p3.at 4 rfl,p2.at 5 rfl,a_⟩
 have h3:AllP (Tl (sE core es) w) (lists.map lp):=⟨l0.at 0 rfl,l1.at 0 rfl,l2.at 0 rfl,l3.at 0 rfl,l3.at 1 rfl,a_⟩
 have h4:AllP (Tl (sE core es) w) (aL.map fS):=⟨g5.at 0 rfl,g5.at 1 rfl,g6.at 0 rfl,g7.at 0 rfl,g8.at 0 rfl,g5.at 2 rfl,g2.at 2 rfl,g5.at 3 rfl,g5.at 4 rfl,g5.at 5 rfl,g5.at 6 rfl,g5.at 7 rfl,g5.at 8 rfl,g5.at 9 rfl,g5.at 10 rfl,g5.at 11 rfl,g5.at 12 rfl,g9.at 0 rfl,g5.at 13 rfl,g5.at 14 rfl,g5.at 15 rfl,g3.at 1 rfl,g2.at 3 rfl,a_⟩
 exact(G5 lF).trans (yI λp hp=>(List.mem_append.mp hp).elim (h1.at p) λhp=>(List.mem_append.mp hp).elim (h2.at p) λhp=>(List.mem_append.mp hp).elim (h3.at p) (h4.at p))
theorem Od(hc:core=0\/core=1)(xo:jP core es)(hw:w∈sS (sE core es))(lF:eJ (w.1.foldl eI (sE core es))):rf (ik (w.1.foldl eI (sE core es)))=nv o7 w:=by
 have hL:w∈wL (sE core es):=S8 hw
 have g1:=eK (UR core (iU 6 9 es) (fl es) (ml es)) (cV λR=>by kernel_rfl) hL
 have g2:=eK (dO (get:=λe=>(e.nm,e.sp)) (upd:=nh) (P:=λes=>b5 wL [(eM (n2 2),wt [2])] (sE core es)) (λO=>rfl) (U0 core) xo.n) (cV λR=>by kernel_rfl) hL
 have g4:=eK (R:=sE core es) (AF (P:=λF=>b5 wL Qx (sX core (iU 6 9 es) F (ml es))) (U2 core _ _) xo) (cV λR=>by kernel_rfl) hL
 have g6:=eK (R:=sE core es) (uc (P:=λM=>b5 wL Qw (sX core (iU 6 9 es) (fl es) M)) (U5 core _ _) xo) (cV λR=>by kernel_rfl) hL
 have g9:=eK (R:=sE core es) (N6 R6 hc) (cV λR=>by kernel_rfl) hL
 have t4:=eK (dO (get:=(·.f)) (upd:=rA) (P:=λes=>b5 wL [E2 2 4 4 1 2] (sE core es)) (λO=>rfl) (U8 core) xo.f) (AD (AA (by decide) (by decide) (by decide))) hL
 have t6:=eK (dO (get:=(·.m)) (upd:=rB) (P:=λes=>b5 wL [E2 2 5 6 3 4] (sE core es)) (λO=>rfl) (U9 core) xo.m) (AD (AA (by decide) (by decide) (by decide))) hL
 have e1:=eK (yH (P:=λes=>b5 wL Qy (sE core es)) (Vb core) xo.l) (cV λR=>by kernel_rfl) hL
 have h:AllP (Tl (sE core es) w) o7:=⟨g1.at 0 rfl,g1.at 1 rfl,g1.at 2 rfl,g1.at 3 rfl,g1.at 4 rfl,g2.at 0 rfl,g4.at 0 rfl,g6.at 0 rfl,g1.at 5 rfl,g1.at 6 rfl,g1.at 7 rfl,g9.at 0 rfl,g1.at 8 rfl,g1.at 9 rfl,Vk hc xo hw,g1.at 10 rfl,t4.at 0 rfl,t6.at 0 rfl,g1.at 11 rfl,g1.at 12 rfl,e1.at 1 rfl,Vm hc xo hw,g6.at 1 rfl,g6.at 2 rfl,g4.at 1 rfl,g6.at 3 rfl,g1.at 13 rfl,use xo hL,e1.at 0 rfl,g1.at 14 rfl,a_⟩
 rw[ik,kM lF]
 exact(Ki _).trans (yI h.at)
theorem Pa(xo:jP core es)(hw:w∈dI (sE core es)):jU (sE core es) w.1=true/\w.1.length<=100:=by
 have h4:=List.all_eq_true.mp (dO (get:=(·.f)) (upd:=rA) (P:=λes=>(dI (sE core es)).all λw=>lE N7 (sE core es) w.1) (λO=>rfl) (R9 core) xo.f) w hw
 have h6:=List.all_eq_true.mp (dO (get:=(·.m)) (upd:=rB) (P:=λes=>(dI (sE core es)).all λw=>lE N8 (sE core es) w.1) (λO=>rfl) (Sf core) xo.m) w hw
 have ho:=b_ (List.all_eq_true.mp (yH (P:=λes=>(dI (sE core es)).all λw=>lE N9 (sE core es) w.1&&decide (w.1.length<=100)) (Sg core) xo.l) w hw)
 exact⟨AG h4 h6 ho.1,bV ho.2⟩
theorem kind(hw:w∈EV (sE core es)++Io (sE core es)):w∈dI (sE core es)/\(w.2.any uj=false->w∈sS (sE core es))/\yJ w=true:=by
 have hO:∀v∈Ar++rC,yJ v=true:=List.all_eq_true.mp Vo
 rcases List.mem_append.mp hw with h | h
 ·have q:=b_ (List.all_eq_true.mp (Vn _) w h)
  exact⟨List.mem_append_left _ h,λe=>Bool.noConfusion (q.1.symm.trans e),q.2⟩
 ·have a:w∈Ar++rC:=by
   rcases List.mem_append.mp h with h | h
   ·exact List.mem_append_left _ h
   ·exact(List.mem_append.mp (S8 (w:=w) (List.mem_append_right _ h))).elim (λh=>List.mem_append_left _ (List.mem_filter.mp h).1) (List.mem_append_right _)
  refine⟨List.mem_append_right _ a,λe=> ?_,hO w a⟩
  rcases List.mem_append.mp h with h | h
  ·exact List.mem_append_left _ (List.mem_filter.mpr ⟨h,by rw[e];rfl⟩)
  ·exact List.mem_append_right _ h
theorem Of(hc:core=0\/core=1)(xo:jP core es)(Pb:eJ (sE core es))(hw:w∈EV (sE core es)++Io (sE core es)):jU (sE core es) w.1=true/\w.1.length<=100/\Good (w.1.foldl eI (sE core es)) w.2:=by
 obtain ⟨hA,hB,yK⟩:=kind hw
 obtain ⟨he,hl⟩:=Pa xo hA
 have lF:=t8 he Pb
 have hE:=Kl hc xo hA lF
 have hL:=λh=>Od hc xo (hB h) lF
 have hS:=λh=>S8 (hB h)
 clear hA hB xo hc hw lF
 refine⟨he,hl,?_⟩
 generalize w.1.foldl eI (sE core es)=R at hE hL
 rw[yJ] at yK
 cases yL:w.2.any uj with
 |true=>
  rw[yL] at yK
  have h1:=b_ yK
  have h2:=b_ h1.2
  obtain ⟨m,hm⟩:=List.length_eq_one_iff.mp (bV h1.1)
  obtain ⟨m',uy⟩:=List.length_eq_one_iff.mp (bV h2.2)
  have iL:m'∈w.2:=Kj (ps:=mx) (uy.symm▸cR)
  have hq:=List.all_eq_true.mp h2.1 m' iL
  rw[hm] at iL
  rw[c_ iL] at uy hq
  rw[uy] at hE
  have dC:early (ik R)≠[]:=by rw[hE];exact List.cons_ne_nil _ _
  refine⟨by rw[hE];exact Nat.le_of_ble_eq_true rfl,λh=>absurd h dC,?_⟩
  rw[aA,if_neg dC,hE,hm]
  exact Kk hq
 |false=>
  rw[yL] at yK
  have h0:early (ik R)=[]:=hE.trans (List.eq_nil_of_length_eq_zero (bV yK))
  have hf:=b_ (List.all_eq_true.mp Vp w (hS yL))
  refine⟨by rw[h0];exact Nat.zero_le _,λO=>by rw[hL yL];exact bV hf.2,?_⟩
  rw[aA,if_pos h0,hL yL]
  exact Oc hf.1
end
theorem E6:yl:=λns yk=>by
 have hx:(eH ns).length<=3:=by rw[eH,List.length_drop];exact Nat.sub_le_sub_right (oY ns) 3
 have lF:=ll ((hh ns 0).fmod 2) (eH ns)
 rw[G2] at lF⊢
 refine Of (vL _) (O9 ((hh ns 0).fmod 2) (vL _) (eH ns) hx) lF ?_
 rw[brk]
 by_cases h:(hh ns 1).fmod 8>0
 ·rw[if_pos h];exact O8 _ _ _ _
 ·rw[if_neg h];exact List.mem_append_right _ (List.mem_append_left _ (List.mem_append_right _ cR))
theorem G7(ns:List Int)(yk:ns.length<=63):∃ag,ax aj ae 12 41 [.dh (ns.map .int)] []=some (.ok (.bool true),ag):=NS E6 ns yk
end FR.Q
end
theorem PySem.Challenge.cw_sa0237_01_holds : PySem.Challenge.rw_sa0237_01.Holds := by
 exact FR.holds_of FR.Q.G7
