import PyProof.Rows.All
import Wide.All
import OpenK.AllK
import Wide.FinOn
import Lean
import PySem.Challenge.RW_nn0236_01
set_option Elab.async false
set_option linter.all false
set_option tactic.hygienic false
set_option maxRecDepth 100000
set_option maxHeartbeats 0
set_option genInjectivity false
namespace Mine
section
set_option tactic.hygienic true
set_option genSizeOf false
inductive V where
 |none
 |bool(b:Bool)
 |int(i:Int)
 |str(l:List Nat)
 |bytes(l:List Nat)
 |tup(l:List V)
 |lst(l:List V)
 |dct(ks vs:List V)
 |ob(c:Nat)(ns:List Nat)(vs:List V)
 |loc(n:Nat)
 deriving Inhabited
inductive O where
 |lst(l:List V)
 |dct(ks vs:List V)
 |ins(c:Nat)(ns:List Nat)(vs:List V)
 |frz(v:V)
inductive BOp where
 |add|sub|mul|fdiv|mod
inductive COp where
 |eq|ne|lt|le|gt|ge|isn|notIsn|inn|notIn
inductive Kd where
 |bool|int|list|dict|cls(c:Nat)
inductive BF where
 |len|int|sum|sorted|tuple|list|dict|str|chr|min|bytes
inductive BM where
 |append|pop0|strJoin|bytesJoin|encode|get1|get2|pop1
set_option genCtorIdx false
inductive Tg where
 |one(x:Nat)
 |tup(xs:List Nat)
mutual
inductive ME where
 |lit(v:V)
 |var(x:Nat)
 |gv(g:Nat)
 |bin(op:BOp)(a b:ME)
 |cmp(op:COp)(a b:ME)
 |chain(oA oB:COp)(a b c:ME)
 |andE(l:List ME)
 |orE(l:List ME)
 |notE(a:ME)
 |ite(c a b:ME)
 |tupE(l:List ME)
 |lstE(l:List ME)
 |dctE(ks:List (List Nat))(vs:List ME)
 |attr(e:ME)(x:Nat)
 |sub(e i:ME)
 |slc(e:ME)(lo hi:ME)
 |callF(f:Nat)(args:List ME)
 |callC(c:Nat)(args:List ME)
 |callM(e:ME)(x:Nat)(args:List ME)
 |callB(b:BF)(args:List ME)
 |callBM(e:ME)(b:BM)(args:List ME)
 |isi(e:ME)(k:Kd)
 |lcomp(vars:List Nat)(elt:ME)(gs:List Gn)
 |dcomp(vars:List Nat)(k v:ME)(g:Gn)
inductive Gn where
 |mk(tgt:Tg)(it:It)(ifs:List ME)
inductive It where
 |ex(e:ME)
 |range(args:List ME)
 |enum(e:ME)
 |rev(e:ME)
end
noncomputable def Gn.tg:Gn->Tg| .mk t _ _=>t
noncomputable def Gn.ifs:Gn->List ME| .mk _ _ l=>l
inductive MS where
 |ex(e:ME)
 |asg(x:Nat)(e:ME)
 |asgA(o:ME)(x:Nat)(e:ME)
 |asgS(o i:ME)(e:ME)
 |asgT(xs:List Nat)(e:ME)
 |asgP(xs:List Nat)(es:List ME)
 |ite(c:ME)(a b:List MS)
 |whl(c:ME)(b:List MS)
 |fr(t:Tg)(it:It)(b:List MS)
 |ret(e:ME)
 |cont
 |pass
 |tr(b:List MS)
 |dead
structure St where
 h:Nat->Option O
 n:Nat
noncomputable abbrev Lo:=Nat->Option V
noncomputable def St.upd(S:St)(k:Nat)(o:O):St:=⟨λj=>if j=k then some o else S.h j,S.n⟩
noncomputable def St.new(S:St)(o:O):St:=⟨λj=>if j=S.n then some o else S.h j,S.n+1⟩
noncomputable def Lo.set(m:Lo)(x:Nat)(v:V):Lo:=λy=>if y=x then some v else m y
noncomputable def Lo.del(m:Lo)(l:List Nat):Lo:=λy=>if l.contains y then none else m y
noncomputable def Lo.sets(m:Lo):List Nat->List V->Lo
 |x::xs,v::vs=>Lo.sets (m.set x v) xs vs
 |_,_=>m
noncomputable def norm(S:St)(v:V):V:=match v with
 | .loc k=>(match S.h k with
  |some (.frz v)=>v
  |_=> .loc k)
 |v=>v
noncomputable def hQ8(c:Nat):Bool:=c==0||c==1||c==2||c==3
noncomputable def iOf:V->Option Int| .int i=>some i|_=>none
noncomputable def sOf:V->Option (List Nat)| .str l=>some l|_=>none
noncomputable def yOf:V->Option (List Nat)| .bytes l=>some l|_=>none
noncomputable def tOf:V->Option (List V)| .tup l=>some l|_=>none
noncomputable def bOf:V->Option Bool| .bool b=>some b|_=>none
noncomputable def kOf:V->Option Nat| .loc k=>some k|_=>none
noncomputable def a1:List V->Option V| []=>none|v::r=>if r.isEmpty then some v else none
noncomputable def iW7:O->Option (List V)| .lst l=>some l|_=>none
noncomputable def lB2:O->Option (List V×List V)| .dct ks vs=>some (ks,vs)|_=>none
noncomputable def lH1:O->Option (Nat×List Nat×List V)| .ins c ns vs=>some (c,ns,vs)|_=>none
noncomputable def gV3(S:St)(k:Nat):Option (List V):=(S.h k).bind iW7
noncomputable def iC9(S:St)(k:Nat):Option (List V×List V):=(S.h k).bind lB2
noncomputable def gV4(S:St)(k:Nat):Option (Nat×List Nat×List V):=(S.h k).bind lH1
noncomputable def iI5(S:St)(q:Nat×List Nat×List V):V:= .ob q.1 q.2.1 (q.2.2.map (norm S))
mutual
noncomputable def frz:Nat->V->St->Option (V×St)
 |0,_,_=>none
 |f+1,v,S=>match kOf v with
  |none=>some (v,S)
  |some k=>(S.h k).bind λo=>(match o with
   | .lst l=>some (.lst l,S.upd k (.frz (.lst l)))
   | .dct ks vs=>some (.dct ks vs,S.upd k (.frz (.dct ks vs)))
   | .ins c ns vs=>(match hQ8 c with
    |true=>(gV6 f vs S).bind λr=>(gV4 r.2 k).bind λq=>some (iI5 r.2 q,r.2.upd k (.frz (iI5 r.2 q)))
    |false=>some (.loc k,S))
   | .frz v=>some (v,S))
noncomputable def gV6:Nat->List V->St->Option (List V×St)
 |0,_,_=>none
 |f+1,l,S=>match l with
  | []=>some ([],S)
  |v::r=>(frz f v S).bind λp=>(gV6 f r p.2).bind λq=>some (p.1::q.1,q.2)
end
noncomputable def gD4(S:St):V->Option (List V)
 | .lst l=>some l
 | .loc k=>gV3 S k
 |_=>none
noncomputable def getD(S:St):V->Option (List V×List V)
 | .dct ks vs=>some (ks,vs)
 | .loc k=>iC9 S k
 |_=>none
noncomputable def hM2(S:St):V->Option (Nat×List Nat×List V)
 | .ob c ns vs=>some (c,ns,vs)
 | .loc k=>gV4 S k
 |_=>none
noncomputable def gB1(a b:V):Bool:=match a with
 | .int x=>iOf b==some x
 | .str x=>sOf b==some x
 |_=>false
noncomputable def gC5:V->Bool| .int _=>true|_=>false
noncomputable def gB4:V->Bool| .str _=>true|_=>false
noncomputable def gD0:V->Bool| .none=>true|_=>false
noncomputable def gA8(k:V)(ks:List V):Bool:=match k with
 | .int _=>ks.all gC5
 | .str _=>ks.all gB4
 |_=>false
noncomputable def gK2(k:V):List V->List V->Option V
 | [],_=>none
 |x::xs,l=>(match l with
  | []=>none
  |v::vs=>if gB1 k x then some v else gK2 k xs vs)
noncomputable def gJ5(k v:V):List V->List V->List V×List V
 | [],_=>([k],[v])
 |x::xs,l=>(match l with
  | []=>([k],[v])
  |u::us=>if gB1 k x then(x::xs,v::us)else(x::(gJ5 k v xs us).1,u::(gJ5 k v xs us).2))
noncomputable def hO8(k:V):List V->List V->List V×List V
 | [],l=>([],l)
 |x::xs,l=>(match l with
  | []=>(x::xs,[])
  |u::us=>if gB1 k x then(xs,us)else(x::(hO8 k xs us).1,u::(hO8 k xs us).2))
noncomputable def iC7(x:Nat):List Nat->List V->Option V
 | [],_=>none
 |y::ys,l=>(match l with
  | []=>none
  |v::vs=>if x=y then some v else iC7 x ys vs)
noncomputable def hO7(x:Nat)(v:V):List Nat->List V->List Nat×List V
 | [],_=>([x],[v])
 |y::ys,l=>(match l with
  | []=>([x],[v])
  |u::us=>if x=y then(y::ys,v::us)else(y::(hO7 x v ys us).1,u::(hO7 x v ys us).2))
noncomputable def small(n:Nat):Bool:=decide (n<1000000)
noncomputable def ii{α:Type}(a b:V)(f:Int->Int->Option α):Option α:=(iOf a).bind λx=>(iOf b).bind λy=>f x y
noncomputable def lI2(a b:V):Option V:=match a with
 | .int x=>(iOf b).bind λy=>some (.int (x+y))
 | .bytes x=>(yOf b).bind λy=>if small (x.length+y.length)then some (.bytes (x++y))else none
 | .tup x=>(tOf b).bind λy=>if x.length+y.length<=16384 then some (.tup (x++y))else none
 |_=>none
noncomputable def hI0(op:BOp)(a b:V):Option V:=match op with
 | .add=>lI2 a b
 | .sub=>ii a b λx y=>some (.int (x-y))
 | .mul=>ii a b λx y=>if x.natAbs<1000000000000000000/\y.natAbs<1000000000000000000 then some (.int (x*y))else none
 | .fdiv=>ii a b λx y=>if y≠0/\y.natAbs<1000000000 then some (.int (x.fdiv y))else none
 | .mod=>ii a b λx y=>if y≠0 then some (.int (x.fmod y))else none
mutual
noncomputable def same:Nat->V->V->Bool
 |0,_,_=>false
 |f+1,x,y=>match x with
  | .none=>gD0 y
  | .int a=>iOf y==some a
  | .str a=>sOf y==some a
  | .bytes a=>yOf y==some a
  | .tup a=>(match tOf y with|some b=>gF4 f a b|none=>false)
  |_=>false
noncomputable def gF4:Nat->List V->List V->Bool
 |0,_,_=>false
 |f+1,x,y=>match x with
  | []=>y.isEmpty
  |a::r=>(match y with| []=>false|b::q=>same f a b&&gF4 f r q)
end
noncomputable def eqD(S:St)(a b:V):Option Bool:=(getD S a).bind λp=>(getD S b).bind λq=>if q.1.isEmpty then some p.1.isEmpty else none
noncomputable def eqL(x y:List V):Option Bool:=if x.length !=y.length then some false else if gF4 200 x y then some true else none
noncomputable def eqC(S:St)(a b:V):Option Bool:=match gD4 S a with
 |some x=>(gD4 S b).bind λy=>eqL x y
 |none=>eqD S a b
noncomputable def eqV(S:St)(a b:V):Option Bool:=match a with
 | .int x=>(iOf b).bind λy=>some (x==y)
 | .str x=>(sOf b).bind λy=>some (x==y)
 | .bytes x=>(yOf b).bind λy=>some (x==y)
 | .tup x=>(tOf b).bind λy=>if gF4 200 x y then some true else none
 |a=>eqC S a b
noncomputable def isI(x:Int)(v:V):Bool:=iOf v==some x
noncomputable def isS(x:List Nat)(v:V):Bool:=sOf v==some x
noncomputable def isY(x:List Nat)(v:V):Bool:=yOf v==some x
noncomputable def iL5(v:V):Bool:=(yOf v).isSome
noncomputable def gR4(a:V)(l:List V):Option Bool:=match a with
 | .int x=>if l.all gC5 then some (l.any (isI x))else none
 | .str x=>if l.all gB4 then some (l.any (isS x))else none
 | .bytes x=>if l.all iL5 then some (l.any (isY x))else none
 |_=>none
noncomputable def inV(S:St)(a b:V):Option Bool:=match tOf b with
 |some l=>gR4 a l
 |none=>(match getD S b with
  |some p=>if gA8 a p.1 then some (p.1.any (gB1 a))else none
  |none=>(gD4 S b).bind λl=>gR4 a l)
noncomputable def gK3(S:St)(op:COp)(a b:V):Option Bool:=match op with
 | .eq=>eqV S a b
 | .ne=>(eqV S a b).bind λr=>some (!r)
 | .lt=>ii a b λx y=>some (decide (x<y))
 | .le=>ii a b λx y=>some (decide (x<=y))
 | .gt=>ii a b λx y=>some (decide (y<x))
 | .ge=>ii a b λx y=>some (decide (y<=x))
 | .isn=>if gD0 b then some (gD0 a)else none
 | .notIsn=>if gD0 b then some (!gD0 a)else none
 | .inn=>inV S a b
 | .notIn=>(inV S a b).bind λr=>some (!r)
noncomputable def kB4(S:St)(o i:V):Option V:=(getD S o).bind λp=>if gA8 i p.1 then gK2 i p.1 p.2 else none
noncomputable def jK0(l:List V)(k:Int):Option V:=if 0<=k then l[k.toNat]? else if k= -1 then l.getLast? else none
noncomputable def hB1(S:St)(o i:V):Option V:=match iOf i with
 |some k=>(match tOf o with
  |some l=>if 0<=k then l[k.toNat]? else none
  |none=>(match yOf o with
   |some l=>if 0<=k then(l[k.toNat]?).bind λc=>some (.int (Int.ofNat c))else none
   |none=>(match gD4 S o with
    |some l=>jK0 l k
    |none=>kB4 S o i)))
 |none=>kB4 S o i
noncomputable def kR7(d:Nat):V->Option Nat
 | .none=>some d
 | .int a=>if 0<=a then some a.toNat else none
 |_=>none
noncomputable def hN2(n:Nat)(a b:V):Option (Nat×Nat):=(kR7 0 a).bind λi=>(kR7 n b).bind λj=>some (i,j)
noncomputable def jK2(S:St)(o a b:V):Option (V×St):=match yOf o with
 |some l=>(hN2 l.length a b).bind λp=>some (.bytes ((l.take p.2).drop p.1),S)
 |none=>(gD4 S o).bind λl=>(hN2 l.length a b).bind λp=>some (.loc S.n,S.new (.lst ((l.take p.2).drop p.1)))
set_option genCtorIdx true
inductive KT where
 |none|bool|int|str|tup|lst|dct|cls(c:Nat)
noncomputable def jP0:O->Option KT
 | .lst _=>some .lst
 | .dct _ _=>some .dct
 | .ins c _ _=>some (.cls c)
 | .frz _=>none
noncomputable def iX2(S:St):V->Option KT
 | .none=>some .none
 | .bool _=>some .bool
 | .int _=>some .int
 | .str _=>some .str
 | .bytes _=>none
 | .tup _=>some .tup
 | .lst _=>some .lst
 | .dct _ _=>some .dct
 | .ob c _ _=>some (.cls c)
 | .loc k=>(S.h k).bind jP0
noncomputable def gL4(t:KT)(k:Kd):Bool:=match k with
 | .bool=>(match t with| .bool=>true|_=>false)
 | .int=>(match t with| .bool=>true| .int=>true|_=>false)
 | .list=>(match t with| .lst=>true|_=>false)
 | .dict=>(match t with| .dct=>true|_=>false)
 | .cls d=>(match t with| .cls c=>c==d|_=>false)
noncomputable def hA9(S:St)(v:V)(k:Kd):Option Bool:=(iX2 S v).bind λt=>some (gL4 t k)
noncomputable def gZ4(x:Int):List Int->List Int
 | []=> [x]
 |y::r=>if x<=y then x::y::r else y::gZ4 x r
theorem jF2(x:Int):gZ4 x []=[x]:=rfl
theorem hM0(x y:Int)(r:List Int):gZ4 x (y::r)=if x<=y then x::y::r else y::gZ4 x r:=rfl
noncomputable def gA5:List Int->List Int
 | []=> []
 |x::r=>gZ4 x (gA5 r)
noncomputable def leL:List Nat->List Nat->Bool
 | [],_=>true
 |_::_,[]=>false
 |a::r,b::q=>if a<b then true else if b<a then false else leL r q
theorem kX9(b:List Nat):leL [] b=true:=rfl
theorem kY0(a:Nat)(r:List Nat):leL (a::r) []=false:=rfl
theorem kY1(a b:Nat)(r q:List Nat):leL (a::r) (b::q)=if a<b then true else if b<a then false else leL r q:=rfl
noncomputable def jF1(x:List Nat):List (List Nat)->List (List Nat)
 | []=> [x]
 |y::r=>if leL x y then x::y::r else y::jF1 x r
theorem jF0(x:List Nat):jF1 x []=[x]:=rfl
theorem iL7(x y:List Nat)(r:List (List Nat)):jF1 x (y::r)=if leL x y then x::y::r else y::jF1 x r:=rfl
noncomputable def hP7:List (List Nat)->List (List Nat)
 | []=> []
 |x::r=>jF1 x (hP7 r)
noncomputable def hO3{α:Type}(f:V->Option α):List V->Option (List α)
 | []=>some []
 |v::r=>(f v).bind λi=>(hO3 f r).bind λl=>some (i::l)
noncomputable def gQ3:List V->Option (List Int):=hO3 iOf
noncomputable def gX2:List V->Option (List (List Nat)):=hO3 sOf
noncomputable def gL8:List V->Option (List (List Nat)):=hO3 yOf
noncomputable def gE7(sep:List Nat):List (List Nat)->List Nat
 | []=> []
 | [x]=>x
 |x::r=>x++sep++gE7 sep r
theorem gZ1(s:List Nat):gE7 s []=[]:=rfl
theorem hG2(s x:List Nat):gE7 s [x]=x:=rfl
theorem gZ2(s x y:List Nat)(r:List (List Nat)):gE7 s (x::y::r)=x++s++gE7 s (y::r):=rfl
noncomputable def encL:List (List Nat):=["0","1","2","3","4","5","6","7","8","9","Type","K","Length","W","Root","Prev","Info","Size","Catalog","XRef","ObjStm","X"].map λs=>s.toList.map Char.toNat
noncomputable def jM6:List V->Option (V×V)
 | []=>none
 |k::r=>(a1 r).bind λv=>some (k,v)
noncomputable def gF7:List V->Option (List V×List V)
 | []=>some ([],[])
 |x::r=>(tOf x).bind λt=>(jM6 t).bind λq=>(gF7 r).bind λp=>some (q.1::p.1,q.2::p.2)
noncomputable def gF2:List V->List V->List V×List V->List V×List V
 |k::ks,v::vs,d=>gF2 ks vs (gJ5 k v d.1 d.2)
 |_,_,d=>d
noncomputable def iS8(S:St)(l:List V):V×St:=(.loc S.n,S.new (.lst l))
noncomputable def jE0(S:St)(v:V):Option Nat:=match tOf v with
 |some l=>some l.length
 |none=>(match yOf v with
  |some l=>some l.length
  |none=>(gD4 S v).bind λl=>some l.length)
noncomputable def lH0:V->Option V
 | .int i=>some (.int i)
 | .bool b=>some (.int (if b then 1 else 0))
 |_=>none
noncomputable def kB0(l:List V):Option V:=(gQ3 l).bind λl=>if small l.length&&l.all (λi=>decide (i.natAbs<1000000000))then some (.int l.sum)else none
noncomputable def gK5(l:List V):Option (List V):=(gQ3 l).bind λl=>if l.length<64 then some ((gA5 l).map .int)else none
noncomputable def gU2(l:List V):Option (List V):=(gX2 l).bind λl=>if l.length<64 then some ((hP7 l).map .str)else none
noncomputable def gO4(S:St)(v:V):Option (List V):=match gD4 S v with
 |some l=>gK5 l
 |none=>(getD S v).bind λp=>if p.1.all gC5 then gK5 p.1 else gU2 p.1
noncomputable def kL0(S:St)(v:V):Option (V×St):=(frz 9 v S).bind λp=>match p.1 with
 | .lst l=>(gF7 l).bind λq=>if q.1.all gC5 then some (.loc p.2.n,p.2.new (.dct (gF2 q.1 q.2 ([],[])).1 (gF2 q.1 q.2 ([],[])).2))else none
 |_=>none
noncomputable def hN7(S:St)(v:V):Option V:=match v with
 | .bytes l=>some (.bytes l)
 |v=>(gD4 S v).bind λl=>(a1 l).bind λu=>(iOf u).bind λi=>if 0<=i/\i<256 then some (.bytes [i.toNat])else none
noncomputable def kX4:List V->Option V
 | []=>none
 |a::r=>(a1 r).bind λb=>ii a b λx y=>some (.int (if y<x then y else x))
noncomputable def callB(S:St)(b:BF)(l:List V):Option (V×St):=match b with
 | .len=>(a1 l).bind λv=>(jE0 S v).bind λn=>some (.int n,S)
 | .int=>(a1 l).bind λv=>(lH0 v).bind λu=>some (u,S)
 | .sum=>(a1 l).bind λv=>(gD4 S v).bind λl=>(kB0 l).bind λu=>some (u,S)
 | .sorted=>(a1 l).bind λv=>(gO4 S v).bind λl=>some (iS8 S l)
 | .tuple=>(a1 l).bind λv=>(gD4 S v).bind λl=>some (.tup l,S)
 | .list=>(a1 l).bind λv=>(gD4 S v).bind λl=>some (iS8 S l)
 | .dict=>(a1 l).bind λv=>kL0 S v
 | .str=>(a1 l).bind λv=>(iOf v).bind λi=>if 0<=i/\i<10 then some (.str [48+i.toNat],S)else none
 | .chr=>(a1 l).bind λv=>(iOf v).bind λi=>if 0<=i/\i<128 then some (.str [i.toNat],S)else none
 | .min=>(kX4 l).bind λu=>some (u,S)
 | .bytes=>(a1 l).bind λv=>(hN7 S v).bind λu=>some (u,S)
noncomputable def gO7(S:St)(k:Nat)(j v:V):Option St:=(S.h k).bind λo=>match o with
 | .dct ks vs=>if gA8 j ks&&small ks.length then some (S.upd k (.dct (gJ5 j v ks vs).1 (gJ5 j v ks vs).2))else none
 | .lst l=>(iOf j).bind λi=>if 0<=i/\i<l.length then some (S.upd k (.lst (l.set i.toNat v)))else none
 |_=>none
noncomputable def hM1(S:St)(o k d:V):Option V:=(getD S o).bind λp=>if gA8 k p.1 then some ((gK2 k p.1 p.2).getD d)else none
noncomputable def callBM(S:St)(b:BM)(o:V)(l:List V):Option (V×St):=match b with
 | .append=>(kOf o).bind λk=>(a1 l).bind λv=>(frz 9 v S).bind λp=>(gV3 p.2 k).bind λl=>if small l.length then some (.none,p.2.upd k (.lst (l++ [p.1])))else none
 | .pop0=>(kOf o).bind λk=>(gV3 S k).bind λq=>if l.isEmpty then(q.getLast?).bind λv=>some (v,S.upd k (.lst q.dropLast))else none
 | .strJoin=>(sOf o).bind λs=>if s.isEmpty then(a1 l).bind λv=>(gD4 S v).bind λl=>(gX2 l).bind λl=>if small (gE7 [] l).length then some (.str (gE7 [] l),S)else none else none
 | .bytesJoin=>(yOf o).bind λsep=>(a1 l).bind λv=>(gD4 S v).bind λl=>(gL8 l).bind λl=>if small (gE7 sep l).length then some (.bytes (gE7 sep l),S)else none
 | .encode=>(sOf o).bind λs=>(a1 l).bind λv=>(sOf v).bind λe=>if encL.contains s&&e==[97,115,99,105,105]then some (.bytes s,S)else none
 | .get1=>(a1 l).bind λk=>(hM1 S o k .none).bind λu=>some (u,S)
 | .get2=>(match l with| []=>none|k::r=>(a1 r).bind λd=>(hM1 S o k d).bind λu=>some (u,S))
 | .pop1=>(kOf o).bind λm=>(a1 l).bind λk=>(iC9 S m).bind λp=>if gA8 k p.1 then(gK2 k p.1 p.2).bind λv=>some (v,S.upd m (.dct (hO8 k p.1 p.2).1 (hO8 k p.1 p.2).2))else none
inductive Fl where
 |nx
 |rt(v:V)
 |ct
noncomputable def Fl.out:Fl->Option V
 | .rt v=>some v
 | .nx=>some .none
 | .ct=>none
structure Fn where
 pars:List Nat
 dfl:List V
 body:List MS
structure Pr where
 lit:V->Bool
 bin:BOp->V->V->Option V
 cmp:St->COp->V->V->Option Bool
 sub:St->V->V->Option V
 slc:St->V->V->V->Option (V×St)
 bf:St->BF->List V->Option (V×St)
 bm:St->BM->V->List V->Option (V×St)
 itm:St->V->Option (List V×St)
 rng:List V->Option (List V)
 enm:Bool
 key:V->Bool
 orc:Nat->Nat->List V->St->Option (V×St)
structure Txt where
 p:Pr
 fns:List Fn
 cls:List (List (Nat×Nat))
 gvs:List V
 init:Nat
 atts:List (List Nat)
noncomputable def gL9(fn:Fn)(args:List V):Option (List V):=if args.length<=fn.pars.length/\fn.pars.length<=args.length+fn.dfl.length then some (args++fn.dfl.drop (args.length+fn.dfl.length-fn.pars.length))else none
noncomputable def gY2:Nat->Int->Int->Int->List V
 |0,_,_,_=> []
 |f+1,a,b,c=>if a<b then .int a::gY2 f (a+c) b c else []
theorem iV4(f:Nat)(a b c:Int):gY2 (f+1) a b c=if a<b then .int a::gY2 f (a+c) b c else []:=rfl
noncomputable def iT0(S:St)(b:BM)(o:V):Bool:=match b with
 | .append=>(gD4 S o).isSome
 | .pop0=>(gD4 S o).isSome
 | .get1=>(getD S o).isSome
 | .get2=>(getD S o).isSome
 | .pop1=>(getD S o).isSome
 | .strJoin=>(sOf o).isSome
 | .encode=>(sOf o).isSome
 | .bytesJoin=>(yOf o).isSome
noncomputable def rOk(a b c:Int):Bool:=a.natAbs<=1000000&&b.natAbs<=1000000&&decide (0<c)&&decide (c<=1000000)
noncomputable def kQ1(a b c:Int):Option (List V):=if rOk a b c then some (gY2 (b-a).toNat a b c)else none
noncomputable def hC7(l:List V):Option (List V):=(gQ3 l).bind λl=>match l with
 | []=>none
 |a::r=>(match r with
  | []=>kQ1 0 a 1
  |b::q=>(match q with
   | []=>kQ1 a b 1
   |c::z=>if z.isEmpty then kQ1 a b c else none))
noncomputable def hB6:Nat->List V->List V
 |_,[]=> []
 |i,v::r=> .tup [.int i,v]::hB6 (i+1) r
noncomputable def iK5:V->Option (List V)
 | .lst l=>some l
 | .dct ks _=>some ks
 |_=>none
noncomputable def gG2(S:St)(v:V):Option (List V×St):=match tOf v with
 |some l=>some (l,S)
 |none=>(match yOf v with
  |some l=>some (l.map λ(c:Nat)=>V.int c,S)
  |none=>(frz 9 v S).bind λp=>(iK5 p.1).bind λl=>some (l,p.2))
noncomputable def kG0:V->Option (List V)
 | .lst l=>some l
 |_=>none
noncomputable def Tg.put(t:Tg)(v:V)(m:Lo):Option Lo:=match t with
 | .one x=>some (m.set x v)
 | .tup xs=>(tOf v).bind λl=>if l.length=xs.length then some (m.sets xs l)else none
noncomputable def gZ8(x:Nat):List (Nat×Nat)->Option Nat
 | []=>none
 |(y,g)::r=>if x=y then some g else gZ8 x r
noncomputable def lK2:Pr:=⟨λ_=>true,hI0,gK3,hB1,jK2,callB,callBM,gG2,hC7,true,λ_=>true,λ_ _ _ _=>none⟩
section
variable(T:Txt)
mutual
noncomputable def evE:Nat->ME->Lo->St->Option (V×St)
 |0,_,_,_=>none
 |f+1,e,m,S=>match e with
  | .lit v=>if T.p.lit v then some (v,S)else none
  | .var x=>(m x).bind λv=>some (norm S v,S)
  | .gv g=>(T.gvs[g]?).bind λv=>some (v,S)
  | .bin op a b=>(evE f a m S).bind λx=>(evE f b m x.2).bind λy=>(T.p.bin op x.1 y.1).bind λv=>some (v,y.2)
  | .cmp op a b=>(evE f a m S).bind λx=>(evE f b m x.2).bind λy=>(T.p.cmp y.2 op x.1 y.1).bind λv=>some (.bool v,y.2)
  | .chain oA oB a b c=>(evE f a m S).bind λx=>(evE f b m x.2).bind λy=>(T.p.cmp y.2 oA x.1 y.1).bind λu=>(match u with
   |true=>(evE f c m y.2).bind λz=>(T.p.cmp z.2 oB y.1 z.1).bind λv=>some (.bool v,z.2)
   |false=>some (.bool false,y.2))
  | .andE l=>gQ7 f l m S
  | .orE l=>hX6 f l m S
  | .notE a=>(evE f a m S).bind λr=>(bOf r.1).bind λb=>some (.bool (!b),r.2)
  | .ite c a b=>(evE f c m S).bind λr=>(bOf r.1).bind λu=>(match u with
   |true=>evE f a m r.2
   |false=>evE f b m r.2)
  | .tupE l=>(gG4 f l m S).bind λr=>(gV6 30 r.1 r.2).bind λq=>some (.tup q.1,q.2)
  | .lstE l=>(gG4 f l m S).bind λr=>(gV6 30 r.1 r.2).bind λq=>some (iS8 q.2 q.1)
  | .dctE ks vs=>(gG4 f vs m S).bind λr=>(gV6 30 r.1 r.2).bind λq=>if ks.length=q.1.length then some (.loc q.2.n,q.2.new (.dct (ks.map .str) q.1))else none
  | .attr e x=>(evE f e m S).bind λr=>(hM2 r.2 r.1).bind λq=>(iC7 x q.2.1 q.2.2).bind λu=>some (norm r.2 u,r.2)
  | .sub e i=>(evE f e m S).bind λo=>(evE f i m o.2).bind λk=>(T.p.sub k.2 o.1 k.1).bind λu=>some (norm k.2 u,k.2)
  | .slc e lo hi=>(evE f e m S).bind λo=>(evE f lo m o.2).bind λa=>(evE f hi m a.2).bind λb=>T.p.slc b.2 o.1 a.1 b.1
  | .callF g args=>(gG4 f args m S).bind λr=>gA4 f g r.1 r.2
  | .callC c args=>(gG4 f args m S).bind λr=>(gZ8 T.init (T.cls.getD c [])).bind λg=>(gA4 f g (.loc r.2.n::r.1) (r.2.new (.ins c [] []))).bind λq=>if gD0 q.1 then some (.loc r.2.n,q.2)else none
  | .callM e x args=>(evE f e m S).bind λo=>(hM2 o.2 o.1).bind λq=>if¬q.2.1.contains x=true then(gZ8 x (T.cls.getD q.1 [])).bind λg=>(gG4 f args m o.2).bind λr=>gA4 f g (o.1::r.1) r.2 else none
  | .callB b args=>(gG4 f args m S).bind λr=>T.p.bf r.2 b r.1
  | .callBM e b args=>(evE f e m S).bind λo=>if iT0 o.2 b o.1 then(gG4 f args m o.2).bind λr=>T.p.bm r.2 b o.1 r.1 else none
  | .isi e k=>(evE f e m S).bind λr=>(hA9 r.2 r.1 k).bind λb=>some (.bool b,r.2)
  | .lcomp vars elt gs=>(match gs with
   | []=>none
   |g::r=>(itE f g m S).bind λq=>(gD8 f elt g r q.1 (m.del vars) [] q.2).bind λz=>some (iS8 z.2 z.1))
  | .dcomp vars k v g=>(itE f g m S).bind λq=>(gQ9 f k v g q.1 (m.del vars) ([],[]) q.2).bind λz=>some (.loc z.2.n,z.2.new (.dct z.1.1 z.1.2))
noncomputable def gG4:Nat->List ME->Lo->St->Option (List V×St)
 |0,_,_,_=>none
 |f+1,l,m,S=>match l with
  | []=>some ([],S)
  |e::r=>(evE f e m S).bind λx=>(gG4 f r m x.2).bind λy=>some (x.1::y.1,y.2)
noncomputable def gQ7:Nat->List ME->Lo->St->Option (V×St)
 |0,_,_,_=>none
 |f+1,l,m,S=>match l with
  | []=>none
  |e::r=>if r.isEmpty then evE f e m S else(evE f e m S).bind λq=>(bOf q.1).bind λu=>(match u with
   |true=>gQ7 f r m q.2
   |false=>some (.bool false,q.2))
noncomputable def hX6:Nat->List ME->Lo->St->Option (V×St)
 |0,_,_,_=>none
 |f+1,l,m,S=>match l with
  | []=>none
  |e::r=>if r.isEmpty then evE f e m S else(evE f e m S).bind λq=>(bOf q.1).bind λu=>(match u with
   |true=>some (.bool true,q.2)
   |false=>hX6 f r m q.2)
noncomputable def itE:Nat->Gn->Lo->St->Option (List V×St)
 |0,_,_,_=>none
 |f+1,g,m,S=>match g with
  | .mk _ it _=>itI f it m S
noncomputable def itI:Nat->It->Lo->St->Option (List V×St)
 |0,_,_,_=>none
 |f+1,it,m,S=>match it with
  | .ex e=>(evE f e m S).bind λr=>T.p.itm r.2 r.1
  | .range args=>(gG4 f args m S).bind λr=>(T.p.rng r.1).bind λl=>some (l,r.2)
  | .enum e=>(evE f e m S).bind λr=>if T.p.enm=true then(frz 9 r.1 r.2).bind λp=>(kG0 p.1).bind λl=>some (hB6 0 l,p.2)else none
  | .rev e=>(evE f e m S).bind λr=>(frz 9 r.1 r.2).bind λp=>(kG0 p.1).bind λl=>some (l.reverse,p.2)
noncomputable def gC8:Nat->List ME->Lo->St->Option (Bool×St)
 |0,_,_,_=>none
 |f+1,l,m,S=>match l with
  | []=>some (true,S)
  |e::r=>(evE f e m S).bind λq=>(bOf q.1).bind λu=>(match u with
   |true=>gC8 f r m q.2
   |false=>some (false,q.2))
noncomputable def gD8:Nat->ME->Gn->List Gn->List V->Lo->List V->St->Option (List V×St)
 |0,_,_,_,_,_,_,_=>none
 |f+1,elt,g,r,l,m,acc,S=>match l with
  | []=>some (acc,S)
  |v::l'=>(g.tg.put v m).bind λmA=>(gC8 f g.ifs mA S).bind λu=>(match u.1 with
   |false=>gD8 f elt g r l' m acc u.2
   |true=>(match r with
    | []=>(evE f elt mA u.2).bind λx=>(frz 9 x.1 x.2).bind λy=>if small acc.length then gD8 f elt g r l' m (acc++ [y.1]) y.2 else none
    |g'::r'=>(itE f g' mA u.2).bind λq=>(gD8 f elt g' r' q.1 mA acc q.2).bind λz=>gD8 f elt g r l' m z.1 z.2))
noncomputable def gQ9:Nat->ME->ME->Gn->List V->Lo->List V×List V->St->Option ((List V×List V)×St)
 |0,_,_,_,_,_,_,_=>none
 |f+1,ke,ve,g,l,m,d,S=>match l with
  | []=>some (d,S)
  |v::l'=>(g.tg.put v m).bind λmA=>(gC8 f g.ifs mA S).bind λu=>(match u.1 with
   |false=>gQ9 f ke ve g l' m d u.2
   |true=>(evE f ke mA u.2).bind λk=>(evE f ve mA k.2).bind λx=>(frz 9 x.1 x.2).bind λy=>if gB4 k.1&&d.1.all gB4&&small d.1.length then gQ9 f ke ve g l' m (gJ5 k.1 y.1 d.1 d.2) y.2 else none)
noncomputable def gA4:Nat->Nat->List V->St->Option (V×St)
 |0,_,_,_=>none
 |f+1,g,args,S=>match T.p.orc f g args S with
  |some r=>some r
  |none=>(T.fns[g]?).bind λfn=>(gL9 fn args).bind λvs=>(exB f fn.body (Lo.sets (λ_=>none) fn.pars vs) S).bind λr=>(Fl.out r.1).bind λv=>some (v,r.2.2)
noncomputable def exS:Nat->MS->Lo->St->Option (Fl×Lo×St)
 |0,_,_,_=>none
 |f+1,s,m,S=>match s with
  | .ex e=>(evE f e m S).bind λr=>some (.nx,m,r.2)
  | .asg x e=>(evE f e m S).bind λr=>some (.nx,m.set x r.1,r.2)
  | .asgA o x e=>(evE f e m S).bind λr=>(evE f o m r.2).bind λu=>(kOf u.1).bind λk=>(gV4 u.2 k).bind λq=>if(T.atts.getD q.1 []).contains x&&small q.2.1.length then some (.nx,m,u.2.upd k (.ins q.1 (hO7 x r.1 q.2.1 q.2.2).1 (hO7 x r.1 q.2.1 q.2.2).2))else none
  | .asgS o i e=>(evE f e m S).bind λr=>(evE f o m r.2).bind λu=>(kOf u.1).bind λk=>(evE f i m u.2).bind λj=>(frz 9 r.1 j.2).bind λy=>if T.p.key j.1 then(gO7 y.2 k j.1 y.1).bind λS'=>some (.nx,m,S')else none
  | .asgT xs e=>(evE f e m S).bind λr=>(tOf r.1).bind λl=>if l.length=xs.length then some (.nx,m.sets xs l,r.2)else none
  | .asgP xs es=>(gG4 f es m S).bind λr=>if r.1.length=xs.length then some (.nx,m.sets xs r.1,r.2)else none
  | .ite c a b=>(evE f c m S).bind λr=>(bOf r.1).bind λu=>(match u with
   |true=>exB f a m r.2
   |false=>exB f b m r.2)
  | .whl c b=>exW f c b m S
  | .fr t it b=>(itI f it m S).bind λq=>exF f t q.1 b m q.2
  | .ret e=>(evE f e m S).bind λr=>some (.rt r.1,m,r.2)
  | .cont=>some (.ct,m,S)
  | .pass=>some (.nx,m,S)
  | .tr b=>exB f b m S
  | .dead=>none
noncomputable def exB:Nat->List MS->Lo->St->Option (Fl×Lo×St)
 |0,_,_,_=>none
 |f+1,l,m,S=>match l with
  | []=>some (.nx,m,S)
  |s::r=>(exS f s m S).bind λq=>(match q.1 with
   | .nx=>exB f r q.2.1 q.2.2
   | .rt v=>some (.rt v,q.2.1,q.2.2)
   | .ct=>some (.ct,q.2.1,q.2.2))
noncomputable def exW:Nat->ME->List MS->Lo->St->Option (Fl×Lo×St)
 |0,_,_,_,_=>none
 |f+1,c,b,m,S=>(evE f c m S).bind λr=>(bOf r.1).bind λu=>(match u with
  |true=>(exB f b m r.2).bind λq=>(match q.1 with
   | .rt v=>some (.rt v,q.2.1,q.2.2)
   | .nx=>exW f c b q.2.1 q.2.2
   | .ct=>exW f c b q.2.1 q.2.2)
  |false=>some (.nx,m,r.2))
noncomputable def exF:Nat->Tg->List V->List MS->Lo->St->Option (Fl×Lo×St)
 |0,_,_,_,_,_=>none
 |f+1,t,l,b,m,S=>match l with
  | []=>some (.nx,m,S)
  |v::r=>(t.put v m).bind λmA=>(exB f b mA S).bind λq=>(match q.1 with
   | .rt v=>some (.rt v,q.2.1,q.2.2)
   | .nx=>exF f t r b q.2.1 q.2.2
   | .ct=>exF f t r b q.2.1 q.2.2)
end
end
theorem bd{α β:Type}{o:Option α}{f:α->Option β}{b:β}{G:Prop}(h:o.bind f=some b)(k:∀a,o=some a->f a=some b->G):G:=by
 cases o with
 |none=>cases h
 |some a=>exact k a rfl h
theorem ifs{β:Type}{c:Prop}[Decidable c]{o:Option β}{b:β}{G:Prop}(h:(if c then o else none)=some b)(k:c->o=some b->G):G:=by
 by_cases q:c
 ·rw[if_pos q]at h;exact k q h
 ·rw[if_neg q]at h;cases h
theorem e02{P0 P1:Prop}{G:Prop}(h:P0/\P1)(k:P0->P1->G):G:=by obtain⟨p0,p1⟩:=h;exact k p0 p1
theorem e03{P0 P1 P2:Prop}{G:Prop}(h:P0/\P1/\P2)(k:P0->P1->P2->G):G:=by obtain⟨p0,p1,p2⟩:=h;exact k p0 p1 p2
theorem e04{P0 P1 P2 P3:Prop}{G:Prop}(h:P0/\P1/\P2/\P3)(k:P0->P1->P2->P3->G):G:=by obtain⟨p0,p1,p2,p3⟩:=h;exact k p0 p1 p2 p3
theorem e06{P0 P1 P2 P3 P4 P5:Prop}{G:Prop}(h:P0/\P1/\P2/\P3/\P4/\P5)(k:P0->P1->P2->P3->P4->P5->G):G:=by obtain⟨p0,p1,p2,p3,p4,p5⟩:=h;exact k p0 p1 p2 p3 p4 p5
theorem e11{α:Sort _}{P0:α->Prop}{G:Prop}(h:∃x,P0 x)(k:∀x,P0 x->G):G:=by obtain⟨x,p0⟩:=h;exact k x p0
theorem e12{α:Sort _}{P0 P1:α->Prop}{G:Prop}(h:∃x,P0 x/\P1 x)(k:∀x,P0 x->P1 x->G):G:=by obtain⟨x,p0,p1⟩:=h;exact k x p0 p1
theorem e13{α:Sort _}{P0 P1 P2:α->Prop}{G:Prop}(h:∃x,P0 x/\P1 x/\P2 x)(k:∀x,P0 x->P1 x->P2 x->G):G:=by obtain⟨x,p0,p1,p2⟩:=h;exact k x p0 p1 p2
theorem e14{α:Sort _}{P0 P1 P2 P3:α->Prop}{G:Prop}(h:∃x,P0 x/\P1 x/\P2 x/\P3 x)(k:∀x,P0 x->P1 x->P2 x->P3 x->G):G:=by obtain⟨x,p0,p1,p2,p3⟩:=h;exact k x p0 p1 p2 p3
theorem e21{α β:Sort _}{P0:α->β->Prop}{G:Prop}(h:∃x,∃y,P0 x y)(k:∀x,∀y,P0 x y->G):G:=by obtain⟨x,y,p0⟩:=h;exact k x y p0
theorem e22{α β:Sort _}{P0 P1:α->β->Prop}{G:Prop}(h:∃x,∃y,P0 x y/\P1 x y)(k:∀x,∀y,P0 x y->P1 x y->G):G:=by obtain⟨x,y,p0,p1⟩:=h;exact k x y p0 p1
theorem e23{α β:Sort _}{P0 P1 P2:α->β->Prop}{G:Prop}(h:∃x,∃y,P0 x y/\P1 x y/\P2 x y)(k:∀x,∀y,P0 x y->P1 x y->P2 x y->G):G:=by obtain⟨x,y,p0,p1,p2⟩:=h;exact k x y p0 p1 p2
theorem e24{α β:Sort _}{P0 P1 P2 P3:α->β->Prop}{G:Prop}(h:∃x,∃y,P0 x y/\P1 x y/\P2 x y/\P3 x y)(k:∀x,∀y,P0 x y->P1 x y->P2 x y->P3 x y->G):G:=by obtain⟨x,y,p0,p1,p2,p3⟩:=h;exact k x y p0 p1 p2 p3
theorem e32{α β γ:Sort _}{P0 P1:α->β->γ->Prop}{G:Prop}(h:∃x,∃y,∃z,P0 x y z/\P1 x y z)(k:∀x,∀y,∀z,P0 x y z->P1 x y z->G):G:=by obtain⟨x,y,z,p0,p1⟩:=h;exact k x y z p0 p1
theorem e33{α β γ:Sort _}{P0 P1 P2:α->β->γ->Prop}{G:Prop}(h:∃x,∃y,∃z,P0 x y z/\P1 x y z/\P2 x y z)(k:∀x,∀y,∀z,P0 x y z->P1 x y z->P2 x y z->G):G:=by obtain⟨x,y,z,p0,p1,p2⟩:=h;exact k x y z p0 p1 p2
theorem e34{α β γ:Sort _}{P0 P1 P2 P3:α->β->γ->Prop}{G:Prop}(h:∃x,∃y,∃z,P0 x y z/\P1 x y z/\P2 x y z/\P3 x y z)(k:∀x,∀y,∀z,P0 x y z->P1 x y z->P2 x y z->P3 x y z->G):G:=by obtain⟨x,y,z,p0,p1,p2,p3⟩:=h;exact k x y z p0 p1 p2 p3
theorem e36{α β γ:Sort _}{P0 P1 P2 P3 P4 P5:α->β->γ->Prop}{G:Prop}(h:∃x,∃y,∃z,P0 x y z/\P1 x y z/\P2 x y z/\P3 x y z/\P4 x y z/\P5 x y z)(k:∀x,∀y,∀z,P0 x y z->P1 x y z->P2 x y z->P3 x y z->P4 x y z->P5 x y z->G):G:=by obtain⟨x,y,z,p0,p1,p2,p3,p4,p5⟩:=h;exact k x y z p0 p1 p2 p3 p4 p5
theorem e39{α β γ:Sort _}{P0 P1 P2 P3 P4 P5 P6 P7 P8:α->β->γ->Prop}{G:Prop}(h:∃x,∃y,∃z,P0 x y z/\P1 x y z/\P2 x y z/\P3 x y z/\P4 x y z/\P5 x y z/\P6 x y z/\P7 x y z/\P8 x y z)(k:∀x,∀y,∀z,P0 x y z->P1 x y z->P2 x y z->P3 x y z->P4 x y z->P5 x y z->P6 x y z->P7 x y z->P8 x y z->G):G:=by obtain⟨x,y,z,p0,p1,p2,p3,p4,p5,p6,p7,p8⟩:=h;exact k x y z p0 p1 p2 p3 p4 p5 p6 p7 p8
theorem gC4{α:Type _}{p:α->Prop}(x:α)(h:x∈([]:List α)):p x:=absurd h List.not_mem_nil
theorem gH0{a b:O}(h:Nat.beq a.ctorIdx b.ctorIdx=false):a≠b:=λe=>by subst e;rw[Nat.beq_refl]at h;cases h
theorem gQ0{α:Type _}{x:α}{G:Prop}(h:x∈([]:List α)):G:=absurd h List.not_mem_nil
theorem nn{α:Type}{a:α}{G:Prop}(h:none=some a):G:=nomatch h
theorem ff{G:Prop}(h:false=true):G:=nomatch h
theorem s2{α β:Type}{a a':α}{b b':β}{G:α->β->Prop}(h:some (a,b)=some (a',b'))(k:G a b):G a' b':=by cases h;exact k
theorem sS{α:Type}{a b:α}{G:α->Prop}(h:some a=some b)(k:G a):G b:=Option.some.inj h▸k
theorem gD7{v:V}{i:Int}(h:iOf v=some i):v= .int i:=by cases v<;>first|exact nn h|exact congrArg _ (Option.some.inj h)
theorem gK6{v:V}{i:List Nat}(h:sOf v=some i):v= .str i:=by cases v<;>first|exact nn h|exact congrArg _ (Option.some.inj h)
theorem gD6{v:V}{i:List Nat}(h:yOf v=some i):v= .bytes i:=by cases v<;>first|exact nn h|exact congrArg _ (Option.some.inj h)
theorem gI8{v:V}{i:List V}(h:tOf v=some i):v= .tup i:=by cases v<;>first|exact nn h|exact congrArg _ (Option.some.inj h)
theorem gM1{v:V}{i:Bool}(h:bOf v=some i):v= .bool i:=by cases v<;>first|exact nn h|exact congrArg _ (Option.some.inj h)
theorem gL5{v:V}{i:Nat}(h:kOf v=some i):v= .loc i:=by cases v<;>first|exact nn h|exact congrArg _ (Option.some.inj h)
theorem gL3{v:V}(h:gD0 v=true):v= .none:=by cases v<;>first|exact ff h|rfl
theorem hW2{v:V}(h:gC5 v=true):∃i,v= .int i:=by cases v<;>first|exact ff h|exact⟨_,rfl⟩
theorem gF8{v:V}(h:gB4 v=true):∃i,v= .str i:=by cases v<;>first|exact ff h|exact⟨_,rfl⟩
theorem iY1{v:V}(h:iL5 v=true):∃i,v= .bytes i:=by cases v<;>first|exact ff h|exact⟨_,rfl⟩
theorem hI4{l:List V}{v:V}(h:a1 l=some v):l=[v]:=by
 cases l with
 |nil=>cases h
 |cons x r=>
  cases r with
  |nil=>cases h;rfl
  |cons _ _=>cases h
theorem jO0{o:O}{l:List V}(h:iW7 o=some l):o= .lst l:=by cases o<;>first|exact nn h|exact congrArg _ (Option.some.inj h)
theorem jT1{o:O}{p:List V×List V}(h:lB2 o=some p):o= .dct p.1 p.2:=by cases o<;>first|exact nn h|exact congrArg (λp:List V×List V=>O.dct p.1 p.2) (Option.some.inj h)
theorem jQ1{o:O}{p:Nat×List Nat×List V}(h:lH1 o=some p):o= .ins p.1 p.2.1 p.2.2:=by cases o<;>first|exact nn h|exact congrArg (λp:Nat×List Nat×List V=>O.ins p.1 p.2.1 p.2.2) (Option.some.inj h)
theorem gM7{S:St}{k:Nat}{l:List V}(h:gV3 S k=some l):S.h k=some (.lst l):=bd h λ_ a e=>a.trans (congrArg _ (jO0 e))
theorem hY5{S:St}{k:Nat}{p:List V×List V}(h:iC9 S k=some p):S.h k=some (.dct p.1 p.2):=bd h λ_ a e=>a.trans (congrArg _ (jT1 e))
theorem gM8{S:St}{k:Nat}{p:Nat×List Nat×List V}(h:gV4 S k=some p):S.h k=some (.ins p.1 p.2.1 p.2.2):=bd h λ_ a e=>a.trans (congrArg _ (jQ1 e))
theorem gS9{S:St}{v:V}{l:List V}{G:V->Prop}(h:gD4 S v=some l)(a:G (.lst l))(b:∀k,S.h k=some (.lst l)->G (.loc k)):G v:=by cases v<;>first|exact nn h|exact b _ (gM7 h)|exact Option.some.inj h▸a
theorem gG8{S:St}{v:V}{p:List V×List V}{G:V->Prop}(h:getD S v=some p)(a:G (.dct p.1 p.2))(b:∀k,S.h k=some (.dct p.1 p.2)->G (.loc k)):G v:=by cases v<;>first|exact nn h|exact b _ (hY5 h)|(cases Option.some.inj h;exact a)
theorem hE0{S:St}{v:V}{p:Nat×List Nat×List V}{G:V->Prop}(h:hM2 S v=some p)(a:G (.ob p.1 p.2.1 p.2.2))(b:∀k,S.h k=some (.ins p.1 p.2.1 p.2.2)->G (.loc k)):G v:=by cases v<;>first|exact nn h|exact b _ (gM8 h)|(cases Option.some.inj h;exact a)
theorem hG6{α:Type}{a b:V}{f:Int->Int->Option α}{r:α}{G:V->V->Prop}(h:ii a b f=some r)(k:∀x y,f x y=some r->G (.int x) (.int y)):G a b:=bd h λx e h=>bd h λy e' h=>by rw[gD7 e,gD7 e'];exact k x y h
theorem gH2{k:V}{ks:List V}{G:V->Prop}(h:gA8 k ks=true)(a:∀i,ks.all gC5=true->G (.int i))(b:∀l,ks.all gB4=true->G (.str l)):G k:=by cases k<;>first|exact ff h|exact a _ h|exact b _ h
theorem hM3{f:Nat}{v v':V}{S S':St}{G:V->V->St->Prop}(e:frz (f+1) v S=some (v',S'))(a:kOf v=none->G v v S)
  (b:∀k l,S.h k=some (.lst l)->G (.loc k) (.lst l) (S.upd k (.frz (.lst l))))(c:∀k ks vs,S.h k=some (.dct ks vs)->G (.loc k) (.dct ks vs) (S.upd k (.frz (.dct ks vs))))
  (d:∀k v,S.h k=some (.frz v)->G (.loc k) v S)(n:∀k c ns vs,S.h k=some (.ins c ns vs)->hQ8 c=false->G (.loc k) (.loc k) S)
  (i:∀k c ns vs r q,S.h k=some (.ins c ns vs)->hQ8 c=true->gV6 f vs S=some r->gV4 r.2 k=some q->G (.loc k) (iI5 r.2 q) (r.2.upd k (.frz (iI5 r.2 q)))):G v v' S':=by
 cases v
 case loc k=>
  refine bd (show(S.h k).bind _=some (v',S')from e) λo hk e=> ?_
  cases o with
  |lst l=>exact s2 e (b k l hk)
  |dct ks vs=>exact s2 e (c k ks vs hk)
  |frz v=>exact s2 e (d k v hk)
  |ins c ns vs=>
   cases hc:hQ8 c with
   |false=>dsimp only at e;rw[hc]at e;exact s2 e (n k c ns vs hk hc)
   |true=>
    dsimp only at e;rw[hc]at e;exact bd e λr h e=>bd e λq h' e=>s2 e (i k c ns vs r q hk hc h h')
 all_goals exact s2 e (a rfl)
theorem hE1{f:Nat}{v:V}{r:List V}{q:List V×St}{S:St}{G:List V×St->Prop}(e:gV6 (f+1) (v::r) S=some q)(k:∀p p',frz f v S=some p->gV6 f r p.2=some p'->G (p.1::p'.1,p'.2)):G q:=bd e λp h e=>bd e λp' h' e=>sS e (k p p' h h')
end
section
set_option tactic.hygienic true
theorem oX{p:Prop}[Decidable p](h:decide p=true):p:=of_decide_eq_true h
theorem dT{p:Prop}[Decidable p](h:p):decide p=true:=decide_eq_true h
theorem bE{α:Type _}[BEq α][LawfulBEq α]{a b:α}(h:(a==b)=true):a=b:=eq_of_beq h
theorem mO{α:Type _}{a:α}{l:List α}(y:α)(h:a∈l):a∈y::l:= .tail _ h
theorem mS{α:Type _}{a:α}{l:List α}:a∈a::l:= .head _
theorem mC{α:Type _}{a b:α}{l:List α}(h:a∈b::l):a=b\/a∈l:=List.mem_cons.mp h
theorem nl1{x y k c d:Nat}(h:x<=k)(e:Nat.ble (k+c+1) d=true):x+c<y+d:=by have:=Nat.le_of_ble_eq_true e;lia
theorem nl2{x k d:Nat}(h:x<=k)(e:Nat.ble (k+1) d=true):x<d:=Nat.lt_of_le_of_lt h (Nat.le_of_ble_eq_true e)
theorem nl3{x k d:Nat}(h:x<k)(e:Nat.ble k d=true):x<d:=Nat.lt_of_lt_of_le h (Nat.le_of_ble_eq_true e)
theorem nl4{x y k c d:Nat}(h:x<k)(e:Nat.ble (k+c) d=true):x+c<y+d:=by have:=Nat.le_of_ble_eq_true e;lia
theorem nl5{a b c:Nat}(h:a+(b+1)<c):a+1+b<c:=Nat.lt_of_le_of_lt (Nat.le_of_eq (Nat.add_right_comm a 1 b)) h
theorem nl6{a b c:Nat}(h:a+1+b<c):a+(b+1)<c:=Nat.lt_of_le_of_lt (Nat.le_of_eq (Nat.add_right_comm a 1 b).symm) h
theorem nl7{a b c:Nat}(h:a+(b+1)<c):a+b<c:=Nat.lt_of_succ_lt h
theorem nl8{a b c:Nat}(h:a+b<c):b<c:=Nat.lt_of_le_of_lt (Nat.le_add_left ..) h
theorem nl9{a b c:Nat}(h:a+b<c):a<c:=Nat.lt_of_le_of_lt (Nat.le_add_right ..) h
theorem lL4{x k c d:Nat}(h:x<k)(e:Nat.ble (k+c) d=true):x+c<d:=Nat.lt_of_lt_of_le (Nat.add_lt_add_right h c) (Nat.le_of_ble_eq_true e)
theorem lV8{x k c d:Nat}(h:x<=k)(e:Nat.ble (k+c+1) d=true):x+c<d:=Nat.lt_of_lt_of_le (Nat.lt_succ_of_le (Nat.add_le_add_right h c)) (Nat.le_of_ble_eq_true e)
theorem hO6{x d:Nat}(h:x<d):0+x<d:=Nat.lt_of_le_of_lt (Nat.le_of_eq (Nat.zero_add x)) h
theorem lV7{x y d:Nat}(h:x<=y):x<=y+d:=Nat.le_trans h (Nat.le_add_right ..)
theorem lV6{x y d:Nat}(h:x<y):x<y+d:=Nat.lt_of_lt_of_le h (Nat.le_add_right ..)
theorem hD4{x k d:Nat}(h:x<=k)(e:Nat.ble k d=true):x<=d:=Nat.le_trans h (Nat.le_of_ble_eq_true e)
theorem lG4{x y k c d:Nat}(h:x<k)(l:y<=c)(e:Nat.ble (k+c) d=true):x+y<d:=Nat.lt_of_lt_of_le (Nat.add_lt_add_of_lt_of_le h l) (Nat.le_of_ble_eq_true e)
theorem lG3{x k c d:Nat}(h:x<=c)(e:Nat.ble (k*c+1) d=true):k*x<d:=Nat.lt_of_le_of_lt (Nat.mul_le_mul_left k h) (Nat.le_of_ble_eq_true e)
theorem kQ7{a b k c d:Nat}(h:a<=k*b)(l:b<=c)(e:Nat.ble (k*c+1) d=true):a<d:=Nat.lt_of_le_of_lt h (lG3 l e)
theorem lG2{a b k c d:Nat}(h:a<=k*b)(l:b<c)(e:Nat.ble (k*c+1) d=true):a<d:=kQ7 h (Nat.le_of_lt l) e
theorem kQ6{x y d:Nat}(h:x<=0+y)(l:y<d):x<d:=Nat.lt_of_le_of_lt (Nat.le_trans h (Nat.le_of_eq (Nat.zero_add y))) l
theorem lV5{x y d:Nat}(h:x<=0+y)(l:y<=d):x<=d:=Nat.le_trans (Nat.le_trans h (Nat.le_of_eq (Nat.zero_add y))) l
theorem lG1{x y:Nat}(h:x<y):x≠y:=Nat.ne_of_lt h
theorem jW2{x y:Nat}(h:x<y):y≠x:=Nat.ne_of_gt h
theorem lV4{a k d:Nat}(h:k<=a)(e:Nat.ble d k=true):d<=a:=Nat.le_trans (Nat.le_of_ble_eq_true e) h
theorem lV3{a k d:Nat}(h:k<a)(e:Nat.ble d k=true):d<a:=Nat.lt_of_le_of_lt (Nat.le_of_ble_eq_true e) h
theorem il1{i m n:Int}(h:0<=i/\i<m)(e:decide (m<=n)=true):0<=i/\i<n:=⟨h.1,Int.lt_of_lt_of_le h.2 (of_decide_eq_true e)⟩
theorem il2{i m k n:Int}(h:0<=i/\i<m)(e:decide (m+k<=n/\0<=k)=true):0<=i+k/\i+k<n:=by have:=of_decide_eq_true e;lia
theorem il3{i m k n:Int}(h:0<=i/\i<m)(e:decide (m+k<=n)=true):0<=i/\i+k<n:=by have:=of_decide_eq_true e;lia
theorem il4{i:Int}{n:Nat}(h:0<=i)(l:i<n):i.toNat<n:=(Int.toNat_lt h).mpr l
theorem il5{i:Int}{n:Nat}(h:0<=i)(l:i.toNat<n):i<n:=(Int.toNat_lt h).mp l
theorem il6{i:Int}{n:Nat}(h:0<=i/\i<n):i.toNat<n:=(Int.toNat_lt h.1).mpr h.2
theorem lG0{a b c k j:Nat}(h:a<=b+5*k)(h2:b<=c+j)(h3:j<=5):a<=c+5*(k+1):=by lia
theorem kQ5{a b c:Nat}(h:a+1+b<c+1):c-b+b=c:=Nat.sub_add_cancel (Nat.le_trans (Nat.le_add_left ..) (Nat.le_of_lt_succ h))
theorem jN4{a b c:Nat}(h:a+1+b<c+1):a+b<c:=Nat.lt_of_succ_lt_succ (Nat.lt_of_le_of_lt (Nat.le_of_eq (Nat.add_right_comm a b 1)) h)
theorem lF9{a b c x:Nat}(h:a<=b+x)(k:b<=c+1):a<=c+(x+1):=Nat.le_trans h (Nat.le_trans (Nat.add_le_add_right k x) (Nat.le_of_eq (Nat.add_right_comm c 1 x)))
theorem lL3{a b c k m n d:Nat}(h:a<=b+c)(hb:b<k)(hc:c<m)(hm:m<=n)(e:Nat.ble (k+n) d=true):a<d:=Nat.lt_of_le_of_lt h (lG4 hb (Nat.le_trans (Nat.le_of_lt hc) hm) e)
theorem lL2{a b c d:Nat}(h:a+5*(b+1)<d)(k:c<=5):a+c+5*b<d:=by lia
theorem lF8{x k m n:Nat}(h:x<=k)(e:Nat.ble k m=true):m-x+x+n=m+n:=congrArg (· +n) (Nat.sub_add_cancel (Nat.le_trans h (Nat.le_of_ble_eq_true e)))
theorem lL1{x k m n:Nat}(h:x<=k)(e:Nat.ble k m=true):m-x+n+x=m+n:=(Nat.add_right_comm ..).trans (lF8 h e)
theorem lL0{a b d:Nat}(h:a+6*(b+1)<d):a+3+6*b<d:=by lia
theorem lV2{a b d:Nat}(h:a+6*(b+1)<d):a+6*b<d:=by lia
theorem lK9{a b u d:Nat}(h:a+6*(b+1)<d)(k:u<=1):a+u+6*b<d:=by lia
theorem lK8{a b c d:Nat}(h:a+(b+1)<d)(k:c<=1):a+c+b<d:=by lia
theorem lK7{a b c d:Nat}(l:a<=b)(h:c+6*b<d):c+6*a<d:=by lia
theorem lK6{a b c d:Nat}(l:a<=b)(h:c+b<d):c+a<d:=Nat.lt_of_le_of_lt (Nat.add_le_add_left l c) h
theorem rg3{i:Int}(h:0<=i/\i<3):i=0\/i=1\/i=2:=by lia
theorem il7{i:Int}{m n:Nat}(h:0<=i/\i<n)(e:n=m):i.toNat<m:=e▸il6 h
theorem lK5{x k c m F:Nat}(h:x<=k)(hF:m<F)(e:Nat.ble (k+c) m=true):x+c<F:=Nat.lt_of_le_of_lt (Nat.le_trans (Nat.add_le_add_right h c) (Nat.le_of_ble_eq_true e)) hF
theorem lF7{x y z:Nat}(e:x=y+z)(h:x<y):False:=absurd h (Nat.not_lt.mpr (Nat.le_trans (Nat.le_add_right ..) (Nat.le_of_eq e.symm)))
theorem pb1{i:Int}:i<=i+1/\i+1<=i+6:=by lia
theorem pb2{i:Int}:i<=i+1+1/\i+1+1<=i+6:=by lia
theorem kQ4{x k c d:Nat}(h:x<k)(e:Nat.ble (c+k) d=true):c+x<d:=Nat.lt_of_lt_of_le (Nat.add_lt_add_left h c) (Nat.le_of_ble_eq_true e)
theorem lK4{x k b c d:Nat}(h:x<k)(e:Nat.ble (c+k+b) d=true):c+x+b<d:=Nat.lt_of_lt_of_le (Nat.add_lt_add_right (Nat.add_lt_add_left h c) b) (Nat.le_of_ble_eq_true e)
theorem kR9{n:Nat}(h:n<=1000000):(n:Int)<2^63:=Int.lt_of_le_of_lt (Int.ofNat_le.mpr h) (by decide)
theorem il8{i:Int}{n:Nat}(k:0<=i)(l:i.toNat<n)(z:n<=1000000):i<2^63:=Int.lt_trans (il5 k l) (kR9 z)
theorem il9{i:Int}{m n:Nat}(h:i<(n:Int))(e:m=n):i<(m:Int):=e▸h
theorem ilm{i:Int}(h:0<=i): -2^63<=i:=Int.le_trans (by decide) h
theorem naB{x:Int}{n:Nat}(h:x.natAbs<=n): -(n:Int)<=x/\x<=n:=⟨Int.neg_le_of_neg_le (Int.le_trans (Int.le_natAbs (a:= -x)) (Int.ofNat_le.mpr (Nat.le_trans (Nat.le_of_eq (Int.natAbs_neg x)) h))),Int.le_trans Int.le_natAbs (Int.ofNat_le.mpr h)⟩
end
section
set_option tactic.hygienic true
noncomputable abbrev QP:=V->St->Prop
section
variable{T:Txt}{f:Nat}{m:Lo}{S:St}{r:V×St}{G:V×St->Prop}
theorem hW9{v:V}(h:evE T (f+1) (.lit v) m S=some r)(k:T.p.lit v=true->G (v,S)):G r:=ifs h λc e=>sS e (k c)
theorem jG2{x:Nat}(h:evE T (f+1) (.var x) m S=some r)(k:∀v,m x=some v->G (norm S v,S)):G r:=bd h λv a e=>sS e (k v a)
theorem kJ5{g:Nat}(h:evE T (f+1) (.gv g) m S=some r)(k:∀v,T.gvs[g]?=some v->G (v,S)):G r:=bd h λv a e=>sS e (k v a)
theorem jG9{op:BOp}{a b:ME}(h:evE T (f+1) (.bin op a b) m S=some r)(k:∀x y v,evE T f a m S=some x->evE T f b m x.2=some y->T.p.bin op x.1 y.1=some v->G (v,y.2)):G r:=bd h λx a e=>bd e λy b e=>bd e λv c e=>sS e (k x y v a b c)
theorem iN9{op:COp}{a b:ME}(h:evE T (f+1) (.cmp op a b) m S=some r)(k:∀x y v,evE T f a m S=some x->evE T f b m x.2=some y->T.p.cmp y.2 op x.1 y.1=some v->G (.bool v,y.2)):G r:=bd h λx a e=>bd e λy b e=>bd e λv c e=>sS e (k x y v a b c)
theorem hH1{oA oB:COp}{a b c:ME}(h:evE T (f+1) (.chain oA oB a b c) m S=some r)(k:∀x y z v,evE T f a m S=some x->evE T f b m x.2=some y->T.p.cmp y.2 oA x.1 y.1=some true->evE T f c m y.2=some z->T.p.cmp z.2 oB y.1 z.1=some v->G (.bool v,z.2))
  (k':∀x y,evE T f a m S=some x->evE T f b m x.2=some y->T.p.cmp y.2 oA x.1 y.1=some false->G (.bool false,y.2)):G r:=
 bd h λx a e=>bd e λy b e=>bd e λv c e=>by
  cases v
  ·exact sS e (k' x y a b c)
  ·exact bd e λz a' e=>bd e λv b' e=>sS e (k x y z v a b c a' b')
theorem iN7{a:ME}(h:evE T (f+1) (.notE a) m S=some r)(k:∀S' b,evE T f a m S=some (.bool b,S')->G (.bool !b,S')):G r:=bd h λx a e=>bd e λb c e=>sS e (k x.2 b (by rw[←gM1 c];exact a))
theorem iN8{a b c:ME}(h:evE T (f+1) (.ite c a b) m S=some r)(k:∀S',evE T f c m S=some (.bool true,S')->evE T f a m S'=some r->G r)(k':∀S',evE T f c m S=some (.bool false,S')->evE T f b m S'=some r->G r):G r:=
 bd h λx a e=>bd e λb c e=>by
  have a:=(a.trans (congrArg (λv=>some (v,x.2)) (gM1 c)))
  cases b
  ·exact k' _ a e
  ·exact k _ a e
theorem jG3{l:List ME}(h:evE T (f+1) (.tupE l) m S=some r)(k:∀x y,gG4 T f l m S=some x->gV6 30 x.1 x.2=some y->G (.tup y.1,y.2)):G r:=bd h λx a e=>bd e λy b e=>sS e (k x y a b)
theorem jG6{l:List ME}(h:evE T (f+1) (.lstE l) m S=some r)(k:∀x y,gG4 T f l m S=some x->gV6 30 x.1 x.2=some y->G (.loc y.2.n,y.2.new (.lst y.1))):G r:=bd h λx a e=>bd e λy b e=>sS e (k x y a b)
theorem jG8{ks:List (List Nat)}{l:List ME}(h:evE T (f+1) (.dctE ks l) m S=some r)(k:∀x y,gG4 T f l m S=some x->gV6 30 x.1 x.2=some y->ks.length=y.1.length->G (.loc y.2.n,y.2.new (.dct (ks.map .str) y.1))):G r:=bd h λx a e=>bd e λy b e=>ifs e λc e=>sS e (k x y a b c)
theorem iO0{e:ME}{x:Nat}(h:evE T (f+1) (.attr e x) m S=some r)(k:∀v q u,evE T f e m S=some v->hM2 v.2 v.1=some q->iC7 x q.2.1 q.2.2=some u->G (norm v.2 u,v.2)):G r:=bd h λv a e=>bd e λq b e=>bd e λu c e=>sS e (k v q u a b c)
theorem jG4{a b:ME}(h:evE T (f+1) (.sub a b) m S=some r)(k:∀x y v,evE T f a m S=some x->evE T f b m x.2=some y->T.p.sub y.2 x.1 y.1=some v->G (norm y.2 v,y.2)):G r:=bd h λx a e=>bd e λy b e=>bd e λv c e=>sS e (k x y v a b c)
theorem jG5{a b c:ME}(h:evE T (f+1) (.slc a b c) m S=some r)(k:∀x y z,evE T f a m S=some x->evE T f b m x.2=some y->evE T f c m y.2=some z->T.p.slc z.2 x.1 y.1 z.1=some r->G r):G r:=bd h λx a e=>bd e λy b e=>bd e λv c e=>k x y v a b c e
theorem hX3{g:Nat}{l:List ME}(h:evE T (f+1) (.callF g l) m S=some r)(k:∀x,gG4 T f l m S=some x->gA4 T f g x.1 x.2=some r->G r):G r:=bd h λx a e=>k x a e
theorem hX4{c:Nat}{l:List ME}(h:evE T (f+1) (.callC c l) m S=some r)(k:∀x g S',gG4 T f l m S=some x->gZ8 T.init (T.cls.getD c [])=some g->gA4 T f g (.loc x.2.n::x.1) (x.2.new (.ins c [] []))=some (.none,S')->G (.loc x.2.n,S')):G r:=bd h λx a e=>bd e λg b e=>bd e λq c e=>ifs e λd e=>sS e (k x g q.2 a b (c.trans (congrArg (λv=>some (v,q.2)) (gL3 d))))
theorem hX2{o:ME}{x:Nat}{l:List ME}(h:evE T (f+1) (.callM o x l) m S=some r)
  (k:∀o' q g y,evE T f o m S=some o'->hM2 o'.2 o'.1=some q->¬q.2.1.contains x=true->gZ8 x (T.cls.getD q.1 [])=some g->gG4 T f l m o'.2=some y->gA4 T f g (o'.1::y.1) y.2=some r->G r):G r:=
 bd h λo' a e=>bd e λq b e=>ifs e λc e=>bd e λg d e=>bd e λy z e=>k o' q g y a b c d z e
theorem hX5{b:BF}{l:List ME}(h:evE T (f+1) (.callB b l) m S=some r)(k:∀x,gG4 T f l m S=some x->T.p.bf x.2 b x.1=some r->G r):G r:=bd h λx a e=>k x a e
theorem hM4{o:ME}{b:BM}{l:List ME}(h:evE T (f+1) (.callBM o b l) m S=some r)(k:∀x y,evE T f o m S=some x->iT0 x.2 b x.1=true->gG4 T f l m x.2=some y->T.p.bm y.2 b x.1 y.1=some r->G r):G r:=bd h λx a e=>ifs e λc e=>bd e λy b e=>k x y a c b e
theorem jG7{a:ME}{q:Kd}(h:evE T (f+1) (.isi a q) m S=some r)(k:∀x b,evE T f a m S=some x->hA9 x.2 x.1 q=some b->G (.bool b,x.2)):G r:=bd h λx a e=>bd e λb c e=>sS e (k x b a c)
theorem hG8{vars:List Nat}{elt:ME}{gs:List Gn}(h:evE T (f+1) (.lcomp vars elt gs) m S=some r)(k:∀g gs' q z,gs=g::gs'->itE T f g m S=some q->gD8 T f elt g gs' q.1 (m.del vars) [] q.2=some z->G (.loc z.2.n,z.2.new (.lst z.1))):G r:=by
 cases gs with
 |nil=>exact nn h
 |cons g gs'=>exact bd h λq a e=>bd e λz b e=>sS e (k g gs' q z rfl a b)
theorem hG9{vars:List Nat}{ke ve:ME}{g:Gn}(h:evE T (f+1) (.dcomp vars ke ve g) m S=some r)(k:∀q z,itE T f g m S=some q->gQ9 T f ke ve g q.1 (m.del vars) ([],[]) q.2=some z->G (.loc z.2.n,z.2.new (.dct z.1.1 z.1.2))):G r:=bd h λq a e=>bd e λz b e=>sS e (k q z a b)
theorem iO1{e:ME}{l:List ME}(h:gQ7 T (f+1) (e::l) m S=some r)(k:l=[]->evE T f e m S=some r->G r)(k':∀S',l≠ []->evE T f e m S=some (.bool true,S')->gQ7 T f l m S'=some r->G r)(z:∀S',l≠ []->evE T f e m S=some (.bool false,S')->G (.bool false,S')):G r:=by
 cases l with
 |nil=>exact k rfl h
 |cons e' l'=>
  exact bd (show Option.bind _ _=some r from h) λx a e=>bd e λb c e=>by
   have a:=(a.trans (congrArg (λv=>some (v,x.2)) (gM1 c)))
   cases b
   ·exact sS e (z _ (by nofun) a)
   ·exact k' _ (by nofun) a e
theorem jR1{e:ME}{l:List ME}(h:hX6 T (f+1) (e::l) m S=some r)(k:l=[]->evE T f e m S=some r->G r)(k':∀S',l≠ []->evE T f e m S=some (.bool false,S')->hX6 T f l m S'=some r->G r)(z:∀S',l≠ []->evE T f e m S=some (.bool true,S')->G (.bool true,S')):G r:=by
 cases l with
 |nil=>exact k rfl h
 |cons e' l'=>
  exact bd (show Option.bind _ _=some r from h) λx a e=>bd e λb c e=>by
   have a:=(a.trans (congrArg (λv=>some (v,x.2)) (gM1 c)))
   cases b
   ·exact k' _ (by nofun) a e
   ·exact sS e (z _ (by nofun) a)
end
section
variable{T:Txt}{f:Nat}{m:Lo}{S:St}{r:List V×St}{G:List V×St->Prop}
theorem hH0{e:ME}{l:List ME}(h:gG4 T (f+1) (e::l) m S=some r)(k:∀x y,evE T f e m S=some x->gG4 T f l m x.2=some y->G (x.1::y.1,y.2)):G r:=bd h λx a e=>bd e λy b e=>sS e (k x y a b)
theorem hW1{l:List ME}(h:itI T (f+1) (.range l) m S=some r)(k:∀x l',gG4 T f l m S=some x->T.p.rng x.1=some l'->G (l',x.2)):G r:=bd h λx a e=>bd e λy b e=>sS e (k x y a b)
theorem iJ1{v:V}{l:List V}(h:kG0 v=some l):v= .lst l:=by cases v<;>first|exact nn h|exact congrArg _ (Option.some.inj h)
theorem iK7{e:ME}(h:itI T (f+1) (.enum e) m S=some r)(k:∀x l S',evE T f e m S=some x->T.p.enm=true->frz 9 x.1 x.2=some (.lst l,S')->G (hB6 0 l,S')):G r:=bd h λx a e=>ifs e λc e=>bd e λy b e=>bd e λl d e=>sS e (k x l y.2 a c (b.trans (congrArg (λv=>some (v,y.2)) (iJ1 d))))
theorem jE7{e:ME}(h:itI T (f+1) (.rev e) m S=some r)(k:∀x l S',evE T f e m S=some x->frz 9 x.1 x.2=some (.lst l,S')->G (l.reverse,S')):G r:=bd h λx a e=>bd e λy b e=>bd e λl d e=>sS e (k x l y.2 a (b.trans (congrArg (λv=>some (v,y.2)) (iJ1 d))))
end
section
variable{T:Txt}{f:Nat}{m:Lo}{S:St}
theorem iN6{e:ME}{l:List ME}{r:Bool×St}{G:Bool×St->Prop}(h:gC8 T (f+1) (e::l) m S=some r)(k:∀S',evE T f e m S=some (.bool true,S')->gC8 T f l m S'=some r->G r)(z:∀S',evE T f e m S=some (.bool false,S')->G (false,S')):G r:=
 bd h λx a e=>bd e λb c e=>by
  have a:=(a.trans (congrArg (λv=>some (v,x.2)) (gM1 c)))
  cases b
  ·exact sS e (z _ a)
  ·exact k _ a e
inductive LX(T:Txt)(f:Nat)(elt:ME)(g:Gn)(gs:List Gn)(l:List V)(m mA:Lo)(acc:List V)(S:St)(r:List V×St):Prop
 |no (S':St):gC8 T f g.ifs mA S=some (false,S')->gD8 T f elt g gs l m acc S'=some r->LX T f elt g gs l m mA acc S r
 |leaf (S':St) (x y:V×St):gs=[]->gC8 T f g.ifs mA S=some (true,S')->evE T f elt mA S'=some x->frz 9 x.1 x.2=some y->small acc.length=true->gD8 T f elt g gs l m (acc++ [y.1]) y.2=some r->LX T f elt g gs l m mA acc S r
 |nest (S':St) (g':Gn) (gs':List Gn) (q z:List V×St):gs=g'::gs'->gC8 T f g.ifs mA S=some (true,S')->itE T f g' mA S'=some q->gD8 T f elt g' gs' q.1 mA acc q.2=some z->gD8 T f elt g gs l m z.1 z.2=some r->LX T f elt g gs l m mA acc S r
theorem hX0{elt:ME}{g:Gn}{gs:List Gn}{v:V}{l acc:List V}{r:List V×St}{G:Prop}(h:gD8 T (f+1) elt g gs (v::l) m acc S=some r)
  (k:∀mA,g.tg.put v m=some mA->LX T f elt g gs l m mA acc S r->G):G:=
 bd h λmA a e=>bd e λu b e=>k mA a (by
  obtain⟨u,S'⟩:=u
  cases u with
  |false=>exact .no S' b e
  |true=>
   cases gs with
   |nil=>exact bd e λx a' e=>bd e λy b' e=>ifs e λs e=> .leaf S' x y rfl b a' b' s e
   |cons g' gs'=>exact bd e λq a' e=>bd e λz b' e=> .nest S' g' gs' q z rfl b a' b' e)
inductive DX(T:Txt)(f:Nat)(ke ve:ME)(g:Gn)(l:List V)(m mA:Lo)(d:List V×List V)(S:St)(r:(List V×List V)×St):Prop
 |no (S':St):gC8 T f g.ifs mA S=some (false,S')->gQ9 T f ke ve g l m d S'=some r->DX T f ke ve g l m mA d S r
 |leaf (S':St) (k x y:V×St):gC8 T f g.ifs mA S=some (true,S')->evE T f ke mA S'=some k->evE T f ve mA k.2=some x->frz 9 x.1 x.2=some y->(gB4 k.1&&d.1.all gB4&&small d.1.length)=true->gQ9 T f ke ve g l m (gJ5 k.1 y.1 d.1 d.2) y.2=some r->DX T f ke ve g l m mA d S r
theorem hX1{ke ve:ME}{g:Gn}{v:V}{l:List V}{d:List V×List V}{r:(List V×List V)×St}{G:Prop}(h:gQ9 T (f+1) ke ve g (v::l) m d S=some r)
  (k:∀mA,g.tg.put v m=some mA->DX T f ke ve g l m mA d S r->G):G:=
 bd h λmA a e=>bd e λu b e=>k mA a (by
  obtain⟨u,S'⟩:=u
  cases u with
  |false=>exact .no S' b e
  |true=>exact bd e λz a' e=>bd e λx b' e=>bd e λy c' e=>ifs e λs e=> .leaf S' z x y b a' b' c' s e)
theorem Fl.out_eq{fl:Fl}{v:V}{G:Fl->Prop}(h:Fl.out fl=some v)(a:G (.rt v))(b:v= .none->G .nx):G fl:=by
 cases fl with
 |nx=>exact b (Option.some.inj h).symm
 |rt u=>exact Option.some.inj h▸a
 |ct=>exact nn h
end
section
variable{T:Txt}{f:Nat}{m:Lo}{S:St}{r:Fl×Lo×St}{G:Fl×Lo×St->Prop}
theorem kJ4{e:ME}(h:exS T (f+1) (.ex e) m S=some r)(k:∀x,evE T f e m S=some x->G (.nx,m,x.2)):G r:=bd h λx a e=>sS e (k x a)
theorem jG1{x:Nat}{e:ME}(h:exS T (f+1) (.asg x e) m S=some r)(k:∀y,evE T f e m S=some y->G (.nx,m.set x y.1,y.2)):G r:=bd h λx a e=>sS e (k x a)
theorem iN5{o:ME}{x:Nat}{e:ME}(h:exS T (f+1) (.asgA o x e) m S=some r)
  (k:∀y S' j q,evE T f e m S=some y->evE T f o m y.2=some (.loc j,S')->gV4 S' j=some q->((T.atts.getD q.1 []).contains x&&small q.2.1.length)=true->G (.nx,m,S'.upd j (.ins q.1 (hO7 x y.1 q.2.1 q.2.2).1 (hO7 x y.1 q.2.1 q.2.2).2))):G r:=
 bd h λy a e=>bd e λu b e=>bd e λj c e=>bd e λq d e=>ifs e λs e=>sS e (k y u.2 j q a (b.trans (congrArg (λv=>some (v,u.2)) (gL5 c))) d s)
theorem hR4{o i e:ME}(h:exS T (f+1) (.asgS o i e) m S=some r)
  (k:∀x S₁ kk j y SA,evE T f e m S=some x->evE T f o m x.2=some (.loc kk,S₁)->evE T f i m S₁=some j->frz 9 x.1 j.2=some y->T.p.key j.1=true->gO7 y.2 kk j.1 y.1=some SA->G (.nx,m,SA)):G r:=
 bd h λx a e=>bd e λu b e=>bd e λkk c e=>bd e λj d e=>bd e λy a' e=>ifs e λs e=>bd e λSA b' e=>sS e (k x u.2 kk j y SA a (b.trans (congrArg (λv=>some (v,u.2)) (gL5 c))) d a' s b')
theorem iN3{xs:List Nat}{e:ME}(h:exS T (f+1) (.asgT xs e) m S=some r)(k:∀l S',evE T f e m S=some (.tup l,S')->l.length=xs.length->G (.nx,m.sets xs l,S')):G r:=bd h λx a e=>bd e λl c e=>ifs e λd e=>sS e (k l x.2 (a.trans (congrArg (λv=>some (v,x.2)) (gI8 c))) d)
theorem iN4{xs:List Nat}{es:List ME}(h:exS T (f+1) (.asgP xs es) m S=some r)(k:∀x,gG4 T f es m S=some x->x.1.length=xs.length->G (.nx,m.sets xs x.1,x.2)):G r:=bd h λx a e=>ifs e λd e=>sS e (k x a d)
theorem jF9{c:ME}{a b:List MS}(h:exS T (f+1) (.ite c a b) m S=some r)(k:∀S',evE T f c m S=some (.bool true,S')->exB T f a m S'=some r->G r)(k':∀S',evE T f c m S=some (.bool false,S')->exB T f b m S'=some r->G r):G r:=
 bd h λx a e=>bd e λb c e=>by
  have a:=(a.trans (congrArg (λv=>some (v,x.2)) (gM1 c)))
  cases b
  ·exact k' _ a e
  ·exact k _ a e
theorem kJ3{t:Tg}{it:It}{b:List MS}(h:exS T (f+1) (.fr t it b) m S=some r)(k:∀q,itI T f it m S=some q->exF T f t q.1 b m q.2=some r->G r):G r:=bd h λq a e=>k q a e
theorem jF8{e:ME}(h:exS T (f+1) (.ret e) m S=some r)(k:∀x,evE T f e m S=some x->G (.rt x.1,m,x.2)):G r:=bd h λx a e=>sS e (k x a)
theorem iN2{s:MS}{l:List MS}(h:exB T (f+1) (s::l) m S=some r)(n:∀mA S₁,exS T f s m S=some (.nx,mA,S₁)->exB T f l mA S₁=some r->G r)(k:∀fl mA S₁,fl≠ .nx->exS T f s m S=some (fl,mA,S₁)->G (fl,mA,S₁)):G r:=
 bd h λq a e=>by
  obtain⟨fl,mA,S₁⟩:=q
  cases fl with
  |nx=>exact n mA S₁ a e
  |rt v=>exact sS e (k _ _ _ (by nofun) a)
  |ct=>exact sS e (k _ _ _ (by nofun) a)
theorem jF7{c:ME}{b:List MS}(h:exW T (f+1) c b m S=some r)(n:∀S₁ fl mA SA,evE T f c m S=some (.bool true,S₁)->exB T f b m S₁=some (fl,mA,SA)->(∀v,fl≠ .rt v)->exW T f c b mA SA=some r->G r)
  (k:∀S₁ v mA SA,evE T f c m S=some (.bool true,S₁)->exB T f b m S₁=some (.rt v,mA,SA)->G (.rt v,mA,SA))(z:∀S₁,evE T f c m S=some (.bool false,S₁)->G (.nx,m,S₁)):G r:=
 bd h λx a e=>bd e λu c e=>by
  have a:=(a.trans (congrArg (λv=>some (v,x.2)) (gM1 c)))
  cases u with
  |false=>exact sS e (z _ a)
  |true=>
   refine bd e λq b e=> ?_;obtain⟨fl,mA,S₁⟩:=q
   cases fl with
   |nx=>exact n _ _ _ _ a b (by nofun) e
   |rt v=>exact sS e (k _ v _ _ a b)
   |ct=>exact n _ _ _ _ a b (by nofun) e
theorem jG0{t:Tg}{v:V}{l:List V}{b:List MS}(h:exF T (f+1) t (v::l) b m S=some r)(n:∀mA fl mB SA,t.put v m=some mA->exB T f b mA S=some (fl,mB,SA)->(∀v,fl≠ .rt v)->exF T f t l b mB SA=some r->G r)
  (k:∀mA v' mB SA,t.put v m=some mA->exB T f b mA S=some (.rt v',mB,SA)->G (.rt v',mB,SA)):G r:=
 bd h λmA a e=>bd e λq b e=>by
  obtain⟨fl,mB,S₁⟩:=q
  cases fl with
  |nx=>exact n _ _ _ _ a b (by nofun) e
  |rt v=>exact sS e (k _ v _ _ a b)
  |ct=>exact n _ _ _ _ a b (by nofun) e
end
end
section
set_option tactic.hygienic true
noncomputable abbrev li(n:Int):ME:= .lit (.int n)
noncomputable abbrev vr(n:Nat):ME:= .var n
noncomputable abbrev lz(l:List Nat):ME:= .lit (.str l)
noncomputable abbrev lb(l:List Nat):ME:= .lit (.bytes l)
noncomputable def fn0:Fn:=⟨[0],[],[
  .asg 1 (.lcomp [2] (.bin .mod (.callB .int [(vr 2)]) (li 1000003)) [(.mk (.one 2) (.ex (.slc (vr 0) (.lit .none) (li 60))) [])]),
  .asg 3 (.lstE [(vr 1),(li 0),(.bin .mod (.callB .sum [(vr 1)]) (li 997))]),
  .asgP [4,5] [(.lstE []),(.lstE [])],
  .fr (.one 6) (.range [(.bin .add (li 1) (.callF 1 [(vr 3),(li 5)]))]) [.ite (.cmp .eq (.callF 1 [(vr 3),(li 4)]) (li 3)) [.ex (.callBM (vr 4) .append [(.tupE [(lz [116,114,97,105,108,101,114]),(li 0),(li 0),(.callF 3 [(vr 3)])])]),.ex (.callBM (vr 5) .append [(.bin .add (lb [116,114,97,105,108,101,114,32]) (.callF 4 [(.sub (.sub (vr 4) (li (-1))) (li 3))]))])] [.asgP [7,8] [(.callF 1 [(vr 3),(li 4)]),(.callB .int [(.cmp .eq (.callF 1 [(vr 3),(li 5)]) (li 4))])],.ex (.callBM (vr 4) .append [(.tupE [(lz [111,98,106,101,99,116]),(vr 7),(vr 8),(.callF 2 [(vr 3)])])]),.ex (.callBM (vr 5) .append [(.bin .add (.bin .add (.bin .add (.bin .add (.bin .add (.callBM (.callB .str [(vr 7)]) .encode [(lz [97,115,99,105,105])]) (lb [32])) (.callBM (.callB .str [(vr 8)]) .encode [(lz [97,115,99,105,105])])) (lb [32,111,98,106,32])) (.callF 4 [(.sub (.sub (vr 4) (li (-1))) (li 3))])) (lb [32,101,110,100,111,98,106]))])]],
  .asgP [9,10] [(.callF 7 [(vr 4)]),(.callF 6 [(vr 4)])],
  .ite (.cmp .ne (.callM (.callF 8 [(.callC 6 [(.callF 9 [(.attr (vr 9) 11)])]),(vr 9),(.attr (vr 9) 11)]) 12 []) (vr 10)) [.ret (.lit (.bool false))] [],
  .asg 13 (.callF 21 [(.callBM (lb [10]) .bytesJoin [(vr 5)]),(.lit .none)]),
  .ite (.cmp .ne (.lcomp [14] (.tupE [(.attr (vr 14) 7),(.attr (vr 14) 8),(.callF 19 [(.attr (vr 14) 15)])]) [(.mk (.one 14) (.ex (.attr (vr 13) 11)) [])]) (.lcomp [16] (.tupE [(.sub (vr 16) (li 1)),(.sub (vr 16) (li 2)),(.callF 19 [(.sub (vr 16) (li 3))])]) [(.mk (.one 16) (.ex (vr 4)) [(.cmp .eq (.sub (vr 16) (li 0)) (lz [111,98,106,101,99,116]))])])) [.ret (.lit (.bool false))] [],
  .ite (.cmp .ne (.lcomp [18,19] (.callF 19 [(vr 19)]) [(.mk (.tup [18,19]) (.ex (.attr (vr 13) 17)) [])]) (.lcomp [16] (.callF 19 [(.sub (vr 16) (li 3))]) [(.mk (.one 16) (.ex (vr 4)) [(.cmp .eq (.sub (vr 16) (li 0)) (lz [116,114,97,105,108,101,114]))])])) [.ret (.lit (.bool false))] [],
  .ret (.cmp .eq (.callM (.callF 8 [(.callC 6 [(.callF 9 [(.attr (vr 13) 11)])]),(vr 13),(.attr (vr 13) 11)]) 12 []) (vr 10))]⟩
noncomputable def fn1:Fn:=⟨[3,20],[],[
  .asg 21 (.sub (vr 3) (li 1)),
  .asgS (vr 3) (li 1) (.bin .add (vr 21) (li 1)),
  .ite (.cmp .lt (vr 21) (.callB .len [(.sub (vr 3) (li 0))])) [.ret (.bin .mod (.sub (.sub (vr 3) (li 0)) (vr 21)) (vr 20))] [],
  .ret (.bin .mod (.bin .add (.bin .add (.sub (vr 3) (li 2)) (.bin .mul (li 7) (vr 21))) (.bin .fdiv (.bin .mul (vr 21) (vr 21)) (li 3))) (vr 20))]⟩
noncomputable def fn2:Fn:=⟨[3],[],[
  .asg 22 (.callF 1 [(vr 3),(li 7)]),
  .ite (.cmp .eq (vr 22) (li 0)) [.ret (.callF 1 [(vr 3),(li 9)])] [],
  .ite (.cmp .lt (vr 22) (li 3)) [.ret (.dctE [[84,121,112,101],[75]] [(.callC 0 [(lz [67,97,116,97,108,111,103])]),(vr 22)])] [],
  .ite (.cmp .eq (vr 22) (li 3)) [.ret (.dctE [[75]] [(.callF 1 [(vr 3),(li 5)])])] [],
  .asg 23 (.dctE [[84,121,112,101],[76,101,110,103,116,104]] [(.callC 0 [(.sub (.lstE [(lz [88,82,101,102]),(lz [79,98,106,83,116,109]),(lz [88])]) (.bin .sub (vr 22) (li 4)))]),(li 0)]),
  .ite (.cmp .eq (vr 22) (li 4)) [.asgS (vr 23) (lz [87]) (.lstE [(li 1),(li 1),(li 1)]),.asgS (vr 23) (lz [82,111,111,116]) (.callC 2 [(.bin .add (li 1) (.callF 1 [(vr 3),(li 3)])),(li 0)]),.asgS (vr 23) (lz [80,114,101,118]) (li 5)] [],
  .ret (.callC 1 [(vr 23),(lb [])])]⟩
noncomputable def fn3:Fn:=⟨[3],[],[
  .asg 19 (.dctE [] []),
  .ite (.cmp .eq (.callF 1 [(vr 3),(li 2)]) (li 0)) [.asgS (vr 19) (lz [73,110,102,111]) (.callF 1 [(vr 3),(li 4)])] [],
  .ite (.cmp .eq (.callF 1 [(vr 3),(li 3)]) (li 0)) [.asgS (vr 19) (lz [82,111,111,116]) (.callC 2 [(.bin .add (li 1) (.callF 1 [(vr 3),(li 3)])),(li 0)])] [],
  .ite (.cmp .eq (.callF 1 [(vr 3),(li 3)]) (li 0)) [.asgS (vr 19) (lz [83,105,122,101]) (li 9),.asgS (vr 19) (lz [80,114,101,118]) (li 3)] [],
  .ret (vr 19)]⟩
noncomputable def fn4:Fn:=⟨[15],[],[
  .ite (.isi (vr 15) .int) [.ret (.callBM (.callB .str [(vr 15)]) .encode [(lz [97,115,99,105,105])])] [],
  .ite (.isi (vr 15) (.cls 0)) [.ret (.bin .add (lb [47]) (.callBM (.attr (vr 15) 24) .encode [(lz [97,115,99,105,105])]))] [],
  .ite (.isi (vr 15) (.cls 2)) [.ret (.bin .add (.callBM (.callB .str [(.attr (vr 15) 7)]) .encode [(lz [97,115,99,105,105])]) (lb [32,48,32,82]))] [],
  .ite (.isi (vr 15) .list) [.ret (.bin .add (.bin .add (lb [91,32]) (.callBM (lb [32]) .bytesJoin [(.lcomp [25] (.callF 4 [(vr 25)]) [(.mk (.one 25) (.ex (vr 15)) [])])])) (lb [32,93]))] [],
  .ite (.isi (vr 15) (.cls 1)) [.ret (.bin .add (.callF 4 [(.attr (vr 15) 23)]) (lb [32,115,116,114,101,97,109,10,10,101,110,100,115,116,114,101,97,109]))] [],
  .ret (.bin .add (.bin .add (lb [60,60,32]) (.callBM (lb [32]) .bytesJoin [(.lcomp [26] (.bin .add (.bin .add (.bin .add (lb [47]) (.callBM (vr 26) .encode [(lz [97,115,99,105,105])])) (lb [32])) (.callF 4 [(.sub (vr 15) (vr 26))])) [(.mk (.one 26) (.ex (vr 15)) [])])])) (lb [32,62,62]))]⟩
noncomputable def fn5:Fn:=⟨[15],[],[
  .asg 23 (.ite (.isi (vr 15) (.cls 1)) (.attr (vr 15) 23) (vr 15)),
  .ret (.ite (.andE [(.isi (vr 23) .dict),(.cmp .inn (lz [84,121,112,101]) (vr 23))]) (.attr (.sub (vr 23) (lz [84,121,112,101])) 24) (lz []))]⟩
noncomputable def fn6:Fn:=⟨[4],[],[
  .asgP [27,19] [(.dctE [] []),(.dctE [] [])],
  .fr (.tup [22,7,8,15]) (.ex (vr 4)) [.ite (.andE [(.cmp .eq (vr 22) (lz [111,98,106,101,99,116])),(.cmp .gt (vr 7) (li 0))]) [.asgS (vr 27) (vr 7) (.tupE [(vr 8),(vr 15)])] [],.asg 23 (.ite (.andE [(.cmp .eq (vr 22) (lz [111,98,106,101,99,116])),(.isi (vr 15) (.cls 1)),(.cmp .eq (.callF 5 [(vr 15)]) (lz [88,82,101,102]))]) (.attr (vr 15) 23) (.ite (.cmp .eq (vr 22) (lz [116,114,97,105,108,101,114])) (vr 15) (.dctE [] []))),.fr (.one 26) (.ex (vr 23)) [.ite (.cmp .notIn (vr 26) (.tupE [(lz [83,105,122,101]),(lz [80,114,101,118]),(lz [76,101,110,103,116,104]),(lz [87]),(lz [84,121,112,101])])) [.asgS (vr 19) (vr 26) (.sub (vr 23) (vr 26))] []]],
  .asg 28 (.callBM (vr 19) .get1 [(lz [82,111,111,116])]),
  .asg 13 (.ite (.cmp .notIsn (vr 28) (.lit .none)) (.callBM (vr 27) .get2 [(.attr (vr 28) 7),(.tupE [(li 0),(.lit .none)])]) (.tupE [(li 0),(.lit .none)])),
  .ite (.orE [(.notE (.isi (.sub (vr 13) (li 1)) .dict)),(.cmp .ne (.sub (vr 13) (li 0)) (li 0))]) [.asg 29 (.callB .dict [(.lcomp [18,16] (.tupE [(.sub (vr 16) (li 1)),(vr 18)]) [(.mk (.tup [18,16]) (.enum (vr 4)) [(.cmp .eq (.sub (vr 16) (li 0)) (lz [111,98,106,101,99,116]))])])]),.asg 30 (.lcomp [18,16] (vr 16) [(.mk (.tup [18,16]) (.enum (vr 4)) [(.andE [(.cmp .eq (.sub (vr 16) (li 0)) (lz [111,98,106,101,99,116])),(.cmp .gt (.sub (vr 16) (li 1)) (li 0)),(.cmp .eq (.sub (vr 29) (.sub (vr 16) (li 1))) (vr 18))])])]),.asg 31 (.lcomp [16] (vr 16) [(.mk (.one 16) (.ex (vr 30)) [(.andE [(.isi (.sub (vr 16) (li 3)) .dict),(.cmp .eq (.callF 5 [(.sub (vr 16) (li 3))]) (lz [67,97,116,97,108,111,103]))])])]),.ite (.cmp .ne (vr 31) (.lstE [])) [.asgS (vr 19) (lz [82,111,111,116]) (.callC 2 [(.sub (.sub (vr 31) (li (-1))) (li 1)),(.sub (.sub (vr 31) (li (-1))) (li 2))])] []] [],
  .asg 32 (.lcomp [7] (.tupE [(vr 7),(.sub (.sub (vr 27) (vr 7)) (li 0)),(.callF 19 [(.sub (.sub (vr 27) (vr 7)) (li 1))])]) [(.mk (.one 7) (.ex (.callB .sorted [(vr 27)])) [])]),
  .asg 33 (.lcomp [7] (vr 7) [(.mk (.one 7) (.ex (vr 27)) [(.notE (.andE [(.isi (.sub (.sub (vr 27) (vr 7)) (li 1)) (.cls 1)),(.cmp .inn (.callF 5 [(.sub (.sub (vr 27) (vr 7)) (li 1))]) (.tupE [(lz [88,82,101,102]),(lz [79,98,106,83,116,109])]))]))])]),
  .ret (.tupE [(.callB .tuple [(.lcomp [16] (vr 16) [(.mk (.one 16) (.ex (vr 32)) [(.cmp .inn (.sub (vr 16) (li 0)) (vr 33))])])]),(.callF 19 [(vr 19)])])]⟩
noncomputable def fn7:Fn:=⟨[4],[],[
  .asg 22 (.callC 5 []),
  .fr (.tup [18,16]) (.enum (vr 4)) [.ite (.cmp .eq (.sub (vr 16) (li 0)) (lz [111,98,106,101,99,116])) [.ex (.callBM (.attr (vr 22) 11) .append [(.callC 3 [(.sub (vr 16) (li 1)),(.sub (vr 16) (li 2)),(vr 18),(.bin .add (vr 18) (li 1)),(.sub (vr 16) (li 3))])])] [.ex (.callBM (.attr (vr 22) 17) .append [(.tupE [(vr 18),(.sub (vr 16) (li 3))])])]],
  .ret (vr 22)]⟩
noncomputable def fn8:Fn:=⟨[34,35,11],[],[
  .asg 36 (.callC 6 [(.callF 9 [(vr 11)]),(.callF 10 [(.callF 11 [(vr 34),(vr 35)])])]),
  .ite (.cmp .eq (.callM (vr 36) 28 []) (.dctE [] [])) [.asg 28 (.callF 14 [(vr 36),(vr 11)]),.ite (.cmp .notIsn (vr 28) (.lit .none)) [.asgS (.attr (vr 36) 19) (lz [82,111,111,116]) (vr 28)] []] [],
  .ex (.callF 16 [(vr 36)]),
  .ret (vr 36)]⟩
noncomputable def fn9:Fn:=⟨[11],[],[
  .asg 37 (.dctE [] []),
  .fr (.one 14) (.ex (vr 11)) [.ite (.cmp .gt (.attr (vr 14) 7) (li 0)) [.asgS (vr 37) (.attr (vr 14) 7) (.tupE [(.attr (vr 14) 8),(.attr (vr 14) 15)])] []],
  .ret (vr 37)]⟩
noncomputable def lU0:Fn:=⟨[17],[],[
  .asg 13 (.dctE [] []),
  .fr (.one 19) (.ex (vr 17)) [.fr (.one 26) (.ex (vr 19)) [.ite (.cmp .notIn (vr 26) (.gv 13)) [.asgS (vr 13) (vr 26) (.sub (vr 19) (vr 26))] []]],
  .ret (vr 13)]⟩
noncomputable def lT9:Fn:=⟨[36,35],[],[
  .asg 13 (.callB .list [(.attr (vr 35) 17)]),
  .fr (.one 14) (.ex (.attr (vr 35) 11)) [.ite (.callF 12 [(vr 36),(.attr (vr 14) 15)]) [.ex (.callBM (vr 13) .append [(.tupE [(.attr (vr 14) 38),(.callF 13 [(.attr (.attr (vr 14) 15) 23)])])])] []],
  .asg 29 (.callB .sorted [(.lcomp [18,19] (vr 18) [(.mk (.tup [18,19]) (.ex (vr 13)) [])])]),
  .ret (.lcomp [39,18,19] (vr 19) [(.mk (.one 39) (.ex (vr 29)) []),(.mk (.tup [18,19]) (.ex (vr 13)) [(.cmp .eq (vr 18) (vr 39))])])]⟩
noncomputable def lT8:Fn:=⟨[36,15],[],[
  .ite (.notE (.isi (vr 15) (.cls 1))) [.ret (.lit (.bool false))] [],
  .asg 40 (.callM (vr 36) 41 [(.attr (vr 15) 23),(lz [84,121,112,101])]),
  .ret (.andE [(.isi (vr 40) (.cls 0)),(.cmp .eq (.attr (vr 40) 24) (lz [88,82,101,102]))])]⟩
noncomputable def lT7:Fn:=⟨[23],[],[
  .asg 13 (.dctE [] []),
  .fr (.one 26) (.ex (vr 23)) [.ite (.cmp .notIn (vr 26) (.gv 14)) [.asgS (vr 13) (vr 26) (.sub (vr 23) (vr 26))] []],
  .ret (vr 13)]⟩
noncomputable def fn14:Fn:=⟨[36,11],[],[
  .asg 42 (.dctE [] []),
  .fr (.one 14) (.rev (vr 11)) [.ite (.andE [(.cmp .inn (.attr (vr 14) 7) (.attr (vr 36) 37)),(.cmp .notIn (.attr (vr 14) 7) (vr 42))]) [.asgS (vr 42) (.attr (vr 14) 7) (.lit (.bool true)),.ite (.andE [(.isi (.attr (vr 14) 15) .dict),(.callF 15 [(vr 36),(.attr (vr 14) 15),(lz [67,97,116,97,108,111,103])])]) [.ret (.callC 2 [(.attr (vr 14) 7),(.attr (vr 14) 8)])] []] []],
  .ret (.lit .none)]⟩
noncomputable def lT6:Fn:=⟨[36,23,43],[],[
  .asg 40 (.callM (vr 36) 41 [(vr 23),(lz [84,121,112,101])]),
  .ret (.andE [(.isi (vr 40) (.cls 0)),(.cmp .eq (.attr (vr 40) 24) (vr 43))])]⟩
noncomputable def lT5:Fn:=⟨[36],[],[
  .fr (.one 7) (.ex (.callM (vr 36) 44 [])) [.asg 15 (.sub (.sub (.attr (vr 36) 37) (vr 7)) (li 1)),.ite (.orE [(.callF 17 [(vr 36),(vr 15)]),(.callF 12 [(vr 36),(vr 15)])]) [.ex (.callM (vr 36) 45 [(vr 7)])] []]]⟩
noncomputable def lT4:Fn:=⟨[36,15],[],[
  .ite (.cmp .ne (.callF 20 [(vr 15)]) (lz [115,116,114,101,97,109])) [.ret (.lit (.bool false))] [],
  .asg 43 (.callM (vr 36) 41 [(.attr (vr 15) 23),(lz [84,121,112,101])]),
  .ret (.andE [(.cmp .eq (.callF 20 [(vr 43)]) (lz [110,97,109,101])),(.cmp .eq (.attr (vr 43) 24) (lz [79,98,106,83,116,109]))])]⟩
noncomputable def lT3:Fn:=⟨[40,15],[],[
  .ite (.cmp .eq (vr 40) (lz [110,117,108,108])) [.ret (.tupE [(lz [110,117,108,108])])] [],
  .ite (.cmp .eq (vr 40) (lz [116,114,117,116,104])) [.ret (.tupE [(lz [116,114,117,116,104]),(.ite (vr 15) (li 1) (li 0))])] [],
  .ite (.cmp .eq (vr 40) (lz [105,110,116])) [.ret (.tupE [(lz [105,110,116]),(vr 15)])] [],
  .ite (.cmp .eq (vr 40) (lz [114,101,97,108])) [.ret (.tupE [(lz [114,101,97,108]),(.attr (vr 15) 46),(.attr (vr 15) 29)])] [],
  .ite (.cmp .eq (vr 40) (lz [110,97,109,101])) [.ret (.tupE [(lz [110,97,109,101]),(.attr (vr 15) 24)])] [],
  .ite (.cmp .eq (vr 40) (lz [115,116,114,105,110,103])) [.ret (.tupE [(lz [115,116,114,105,110,103]),(.callB .bytes [(.attr (vr 15) 47)])])] [],
  .ret (.tupE [(lz [114,101,102]),(.attr (vr 15) 7),(.attr (vr 15) 8)])]⟩
noncomputable def lT2:Fn:=⟨[15],[],[
  .asg 40 (.callF 20 [(vr 15)]),
  .ite (.cmp .eq (vr 40) (lz [97,114,114,97,121])) [.ret (.bin .add (.tupE [(lz [97,114,114,97,121])]) (.callB .tuple [(.lcomp [48] (.callF 19 [(vr 48)]) [(.mk (.one 48) (.ex (vr 15)) [])])]))] [],
  .ite (.cmp .eq (vr 40) (lz [100,105,99,116])) [.ret (.bin .add (.tupE [(lz [100,105,99,116])]) (.callB .tuple [(.lcomp [26] (.tupE [(vr 26),(.callF 19 [(.sub (vr 15) (vr 26))])]) [(.mk (.one 26) (.ex (.callB .sorted [(vr 15)])) [(.cmp .notIsn (.sub (vr 15) (vr 26)) (.lit .none))])])]))] [],
  .ite (.cmp .eq (vr 40) (lz [115,116,114,101,97,109])) [.ret (.tupE [(lz [115,116,114,101,97,109]),(.callF 19 [(.attr (vr 15) 23)]),(.callB .bytes [(.attr (vr 15) 47)])])] [],
  .ret (.callF 18 [(vr 40),(vr 15)])]⟩
noncomputable def lT1:Fn:=⟨[15],[],[
  .ite (.cmp .isn (vr 15) (.lit .none)) [.ret (lz [110,117,108,108])] [],
  .ite (.isi (vr 15) .bool) [.ret (lz [116,114,117,116,104])] [],
  .ite (.isi (vr 15) .int) [.ret (lz [105,110,116])] [],
  .ite (.isi (vr 15) (.cls 8)) [.ret (lz [114,101,97,108])] [],
  .ite (.isi (vr 15) (.cls 0)) [.ret (lz [110,97,109,101])] [],
  .ite (.isi (vr 15) (.cls 9)) [.ret (lz [115,116,114,105,110,103])] [],
  .ite (.isi (vr 15) .list) [.ret (lz [97,114,114,97,121])] [],
  .ite (.isi (vr 15) .dict) [.ret (lz [100,105,99,116])] [],
  .ite (.isi (vr 15) (.cls 1)) [.ret (lz [115,116,114,101,97,109])] [],
  .ite (.isi (vr 15) (.cls 2)) [.ret (lz [114,101,102])] [],
  .dead]⟩
noncomputable def lT0:Fn:=⟨[49,36],[],[
  .asg 35 (.callC 5 []),
  .asg 50 (.callC 4 [(vr 49)]),
  .ex (.callM (vr 50) 51 []),
  .whl (.notE (.callM (vr 50) 52 [])) [.ite (.andE [(.callF 22 [(.callM (vr 50) 53 [])]),(.cmp .ge (.callF 24 [(vr 50)]) (li 0))]) [.ex (.callF 25 [(vr 50),(vr 36),(vr 35)])] [.ex (.callF 44 [(vr 50),(vr 35)])],.ex (.callM (vr 50) 51 [])],
  .ret (vr 35)]⟩
noncomputable def lS9:Fn:=⟨[54],[],[
  .ret (.chain .le .le (li 48) (vr 54) (li 57))]⟩
noncomputable def lS8:Fn:=⟨[54],[],[
  .ret (.andE [(.cmp .ge (vr 54) (li 0)),(.cmp .notIn (vr 54) (.gv 21)),(.cmp .notIn (vr 54) (.gv 3))])]⟩
noncomputable def lS7:Fn:=⟨[50],[],[
  .asg 55 (.callC 4 [(.attr (vr 50) 49),(.attr (vr 50) 18),(.attr (vr 50) 56)]),
  .fr (.one 6) (.range [(li 2)]) [.ite (.orE [(.cmp .isn (.callM (vr 55) 7 []) (.lit .none)),(.callF 23 [(.callM (vr 55) 53 [])])]) [.ret (li (-1))] [],.ex (.callM (vr 55) 51 [])],
  .ret (.ite (.cmp .eq (.callM (vr 55) 57 []) (lb [111,98,106])) (.attr (vr 55) 18) (li (-1)))]⟩
noncomputable def lS6:Fn:=⟨[50,36,35],[],[
  .asg 38 (.attr (vr 50) 18),
  .asg 58 (.callF 24 [(vr 50)]),
  .tr [.asgT [7,8,15] (.callF 26 [(vr 50),(vr 36)])],
  .ex (.callBM (.attr (vr 35) 11) .append [(.callC 3 [(vr 7),(vr 8),(vr 38),(.attr (vr 50) 18),(vr 15)])])]⟩
noncomputable def lS5:Fn:=⟨[50,36],[.none],[
  .asg 7 (.callF 27 [(vr 50)]),
  .asg 8 (.callF 27 [(vr 50)]),
  .asgT [40,59,18] (.callF 28 [(vr 50)]),
  .ite (.orE [(.cmp .ne (vr 40) (lz [119,111,114,100])),(.cmp .ne (vr 59) (lb [111,98,106]))]) [.dead] [],
  .asg 15 (.callF 33 [(vr 50)]),
  .ite (.andE [(.isi (vr 15) .dict),(.callF 41 [(vr 50),(lb [115,116,114,101,97,109])])]) [.asg 15 (.callF 42 [(vr 50),(vr 15),(vr 36)])] [],
  .ex (.callF 41 [(vr 50),(lb [101,110,100,111,98,106])]),
  .ret (.tupE [(vr 7),(vr 8),(vr 15)])]⟩
noncomputable def lS4:Fn:=⟨[50],[],[
  .asgT [40,59,18] (.callF 28 [(vr 50)]),
  .ite (.orE [(.cmp .ne (vr 40) (lz [105,110,116])),(.cmp .lt (vr 59) (li 0))]) [.dead] [],
  .ret (vr 59)]⟩
noncomputable def lS3:Fn:=⟨[50],[],[
  .ex (.callM (vr 50) 51 []),
  .asg 18 (.attr (vr 50) 18),
  .asg 54 (.callM (vr 50) 53 []),
  .ite (.cmp .eq (vr 54) (li (-1))) [.ret (.tupE [(lz [101,110,100]),(lb []),(vr 18)])] [],
  .ite (.orE [(.cmp .eq (vr 54) (.gv 20)),(.cmp .eq (vr 54) (.gv 15)),(.cmp .eq (vr 54) (.gv 1)),(.cmp .eq (vr 54) (.gv 6)),(.cmp .eq (vr 54) (.gv 4)),(.cmp .inn (vr 54) (.gv 19))]) [.ret (.callF 29 [(vr 50),(vr 54),(vr 18)])] [],
  .ret (.callF 31 [(vr 50),(vr 18)])]⟩
noncomputable def lS2:Fn:=⟨[50,54,18],[],[
  .ite (.cmp .eq (vr 54) (.gv 20)) [.ex (.callM (vr 50) 60 []),.ret (.tupE [(lz [110,97,109,101]),(.callF 30 [(.callM (vr 50) 57 []),(vr 18)]),(vr 18)])] [],
  .ite (.cmp .eq (vr 54) (.gv 15)) [.ex (.callM (vr 50) 60 []),.dead] [],
  .ite (.callM (vr 50) 61 [(lb [60,60])]) [.ret (.tupE [(lz [115,105,103,110]),(lb [60,60]),(vr 18)])] [],
  .ite (.callM (vr 50) 61 [(lb [62,62])]) [.ret (.tupE [(lz [115,105,103,110]),(lb [62,62]),(vr 18)])] [],
  .ite (.cmp .eq (vr 54) (.gv 6)) [.ex (.callM (vr 50) 60 []),.dead] [],
  .ite (.cmp .inn (vr 54) (.gv 19)) [.ex (.callM (vr 50) 60 []),.ret (.tupE [(lz [115,105,103,110]),(.callB .bytes [(.lstE [(vr 54)])]),(vr 18)])] [],
  .dead]⟩
noncomputable def lS1:Fn:=⟨[47,18],[(.int (-1))],[
  .asg 62 (.lstE []),
  .asg 39 (li 0),
  .whl (.cmp .lt (vr 39) (.callB .len [(vr 47)])) [.asg 54 (.sub (vr 47) (vr 39)),.asg 39 (.bin .add (vr 39) (li 1)),.ite (.andE [(.cmp .eq (vr 54) (.gv 5)),(.cmp .lt (.bin .add (vr 39) (li 1)) (.callB .len [(vr 47)]))]) [.dead,.dead,.ite (.andE [(.cmp .ge (vr 63) (li 0)),(.cmp .ge (vr 64) (li 0))]) [.asg 54 (.bin .add (.bin .mul (li 16) (vr 63)) (vr 64)),.asg 39 (.bin .add (vr 39) (li 2))] []] [],.ite (.cmp .eq (vr 54) (li 0)) [.dead] [],.ex (.callBM (vr 62) .append [(.callB .chr [(vr 54)])])],
  .ret (.callBM (lz []) .strJoin [(vr 62)])]⟩
noncomputable def lS0:Fn:=⟨[50,18],[],[
  .asg 65 (.callM (vr 50) 57 []),
  .asg 7 (.callF 32 [(vr 65)]),
  .ite (.cmp .isn (vr 7) (.lit .none)) [.ret (.tupE [(lz [119,111,114,100]),(vr 65),(vr 18)])] [],
  .ite (.isi (vr 7) .int) [.ret (.tupE [(lz [105,110,116]),(vr 7),(vr 18)])] [],
  .ret (.tupE [(lz [114,101,97,108]),(vr 7),(vr 18)])]⟩
noncomputable def lR9:Fn:=⟨[47],[],[
  .asg 38 (li 0),
  .ite (.andE [(.cmp .gt (.callB .len [(vr 47)]) (li 0)),(.orE [(.cmp .eq (.sub (vr 47) (li 0)) (.gv 16)),(.cmp .eq (.sub (vr 47) (li 0)) (.gv 8))])]) [.asg 38 (li 1)] [],
  .asg 46 (li 0),
  .asg 66 (li 0),
  .asg 29 (li (-1)),
  .fr (.one 54) (.ex (.slc (vr 47) (vr 38) (.lit .none))) [.ite (.andE [(.cmp .eq (vr 54) (.gv 17)),(.cmp .lt (vr 29) (li 0))]) [.asg 29 (li 0)] [.ite (.chain .le .le (.gv 22) (vr 54) (.bin .add (.gv 22) (li 9))) [.asg 46 (.bin .sub (.bin .add (.bin .mul (li 10) (vr 46)) (vr 54)) (.gv 22)),.asg 66 (.bin .add (vr 66) (li 1)),.ite (.cmp .ge (vr 29) (li 0)) [.asg 29 (.bin .add (vr 29) (li 1))] []] [.ret (.lit .none)]]],
  .ite (.orE [(.cmp .eq (vr 66) (li 0)),(.cmp .gt (vr 66) (.gv 11))]) [.ret (.lit .none)] [],
  .ite (.cmp .eq (.sub (vr 47) (li 0)) (.gv 8)) [.dead] [],
  .ret (.ite (.cmp .lt (vr 29) (li 0)) (vr 46) (.callC 8 [(vr 46),(vr 29)]))]⟩
noncomputable def lR8:Fn:=⟨[50],[],[
  .ret (.callF 34 [(vr 50),(.callF 28 [(vr 50)])])]⟩
noncomputable def lR7:Fn:=⟨[50,67,68],[(.bool true)],[
  .asg 69 (.lstE []),
  .whl (.lit (.bool true)) [.asgT [40,59,18] (vr 67),.asg 70 (.andE [(.cmp .eq (vr 40) (lz [115,105,103,110])),(.cmp .inn (vr 59) (.tupE [(lb [91]),(lb [60,60])]))]),.ite (.andE [(.cmp .ne (vr 69) (.lstE [])),(.callM (.sub (vr 69) (li (-1))) 71 []),(.cmp .ne (vr 40) (lz [110,97,109,101])),(.notE (.callF 35 [(vr 67),(lb [62,62])]))]) [.dead] [],.ite (vr 70) [.ite (.cmp .eq (.callB .len [(vr 69)]) (.gv 9)) [.dead] [],.ex (.callBM (vr 69) .append [(.callC 7 [(vr 59)])])] [.ite (.andE [(.cmp .eq (vr 40) (lz [115,105,103,110])),(.cmp .inn (vr 59) (.tupE [(lb [93]),(lb [62,62])]))]) [.asg 15 (.callF 39 [(vr 69),(vr 59),(vr 18)])] [.asg 15 (.callF 36 [(vr 50),(vr 67),(vr 68)])],.ite (.cmp .eq (vr 69) (.lstE [])) [.ret (vr 15)] [],.ex (.callBM (.attr (.sub (vr 69) (li (-1))) 72) .append [(vr 15)])],.asg 67 (.callF 28 [(vr 50)])]]⟩
noncomputable def lR6:Fn:=⟨[67,73],[],[
  .ret (.andE [(.cmp .eq (.sub (vr 67) (li 0)) (lz [115,105,103,110])),(.cmp .eq (.sub (vr 67) (li 1)) (vr 73))])]⟩
noncomputable def lR5:Fn:=⟨[50,67,68],[],[
  .asgT [40,59,18] (vr 67),
  .ite (.andE [(.cmp .eq (vr 40) (lz [105,110,116])),(.cmp .ge (vr 59) (li 0)),(vr 68)]) [.ret (.callF 37 [(vr 50),(vr 59)])] [],
  .ite (.orE [(.cmp .eq (vr 40) (lz [105,110,116])),(.cmp .eq (vr 40) (lz [114,101,97,108]))]) [.ret (vr 59)] [],
  .ite (.cmp .eq (vr 40) (lz [110,97,109,101])) [.ret (.callC 0 [(vr 59)])] [],
  .ite (.cmp .eq (vr 40) (lz [115,116,114,105,110,103])) [.ret (.callC 9 [(vr 59)])] [],
  .ite (.cmp .eq (vr 40) (lz [104,101,120])) [.ret (.callC 9 [(vr 59),(.lit (.bool true))])] [],
  .ite (.cmp .eq (vr 40) (lz [119,111,114,100])) [.dead] [],
  .ite (.cmp .eq (vr 40) (lz [101,110,100])) [.dead] [],
  .dead]⟩
noncomputable def lR4:Fn:=⟨[50,7],[],[
  .asg 55 (.callC 4 [(.attr (vr 50) 49),(.attr (vr 50) 18),(.attr (vr 50) 56)]),
  .ex (.callM (vr 55) 51 []),
  .asg 8 (.callF 32 [(.callM (vr 55) 57 [])]),
  .ex (.callM (vr 55) 51 []),
  .ite (.orE [(.notE (.callF 38 [(vr 8)])),(.cmp .ne (.callM (vr 55) 57 []) (lb [82]))]) [.ret (vr 7)] [],
  .asgA (vr 50) 18 (.attr (vr 55) 18),
  .ret (.callC 2 [(vr 7),(vr 8)])]⟩
noncomputable def lR3:Fn:=⟨[15],[],[
  .ret (.andE [(.isi (vr 15) .int),(.notE (.isi (vr 15) .bool)),(.cmp .ge (vr 15) (li 0))])]⟩
noncomputable def lR2:Fn:=⟨[69,59,18],[],[
  .asg 74 (.ite (.cmp .eq (vr 59) (lb [93])) (lb [91]) (lb [60,60])),
  .ite (.orE [(.cmp .eq (vr 69) (.lstE [])),(.cmp .ne (.attr (.sub (vr 69) (li (-1))) 75) (vr 74))]) [.dead] [],
  .asg 76 (.callBM (vr 69) .pop0 []),
  .ite (.cmp .eq (vr 74) (lb [91])) [.ret (.attr (vr 76) 72)] [],
  .ite (.notE (.callM (vr 76) 71 [])) [.dead] [],
  .ret (.callF 40 [(.attr (vr 76) 72)])]⟩
noncomputable def lR1:Fn:=⟨[72],[],[
  .asg 13 (.dctE [] []),
  .fr (.one 21) (.range [(li 0),(.callB .len [(vr 72)]),(li 2)]) [.asgS (vr 13) (.attr (.sub (vr 72) (vr 21)) 24) (.sub (vr 72) (.bin .add (vr 21) (li 1)))],
  .ret (.dcomp [26] (vr 26) (.sub (vr 13) (vr 26)) (.mk (.one 26) (.ex (vr 13)) [(.cmp .notIsn (.sub (vr 13) (vr 26)) (.lit .none))]))]⟩
noncomputable def lR0:Fn:=⟨[50,43],[],[
  .asg 55 (.callC 4 [(.attr (vr 50) 49),(.attr (vr 50) 18),(.attr (vr 50) 56)]),
  .ex (.callM (vr 55) 51 []),
  .ite (.orE [(.notE (.callM (vr 55) 61 [(vr 43)])),(.callF 23 [(.callM (vr 55) 53 [])])]) [.ret (.lit (.bool false))] [],
  .asgA (vr 50) 18 (.attr (vr 55) 18),
  .ret (.lit (.bool true))]⟩
noncomputable def lQ9:Fn:=⟨[50,23,36],[.none],[
  .ex (.callM (vr 50) 77 []),
  .asg 38 (.attr (vr 50) 18),
  .asg 78 (.callF 43 [(vr 23),(vr 36)]),
  .ite (.andE [(.cmp .notIsn (vr 78) (.lit .none)),(.cmp .le (.bin .add (vr 38) (vr 78)) (.attr (vr 50) 56))]) [.asg 55 (.callC 4 [(.attr (vr 50) 49),(.bin .add (vr 38) (vr 78)),(.attr (vr 50) 56)]),.ex (.callM (vr 55) 77 []),.ite (.callM (vr 55) 61 [(lb [101,110,100,115,116,114,101,97,109])]) [.asgA (vr 50) 18 (.attr (vr 55) 18),.ret (.callC 1 [(vr 23),(.slc (.attr (vr 50) 49) (vr 38) (.bin .add (vr 38) (vr 78)))])] []] [],
  .dead,
  .ite (.cmp .lt (vr 56) (li 0)) [.dead] [],
  .asgA (vr 50) 18 (.bin .add (vr 56) (.callB .len [(lb [101,110,100,115,116,114,101,97,109])])),
  .dead]⟩
noncomputable def lQ8:Fn:=⟨[23,36],[],[
  .asg 15 (.callBM (vr 23) .get1 [(lz [76,101,110,103,116,104])]),
  .ite (.cmp .notIsn (vr 36) (.lit .none)) [.asg 15 (.callM (vr 36) 79 [(vr 15)])] [],
  .ret (.ite (.callF 38 [(vr 15)]) (vr 15) (.lit .none))]⟩
noncomputable def lQ7:Fn:=⟨[50,35],[],[
  .asg 38 (.attr (vr 50) 18),
  .tr [.asgT [40,59,18] (.callF 28 [(vr 50)])],
  .ite (.cmp .ne (vr 40) (lz [119,111,114,100])) [.ret (.lit .none)] [],
  .ite (.cmp .eq (vr 59) (lb [116,114,97,105,108,101,114])) [.ex (.callF 45 [(vr 50),(vr 18),(vr 35)])] [.ite (.cmp .eq (vr 59) (lb [115,116,114,101,97,109])) [.dead,.ite (.cmp .ge (vr 56) (li 0)) [.asgA (vr 50) 18 (.bin .add (vr 56) (.callB .len [(lb [101,110,100,115,116,114,101,97,109])]))] []] []]]⟩
noncomputable def lQ6:Fn:=⟨[50,18,35],[],[
  .asg 58 (.attr (vr 50) 18),
  .tr [.asg 15 (.callF 33 [(vr 50)])],
  .ite (.isi (vr 15) .dict) [.ex (.callBM (.attr (vr 35) 17) .append [(.tupE [(vr 18),(vr 15)])])] [.asgA (vr 50) 18 (vr 58)]]⟩
noncomputable def lQ5:Fn:=⟨[80,49,18,56],[(.int 0),(.int (-1))],[
  .asgA (vr 80) 49 (vr 49),
  .asgA (vr 80) 18 (vr 18),
  .asgA (vr 80) 56 (.ite (.cmp .lt (vr 56) (li 0)) (.callB .len [(vr 49)]) (.callB .min [(vr 56),(.callB .len [(vr 49)])]))]⟩
noncomputable def lQ4:Fn:=⟨[80],[],[
  .ret (.cmp .ge (.attr (vr 80) 18) (.attr (vr 80) 56))]⟩
noncomputable def lQ3:Fn:=⟨[80,81],[(.int 0)],[
  .asg 21 (.bin .add (.attr (vr 80) 18) (vr 81)),
  .ret (.ite (.cmp .lt (vr 21) (.attr (vr 80) 56)) (.sub (.attr (vr 80) 49) (vr 21)) (li (-1)))]⟩
noncomputable def lQ2:Fn:=⟨[80],[],[
  .ite (.cmp .ge (.attr (vr 80) 18) (.attr (vr 80) 56)) [.ret (li (-1))] [],
  .asg 54 (.sub (.attr (vr 80) 49) (.attr (vr 80) 18)),
  .asgA (vr 80) 18 (.bin .add (.attr (vr 80) 18) (li 1)),
  .ret (vr 54)]⟩
noncomputable def lQ1:Fn:=⟨[80,43],[],[
  .ret (.andE [(.cmp .le (.bin .add (.attr (vr 80) 18) (.callB .len [(vr 43)])) (.attr (vr 80) 56)),(.cmp .eq (.slc (.attr (vr 80) 49) (.attr (vr 80) 18) (.bin .add (.attr (vr 80) 18) (.callB .len [(vr 43)]))) (vr 43))])]⟩
noncomputable def lQ0:Fn:=⟨[80,43],[],[
  .ite (.notE (.callM (vr 80) 82 [(vr 43)])) [.ret (.lit (.bool false))] [],
  .asgA (vr 80) 18 (.bin .add (.attr (vr 80) 18) (.callB .len [(vr 43)])),
  .ret (.lit (.bool true))]⟩
noncomputable def lP9:Fn:=⟨[80],[],[
  .whl (.cmp .lt (.attr (vr 80) 18) (.attr (vr 80) 56)) [.asg 54 (.sub (.attr (vr 80) 49) (.attr (vr 80) 18)),.ite (.cmp .eq (vr 54) (.gv 2)) [.whl (.andE [(.cmp .lt (.attr (vr 80) 18) (.attr (vr 80) 56)),(.cmp .notIn (.sub (.attr (vr 80) 49) (.attr (vr 80) 18)) (.tupE [(.gv 7),(.gv 18)]))]) [.asgA (vr 80) 18 (.bin .add (.attr (vr 80) 18) (li 1))]] [.ite (.cmp .inn (vr 54) (.gv 21)) [.asgA (vr 80) 18 (.bin .add (.attr (vr 80) 18) (li 1))] [.ret (.lit .none)]]]]⟩
noncomputable def lP8:Fn:=⟨[80],[],[
  .asg 83 (.attr (vr 80) 18),
  .whl (.andE [(.cmp .lt (.attr (vr 80) 18) (.attr (vr 80) 56)),(.callF 23 [(.sub (.attr (vr 80) 49) (.attr (vr 80) 18))])]) [.asgA (vr 80) 18 (.bin .add (.attr (vr 80) 18) (li 1))],
  .ret (.slc (.attr (vr 80) 49) (vr 83) (.attr (vr 80) 18))]⟩
noncomputable def lP7:Fn:=⟨[80],[],[
  .ite (.cmp .eq (.callM (vr 80) 53 []) (.gv 18)) [.asgA (vr 80) 18 (.bin .add (.attr (vr 80) 18) (li 1)),.ite (.cmp .eq (.callM (vr 80) 53 []) (.gv 7)) [.asgA (vr 80) 18 (.bin .add (.attr (vr 80) 18) (li 1))] [],.ret (.lit (.bool true))] [],
  .ite (.cmp .eq (.callM (vr 80) 53 []) (.gv 7)) [.asgA (vr 80) 18 (.bin .add (.attr (vr 80) 18) (li 1)),.ret (.lit (.bool true))] [],
  .ret (.lit (.bool false))]⟩
noncomputable def lP6:Fn:=⟨[80],[],[
  .asg 83 (.attr (vr 80) 18),
  .asg 7 (li 0),
  .whl (.callF 22 [(.callM (vr 80) 53 [])]) [.asg 7 (.bin .sub (.bin .add (.bin .mul (vr 7) (li 10)) (.callM (vr 80) 60 [])) (li 48))],
  .ite (.orE [(.cmp .eq (.attr (vr 80) 18) (vr 83)),(.cmp .gt (.bin .sub (.attr (vr 80) 18) (vr 83)) (.gv 10))]) [.asgA (vr 80) 18 (vr 83),.ret (.lit .none)] [],
  .ret (vr 7)]⟩
noncomputable def lP5:Fn:=⟨[80,24],[],[
  .asgA (vr 80) 24 (vr 24)]⟩
noncomputable def lP4:Fn:=⟨[80,23,47],[],[
  .asgA (vr 80) 23 (vr 23),
  .asgA (vr 80) 47 (vr 47)]⟩
noncomputable def lP3:Fn:=⟨[80,7,8],[],[
  .asgA (vr 80) 7 (vr 7),
  .asgA (vr 80) 8 (vr 8)]⟩
noncomputable def lP2:Fn:=⟨[80,7,8,38,56,15],[],[
  .asgA (vr 80) 7 (vr 7),
  .asgA (vr 80) 8 (vr 8),
  .asgA (vr 80) 38 (vr 38),
  .asgA (vr 80) 56 (vr 56),
  .asgA (vr 80) 15 (vr 15)]⟩
noncomputable def lP1:Fn:=⟨[80],[],[
  .asgA (vr 80) 11 (.lstE []),
  .asgA (vr 80) 17 (.lstE [])]⟩
noncomputable def lP0:Fn:=⟨[80,37,19],[.none,.none],[
  .asgA (vr 80) 37 (.ite (.cmp .isn (vr 37) (.lit .none)) (.dctE [] []) (vr 37)),
  .asgA (vr 80) 19 (.ite (.cmp .isn (vr 19) (.lit .none)) (.dctE [] []) (vr 19))]⟩
noncomputable def lO9:Fn:=⟨[80,15],[],[
  .asg 84 (vr 15),
  .fr (.one 85) (.range [(.gv 12)]) [.ite (.notE (.isi (vr 84) (.cls 2))) [.ret (vr 84)] [],.asgT [8,13] (.callBM (.attr (vr 80) 37) .get2 [(.attr (vr 84) 7),(.tupE [(li (-1)),(.lit .none)])]),.ite (.cmp .ne (vr 8) (.attr (vr 84) 8)) [.ret (.lit .none)] [],.asg 84 (vr 13)],
  .ret (.ite (.isi (vr 84) (.cls 2)) (.lit .none) (vr 84))]⟩
noncomputable def lO8:Fn:=⟨[80,23,26],[],[
  .ret (.callM (vr 80) 79 [(.callBM (vr 23) .get1 [(vr 26)])])]⟩
noncomputable def lO7:Fn:=⟨[80,7],[],[
  .ite (.cmp .inn (vr 7) (.attr (vr 80) 37)) [.ex (.callBM (.attr (vr 80) 37) .pop1 [(vr 7)])] []]⟩
noncomputable def lO6:Fn:=⟨[80],[],[
  .ret (.callB .sorted [(.attr (vr 80) 37)])]⟩
noncomputable def lO5:Fn:=⟨[80],[],[
  .asg 13 (.callM (vr 80) 41 [(.attr (vr 80) 19),(lz [82,111,111,116])]),
  .ret (.ite (.isi (vr 13) .dict) (vr 13) (.dctE [] []))]⟩
noncomputable def lO4:Fn:=⟨[80],[],[
  .asg 4 (.callB .tuple [(.lcomp [7] (.tupE [(vr 7),(.sub (.sub (.attr (vr 80) 37) (vr 7)) (li 0)),(.callF 19 [(.sub (.sub (.attr (vr 80) 37) (vr 7)) (li 1))])]) [(.mk (.one 7) (.ex (.callM (vr 80) 44 [])) [])])]),
  .ret (.tupE [(vr 4),(.callF 19 [(.attr (vr 80) 19)])])]⟩
noncomputable def lO3:Fn:=⟨[80,75],[],[
  .asgA (vr 80) 75 (vr 75),
  .asgA (vr 80) 72 (.lstE [])]⟩
noncomputable def lO2:Fn:=⟨[80],[],[
  .ret (.andE [(.cmp .eq (.attr (vr 80) 75) (lb [60,60])),(.cmp .eq (.bin .mod (.callB .len [(.attr (vr 80) 72)]) (li 2)) (li 0))])]⟩
noncomputable def prog:Txt:=⟨lK2,[fn0,fn1,fn2,fn3,fn4,fn5,fn6,fn7,fn8,fn9,lU0,lT9,lT8,lT7,fn14,lT6,lT5,lT4,lT3,lT2,lT1,lT0,lS9,lS8,lS7,lS6,lS5,lS4,lS3,lS2,lS1,lS0,lR9,lR8,lR7,lR6,lR5,lR4,lR3,lR2,lR1,lR0,lQ9,lQ8,lQ7,lQ6,lQ5,lQ4,lQ3,lQ2,lQ1,lQ0,lP9,lP8,lP7,lP6,lP5,lP4,lP3,lP2,lP1,lP0,lO9,lO8,lO7,lO6,lO5,lO4,lO3,lO2],
 [[(86,56)],[(86,57)],[(86,58)],[(86,59)],[(86,46),(52,47),(53,48),(60,49),(82,50),(61,51),(51,52),(57,53),(77,54),(7,55)],[(86,60)],[(86,61),(79,62),(41,63),(45,64),(44,65),(28,66),(12,67)],[(86,68),(71,69)],[],[]],
 [(.int 92),(.int 41),(.int 37),(.tup [(.int 40),(.int 41),(.int 60),(.int 62),(.int 91),(.int 93),(.int 123),(.int 125),(.int 47),(.int 37)]),(.int 62),(.int 35),(.int 60),(.int 10),(.int 45),(.int 40),(.int 20),(.int 40),(.int 30),(.tup [(.str [83,105,122,101]),(.str [80,114,101,118]),(.str [88,82,101,102,83,116,109])]),(.tup [(.str [76,101,110,103,116,104]),(.str [70,105,108,116,101,114]),(.str [68,101,99,111,100,101,80,97,114,109,115]),(.str [87]),(.str [73,110,100,101,120]),(.str [84,121,112,101])]),(.int 40),(.int 43),(.int 46),(.int 13),(.tup [(.int 91),(.int 93),(.int 123),(.int 125)]),(.int 47),(.tup [(.int 0),(.int 9),(.int 10),(.int 12),(.int 13),(.int 32)]),(.int 48)],86,[[24],[23,47],[7,8],[7,8,38,56,15],[49,18,56],[11,17],[37,19],[75,72],[46,29],[47,87]]⟩
noncomputable def law(f:Nat)(l:List Int):Option V:=(gA4 prog f 0 [.lst (l.map .int)] ⟨λ_=>none,0⟩).map (·.1)
end
section
structure Hm where
 rho:Nat->Nat
 tau:Int->Int
 byt:List Nat->List Nat
 inj:∀a b,rho a=rho b->a=b
section
variable(H:Hm)
mutual
noncomputable def th:V->V
 | .none=> .none
 | .bool b=> .bool b
 | .int i=> .int (H.tau i)
 | .str l=> .str l
 | .bytes l=> .bytes (H.byt l)
 | .tup l=> .tup (ths l)
 | .lst l=> .lst (ths l)
 | .dct ks vs=> .dct (ths ks) (ths vs)
 | .ob c ns vs=> .ob c ns (ths vs)
 | .loc k=> .loc (H.rho k)
noncomputable def ths:List V->List V
 | []=> []
 |v::r=>th v::ths r
end
noncomputable def tho:O->O
 | .lst l=> .lst (ths H l)
 | .dct ks vs=> .dct (ths H ks) (ths H vs)
 | .ins c ns vs=> .ins c ns (ths H vs)
 | .frz v=> .frz (th H v)
structure Rl(S R:St):Prop where
 at_:∀k o,S.h k=some o->R.h (H.rho k)=some (tho H o)
 new:∀j,H.rho (S.n+j)=R.n+j
 frn:∀k v,S.h k=none->R.h (H.rho k)≠some (.frz v)
 emp:∀j,R.n<=j->R.h j=none
structure Sp(S R S' R':St):Prop where
 rl:Rl H S' R'
 le:S.n<=S'.n
 no:∀k,k<S.n->S.h k=none->S'.h k=none
 fr:∀j,(∀k,H.rho k=j->k<S.n/\S.h k=none)->R'.h j=R.h j
end
section
variable{H:Hm}{S S' S₁ SA R R' RA RB:St}
theorem gD5:∀l:List V,ths H l=l.map (th H)
 | []=>rfl
 |v::r=>congrArg (th H v:: ·) (gD5 r)
theorem gF3(l:List V):(ths H l).length=l.length:=by rw[gD5,List.length_map]
theorem hF0(a b:List V):ths H (a++b)=ths H a++ths H b:=by rw[gD5,gD5,gD5,List.map_append]
theorem Sp.refl(r:Rl H S R):Sp H S R S R:=⟨r,Nat.le_refl _,λδ δ e=>e,λδ δ=>rfl⟩
theorem Sp.trans(a:Sp H S R S₁ RA)(b:Sp H S₁ RA SA RB):Sp H S R SA RB:=⟨b.rl,Nat.le_trans a.le b.le,λk l e=>b.no k (Nat.lt_of_lt_of_le l a.le) (a.no k l e),λj q=>(b.fr j λk e=>⟨Nat.lt_of_lt_of_le (q k e).1 a.le,a.no k (q k e).1 (q k e).2⟩).trans (a.fr j q)⟩
theorem Rl.lt(r:Rl H S R){k:Nat}{o:O}(e:S.h k=some o):H.rho k<R.n:=by
 rcases Nat.lt_or_ge (H.rho k) R.n with q|q
 ·exact q
 ·have:=r.at_ k o e;rw[r.emp _ q]at this;cases this
theorem Rl.upd(r:Rl H S R){k:Nat}{o0 o:O}(e:S.h k=some o0):Sp H S R (S.upd k o) (R.upd (H.rho k) (tho H o)):=by
 refine⟨⟨λj o' q=> ?_,r.new,λj v q=> ?_,λj q=> ?_⟩,Nat.le_refl _,λj l q=> ?_,λj q=> ?_⟩
 ·show(if H.rho j=H.rho k then some (tho H o)else R.h (H.rho j))=_
  by_cases z:j=k
  ·subst z;rw[if_pos rfl];have q:(if j=j then some o else S.h j)=some o':=q;rw[if_pos rfl]at q;cases q;rfl
  ·have q:(if j=k then some o else S.h j)=some o':=q;rw[if_neg z]at q;rw[if_neg λw=>z (H.inj _ _ w)];exact r.at_ _ _ q
 ·have q:(if j=k then some o else S.h j)=none:=q;show(if H.rho j=H.rho k then some (tho H o)else R.h (H.rho j))≠_
  by_cases z:j=k
  ·rw[if_pos z]at q;cases q
  ·rw[if_neg z]at q;rw[if_neg λw=>z (H.inj _ _ w)];exact r.frn _ _ q
 ·show(if j=H.rho k then some (tho H o)else R.h j)=none;rw[if_neg (by have:=r.lt e;have q:R.n<=j:=q;(exact jW2 (Nat.lt_of_lt_of_le this q)))];exact r.emp _ q
 ·show(if j=k then some o else S.h j)=none;rw[if_neg (by rintro rfl;rw[e]at q;cases q)];exact q
 ·show(if j=H.rho k then some (tho H o)else R.h j)=R.h j;rw[if_neg];rintro rfl;have:=(q k rfl).2;rw[e]at this;cases this
theorem Rl.mk_new(r:Rl H S R)(o:O):Sp H S R (S.new o) (R.new (tho H o)):=by
 have rn:H.rho S.n=R.n:=r.new 0;refine⟨⟨λj o' q=> ?_,λj=> ?_,λj v q=> ?_,λj q=> ?_⟩,Nat.le_succ _,λj l q=> ?_,λj q=> ?_⟩
 ·have q:(if j=S.n then some o else S.h j)=some o':=q;show(if H.rho j=R.n then some (tho H o)else R.h (H.rho j))=_
  by_cases z:j=S.n
  ·rw[if_pos z]at q;cases q;rw[z,if_pos rn]
  ·rw[if_neg z]at q;rw[if_neg λw=>z (H.inj _ _ (w.trans rn.symm))];exact r.at_ _ _ q
 ·show H.rho (S.n+1+j)=R.n+1+j;rw[Nat.add_assoc,Nat.add_assoc];exact r.new _
 ·have q:(if j=S.n then some o else S.h j)=none:=q;show(if H.rho j=R.n then some (tho H o)else R.h (H.rho j))≠_
  by_cases z:j=S.n
  ·rw[if_pos z]at q;cases q
  ·rw[if_neg z]at q;rw[if_neg λw=>z (H.inj _ _ (w.trans rn.symm))];exact r.frn _ _ q
 ·have q:R.n+1<=j:=q;show(if j=R.n then some (tho H o)else R.h j)=none;rw[if_neg (by(exact jW2 q))];exact r.emp _ (by lia)
 ·show(if j=S.n then some o else S.h j)=none;rw[if_neg (Nat.ne_of_lt l)];exact q
 ·show(if j=R.n then some (tho H o)else R.h j)=R.h j;rw[if_neg];rintro rfl;exact absurd (q S.n rn).1 (Nat.lt_irrefl _)
theorem bk{α β:Type}{o:Option α}{a:α}{f:α->Option β}{r:Option β}(h:o=some a)(k:f a=r):o.bind f=r:=by rw[h];exact k
theorem ik{β:Type}{c:Prop}[Decidable c]{o r:Option β}(h:c)(k:o=r):(if c then o else none)=r:=by rw[if_pos h];exact k
theorem jC9{v:V}{k:Nat}(h:kOf v=some k):kOf (th H v)=some (H.rho k):=by rw[gL5 h];rfl
theorem hJ3{v:V}{l:List V}(h:tOf v=some l):tOf (th H v)=some (ths H l):=by rw[gI8 h];rfl
theorem hT6(v:V):gB4 (th H v)=gB4 v:=by cases v<;>rfl
theorem gW8(v:V):sOf (th H v)=sOf v:=by cases v<;>rfl
theorem hT3(r:Rl H S R){k:Nat}{l:List V}(h:gV3 S k=some l):gV3 R (H.rho k)=some (ths H l):=bk (r.at_ _ _ (gM7 h)) rfl
theorem hT7(r:Rl H S R){k:Nat}{p:Nat×List Nat×List V}(h:gV4 S k=some p):gV4 R (H.rho k)=some (p.1,p.2.1,ths H p.2.2):=bk (r.at_ _ _ (gM8 h)) rfl
theorem gI0(r:Rl H S R){v:V}{l:List V}(h:gD4 S v=some l):gD4 R (th H v)=some (ths H l):=gS9 (G:=λv=>gD4 R (th H v)=some (ths H l)) h rfl λk e=>bk (r.at_ _ _ e) rfl
theorem gW9(r:Rl H S R){v:V}{p:List V×List V}(h:getD S v=some p):getD R (th H v)=some (ths H p.1,ths H p.2):=gG8 (G:=λv=>getD R (th H v)=some (ths H p.1,ths H p.2)) h rfl λk e=>bk (r.at_ _ _ e) rfl
theorem iF2(r:Rl H S R){v:V}{p:Nat×List Nat×List V}(h:hM2 S v=some p):hM2 R (th H v)=some (p.1,p.2.1,ths H p.2.2):=hE0 (G:=λv=>hM2 R (th H v)=some (p.1,p.2.1,ths H p.2.2)) h rfl λk e=>bk (r.at_ _ _ e) rfl
theorem jJ0(r:Rl H S R){v:V}{t:KT}(h:iX2 S v=some t):iX2 R (th H v)=some t:=by
 cases v with
 |loc k=>exact bd h λo e h=>bk (r.at_ _ _ e) (by cases o<;>exact h)
 |_=>exact h
theorem jY3(r:Rl H S R){v:V}{k:Kd}{b:Bool}(h:hA9 S v k=some b):hA9 R (th H v) k=some b:=bd h λt e h=>bk (jJ0 r e) h
theorem hF1(r:Rl H S R)(v:V):norm R (th H v)=th H (norm S v):=by
 cases v with
 |loc k=>
  have n1:norm R (.loc (H.rho k))=(match R.h (H.rho k)with|some (.frz v)=>v|_=> .loc (H.rho k)):=rfl;have n2:norm S (.loc k)=(match S.h k with|some (.frz v)=>v|_=> .loc k):=rfl;rw[show th H (.loc k)= .loc (H.rho k)from rfl,n1,n2]
  cases e:S.h k with
  |none=>
   cases e':R.h (H.rho k)with
   |none=>rfl
   |some o=>
    cases o with
    |frz v=>exact absurd e' (r.frn _ _ e)
    |_=>rfl
  |some o=>rw[r.at_ _ _ e];cases o<;>rfl
 |_=>rfl
theorem hT2(r:Rl H S R):∀l:List V,(ths H l).map (norm R)=ths H (l.map (norm S))
 | []=>rfl
 |v::l=>by show norm R (th H v)::(ths H l).map (norm R)=th H (norm S v)::ths H (l.map (norm S));rw[hF1 r,hT2 r l]
theorem iF4{x:Nat}{u:V}:∀ {ns:List Nat}{vs:List V},iC7 x ns vs=some u->iC7 x ns (ths H vs)=some (th H u)
 | [],_,h=>nn h
 |_::_,[],h=>nn h
 |n::ns,v::vs,h=>by
  show(if x=n then some (th H v)else iC7 x ns (ths H vs))=_;have h:(if x=n then some v else iC7 x ns vs)=some u:=h
  by_cases q:x=n
  ·rw[if_pos q]at h⊢;cases h;rfl
  ·rw[if_neg q]at h⊢;exact iF4 h
theorem iF3{x:Nat}{u:V}:∀ {ns:List Nat}{vs:List V},hO7 x (th H u) ns (ths H vs)=((hO7 x u ns vs).1,ths H (hO7 x u ns vs).2)
 | [],_=>rfl
 |_::_,[]=>rfl
 |n::ns,v::vs=>by
  show(if x=n then(n::ns,th H u::ths H vs)else _)=((if x=n then(n::ns,u::vs)else _:List Nat×List V).1,ths H (if x=n then(n::ns,u::vs)else _:List Nat×List V).2)
  by_cases q:x=n
  ·rw[if_pos q,if_pos q];rfl
  ·rw[if_neg q,if_neg q,iF3];rfl
theorem hP0{k u:V}(hk:∀x,gB1 (th H k) (th H x)=gB1 k x):∀ {ks vs:List V},gJ5 (th H k) (th H u) (ths H ks) (ths H vs)=(ths H (gJ5 k u ks vs).1,ths H (gJ5 k u ks vs).2)
 | [],_=>rfl
 |_::_,[]=>rfl
 |x::ks,v::vs=>by
  show(if gB1 (th H k) (th H x)then(th H x::ths H ks,th H u::ths H vs)else _)=(ths H (if gB1 k x then(x::ks,u::vs)else _:List V×List V).1,ths H (if gB1 k x then(x::ks,u::vs)else _:List V×List V).2);rw[hk]
  by_cases q:gB1 k x=true
  ·rw[if_pos q,if_pos q];rfl
  ·rw[if_neg q,if_neg q,hP0 hk];rfl
theorem gS0{k:V}(h:gB4 k=true)(x:V):gB1 (th H k) (th H x)=gB1 k x:=by obtain⟨l,rfl⟩:=gF8 h;show(sOf (th H x)==some l)=(sOf x==some l);rw[gW8]
theorem gT6(l:List V):(ths H l).all gB4=l.all gB4:=by
 induction l with
 |nil=>rfl
 |cons v l ih=>show(gB4 (th H v)&&(ths H l).all gB4)=_;rw[hT6,ih];rfl
mutual
theorem gT8:∀(f:Nat){S R:St}{v v':V}{S':St},Rl H S R->frz f v S=some (v',S')->∃R',frz f (th H v) R=some (th H v',R')/\Sp H S R S' R'
 |0,_,_,_,_,_,_,e=>nn e
 |f+1,S,R,v,v',S',r,e=>by
  have at1:∀ {k:Nat}{o:O}{z:Option (V×St)},S.h k=some o->(match tho H o with
   | .lst l=>some (.lst l,R.upd (H.rho k) (.frz (.lst l)))
   | .dct ks vs=>some (.dct ks vs,R.upd (H.rho k) (.frz (.dct ks vs)))
   | .ins c ns vs=>(match hQ8 c with
    |true=>(gV6 f vs R).bind λr=>(gV4 r.2 (H.rho k)).bind λq=>some (iI5 r.2 q,r.2.upd (H.rho k) (.frz (iI5 r.2 q)))
    |false=>some (.loc (H.rho k),R))
   | .frz v=>some (v,R))=z->frz (f+1) (.loc (H.rho k)) R=z:=λe k=>bk (r.at_ _ _ e) k
  refine hM3 (G:=λv v' S'=>∃R',frz (f+1) (th H v) R=some (th H v',R')/\Sp H S R S' R') e (λn=> ?_) (λk l hk=>⟨_,at1 hk rfl,r.upd hk⟩) (λk ks vs hk=>⟨_,at1 hk rfl,r.upd hk⟩) (λk v hk=>⟨_,at1 hk rfl,.refl r⟩) (λk c ns vs hk hc=> ?_) λk c ns vs q q' hk hc h1 h2=> ?_
  ·refine⟨R,?_,.refl r⟩;cases v<;>first|rfl|exact nn n.symm
  ·exact⟨R,at1 hk (by dsimp only[tho];rw[hc];rfl),.refl r⟩
  ·refine e12 (gX0 f r h1) λRA q1 s1=> ?_;refine⟨_,at1 hk ?_,s1.trans (s1.rl.upd (gM8 h2))⟩;dsimp only[tho];rw[hc];refine bk q1 (bk (hT7 s1.rl h2) ?_);have ob:iI5 RA (q'.1,q'.2.1,ths H q'.2.2)=th H (iI5 q.2 q'):=by show V.ob _ _ ((ths H q'.2.2).map (norm RA))=_;rw[hT2 s1.rl];rfl
   rw[ob]
theorem gX0:∀(f:Nat){S R:St}{l:List V}{q:List V×St},Rl H S R->gV6 f l S=some q->∃R',gV6 f (ths H l) R=some (ths H q.1,R')/\Sp H S R q.2 R'
 |0,_,_,_,_,_,e=>nn e
 |f+1,S,R,[],q,r,e=>by cases e;exact⟨R,rfl,.refl r⟩
 |f+1,S,R,v::l,q,r,e=>by refine hE1 (G:=λq=>∃R',gV6 (f+1) (th H v::ths H l) R=some (ths H q.1,R')/\Sp H S R q.2 R') e λp p' eB eA=> ?_;refine e12 (gT8 f (v':=p.1) (S':=p.2) r eB) λRA q1 s1=> ?_;refine e12 (gX0 f s1.rl eA) λRB q2 s2=> ?_;exact⟨RB,bk q1 (bk q2 rfl),s1.trans s2⟩
end
end
end
section
variable(H:Hm)
noncomputable def Ex(S R:St)(o:Option (V×St))(q:V×St):Prop:=∃R',o=some (th H q.1,R')/\Sp H S R q.2 R'
noncomputable def Exs(S R:St)(o:Option (List V×St))(q:List V×St):Prop:=∃R',o=some (ths H q.1,R')/\Sp H S R q.2 R'
noncomputable def LoR(m m':Lo):Prop:=∀x v,m x=some v->m' x=some (th H v)
noncomputable def thf:Fl->Fl
 | .nx=> .nx
 | .rt v=> .rt (th H v)
 | .ct=> .ct
noncomputable def Exf(S R:St)(o:Option (Fl×Lo×St))(q:Fl×Lo×St):Prop:=∃m' R',o=some (thf H q.1,m',R')/\LoR H q.2.1 m'/\Sp H S R q.2.2 R'
structure Com(tp:Pr):Prop where
 lit:∀ {v},tp.lit v=true->th H v=v
 bin:∀ {op x y z},tp.bin op x y=some z->hI0 op (th H x) (th H y)=some (th H z)
 cmp:∀ {S R op x y b},Rl H S R->tp.cmp S op x y=some b->gK3 R op (th H x) (th H y)=some b
 sub:∀ {S R o k u},Rl H S R->tp.sub S o k=some u->hB1 R (th H o) (th H k)=some (th H u)
 slc:∀ {S R o a b q},Rl H S R->tp.slc S o a b=some q->Ex H S R (jK2 R (th H o) (th H a) (th H b)) q
 bf:∀ {S R b l q},Rl H S R->tp.bf S b l=some q->Ex H S R (callB R b (ths H l)) q
 bm:∀ {S R b o l q},Rl H S R->tp.bm S b o l=some q->Ex H S R (callBM R b (th H o) (ths H l)) q
 itm:∀ {S R v q},Rl H S R->tp.itm S v=some q->Exs H S R (gG2 R (th H v)) q
 rng:∀ {l l'},tp.rng l=some l'->hC7 (ths H l)=some (ths H l')
 enm:tp.enm=true->∀l,hB6 0 (ths H l)=ths H (hB6 0 l)
 key:∀ {S R S' k j v},Rl H S R->tp.key j=true->gO7 S k j v=some S'->∃R',gO7 R (H.rho k) (th H j) (th H v)=some R'/\Sp H S R S' R'
 orc:∀ {S R f g args q},Rl H S R->tp.orc f g args S=some q->∀f',f<=f'->Ex H S R (gA4 prog (f'+1) g (ths H args) R) q
 gv:∀ {i:Nat}{v:V},prog.gvs[i]?=some v->th H v=v
 dfl:∀ {i:Nat}{fn:Fn},prog.fns[i]?=some fn->ths H fn.dfl=fn.dfl
 byt:∀v,(yOf v).isSome=true->(yOf (th H v)).isSome=true
noncomputable abbrev tpl(tp:Pr):Txt:= {prog with p:=tp}
structure HI(tp:Pr)(f:Nat):Prop where
 e:∀ {e m m' S R q f'},evE (tpl tp) f e m S=some q->Rl H S R->LoR H m m'->f<=f'->Ex H S R (evE prog f' e m' R) q
 es:∀ {l m m' S R q f'},gG4 (tpl tp) f l m S=some q->Rl H S R->LoR H m m'->f<=f'->Exs H S R (gG4 prog f' l m' R) q
 an:∀ {l m m' S R q f'},gQ7 (tpl tp) f l m S=some q->Rl H S R->LoR H m m'->f<=f'->Ex H S R (gQ7 prog f' l m' R) q
 or:∀ {l m m' S R q f'},hX6 (tpl tp) f l m S=some q->Rl H S R->LoR H m m'->f<=f'->Ex H S R (hX6 prog f' l m' R) q
 g:∀ {g m m' S R q f'},itE (tpl tp) f g m S=some q->Rl H S R->LoR H m m'->f<=f'->Exs H S R (itE prog f' g m' R) q
 i:∀ {it m m' S R q f'},itI (tpl tp) f it m S=some q->Rl H S R->LoR H m m'->f<=f'->Exs H S R (itI prog f' it m' R) q
 ts:∀ {l m m' S R q f'},gC8 (tpl tp) f l m S=some q->Rl H S R->LoR H m m'->f<=f'->∃R',gC8 prog f' l m' R=some (q.1,R')/\Sp H S R q.2 R'
 l:∀ {elt g gs l m m' acc S R q f'},gD8 (tpl tp) f elt g gs l m acc S=some q->Rl H S R->LoR H m m'->f<=f'->Exs H S R (gD8 prog f' elt g gs (ths H l) m' (ths H acc) R) q
 d:∀ {ke ve g l m m' d S R q f'},gQ9 (tpl tp) f ke ve g l m d S=some q->Rl H S R->LoR H m m'->f<=f'->∃R',gQ9 prog f' ke ve g (ths H l) m' (ths H d.1,ths H d.2) R=some ((ths H q.1.1,ths H q.1.2),R')/\Sp H S R q.2 R'
 c:∀ {g args S R q f'},gA4 (tpl tp) f g args S=some q->Rl H S R->f<=f'->Ex H S R (gA4 prog f' g (ths H args) R) q
 s:∀ {s m m' S R q f'},exS (tpl tp) f s m S=some q->Rl H S R->LoR H m m'->f<=f'->Exf H S R (exS prog f' s m' R) q
 b:∀ {l m m' S R q f'},exB (tpl tp) f l m S=some q->Rl H S R->LoR H m m'->f<=f'->Exf H S R (exB prog f' l m' R) q
 w:∀ {c b m m' S R q f'},exW (tpl tp) f c b m S=some q->Rl H S R->LoR H m m'->f<=f'->Exf H S R (exW prog f' c b m' R) q
 fr:∀ {t l b m m' S R q f'},exF (tpl tp) f t l b m S=some q->Rl H S R->LoR H m m'->f<=f'->Exf H S R (exF prog f' t (ths H l) b m' R) q
end
section
variable{H:Hm}{tp:Pr}{f f':Nat}{m m' mA:Lo}{S S' R:St}
theorem HI.zero:HI H tp 0:=⟨λh=>nn h,λh=>nn h,λh=>nn h,λh=>nn h,λh=>nn h,λh=>nn h,λh=>nn h,λh=>nn h,λh=>nn h,λh=>nn h,λh=>nn h,λh=>nn h,λh=>nn h,λh=>nn h⟩
theorem sf(h:f+1<=f'):∃k,f'=k+1/\f<=k:=by
 cases f' with
 |zero=>cases h
 |succ k=>exact⟨k,rfl,Nat.le_of_succ_le_succ h⟩
theorem LoR.set(l:LoR H m m')(x:Nat)(v:V):LoR H (m.set x v) (m'.set x (th H v)):=λy u e=>by
 have e:(if y=x then some v else m y)=some u:=e;show(if y=x then some (th H v)else m' y)=_
 by_cases q:y=x
 ·rw[if_pos q]at e⊢;cases e;rfl
 ·rw[if_neg q]at e⊢;exact l y u e
theorem LoR.sets:∀ {xs:List Nat}{vs:List V}{m m':Lo},LoR H m m'->LoR H (m.sets xs vs) (m'.sets xs (ths H vs))
 | [],_,_,_,l=>l
 |_::_,[],_,_,l=>l
 |x::xs,v::vs,_,_,l=>LoR.sets (xs:=xs) (vs:=vs) (l.set x v)
theorem LoR.del(l:LoR H m m')(xs:List Nat):LoR H (m.del xs) (m'.del xs):=λy u e=>by
 have e:(if xs.contains y then none else m y)=some u:=e;show(if xs.contains y then none else m' y)=_
 by_cases q:xs.contains y=true
 ·rw[if_pos q]at e;cases e
 ·rw[if_neg q]at e⊢;exact l y u e
theorem LoR.put(l:LoR H m m'){t:Tg}{v:V}(e:t.put v m=some mA):∃mB,t.put (th H v) m'=some mB/\LoR H mA mB:=by
 cases t with
 |one x=>cases e;exact⟨_,rfl,l.set x v⟩
 |tup xs=>exact bd e λvs h e=>ifs e λc e=>by cases e;exact⟨_,bk (hJ3 h) (ik ((gF3 vs).trans c) rfl),l.sets⟩
theorem jJ1(C:Com H tp)(r:Rl H S R){b:BM}{o:V}(h:iT0 S b o=true):iT0 R b (th H o)=true:=by
 have L:(gD4 S o).isSome=true->(gD4 R (th H o)).isSome=true:=λh=>by refine e11 (Option.isSome_iff_exists.mp h) λl e=> ?_;rw[gI0 r e];rfl
 have D:(getD S o).isSome=true->(getD R (th H o)).isSome=true:=λh=>by refine e11 (Option.isSome_iff_exists.mp h) λl e=> ?_;rw[gW9 r e];rfl
 have s:(sOf o).isSome=true->(sOf (th H o)).isSome=true:=λh=>by rw[gW8];exact h
 cases b with
 |append=>exact L h
 |pop0=>exact L h
 |strJoin=>exact s h
 |bytesJoin=>exact C.byt _ h
 |encode=>exact s h
 |get1=>exact D h
 |get2=>exact D h
 |pop1=>exact D h
theorem iT9(C:Com H tp){g:Nat}{fn:Fn}{args vs:List V}(hf:prog.fns[g]?=some fn)(h:gL9 fn args=some vs):gL9 fn (ths H args)=some (ths H vs):=by unfold gL9 at h⊢;rw[gF3];refine ifs h λc h=>ik c ?_;cases h;rw[hF0,gD5 (List.drop _ _),←List.map_drop.symm,←gD5,C.dfl hf]
theorem h_e(C:Com H tp)(I:HI H tp f){e:ME}{q:V×St}(h:evE (tpl tp) (f+1) e m S=some q)(r:Rl H S R)(lo:LoR H m m')(le:f+1<=f'):Ex H S R (evE prog f' e m' R) q:=by
 obtain⟨k,rfl,lk⟩:=sf le
 cases e with
 |lit v=>exact hW9 (G:=Ex H S R _) h λc=>⟨R,by rw[C.lit c];rfl,.refl r⟩
 |var x=>exact jG2 (G:=Ex H S R _) h λv e=>⟨R,bk (lo x v e) (congrArg (λv=>some (v,R)) (hF1 r v)),.refl r⟩
 |gv i=>exact kJ5 (G:=Ex H S R _) h λv e=>⟨R,by rw[C.gv e];exact bk e rfl,.refl r⟩
 |bin op a b=>
  refine jG9 (G:=Ex H S R _) h λx y v h1 h2 h3=> ?_;obtain⟨RA,e1,s1⟩:=I.e h1 r lo lk;obtain⟨RB,e2,s2⟩:=I.e h2 s1.rl lo lk
  exact⟨RB,bk e1 (bk e2 (bk (C.bin h3) rfl)),s1.trans s2⟩
 |cmp op a b=>
  refine iN9 (G:=Ex H S R _) h λx y v h1 h2 h3=> ?_;obtain⟨RA,e1,s1⟩:=I.e h1 r lo lk;obtain⟨RB,e2,s2⟩:=I.e h2 s1.rl lo lk
  exact⟨RB,bk e1 (bk e2 (bk (C.cmp s2.rl h3) rfl)),s1.trans s2⟩
 |chain oA oB a b c=>
  refine hH1 (G:=Ex H S R _) h (λx y z v h1 h2 h3 h4 h5=> ?_) λx y h1 h2 h3=> ?_
  ·obtain⟨RA,e1,s1⟩:=I.e h1 r lo lk;obtain⟨RB,e2,s2⟩:=I.e h2 s1.rl lo lk;obtain⟨RC,e3,s3⟩:=I.e h4 s2.rl lo lk;exact⟨RC,bk e1 (bk e2 (bk (C.cmp s2.rl h3) (bk e3 (bk (C.cmp s3.rl h5) rfl)))),(s1.trans s2).trans s3⟩
  ·obtain⟨RA,e1,s1⟩:=I.e h1 r lo lk;obtain⟨RB,e2,s2⟩:=I.e h2 s1.rl lo lk
   exact⟨RB,bk e1 (bk e2 (bk (C.cmp s2.rl h3) rfl)),s1.trans s2⟩
 |andE l=>exact I.an h r lo lk
 |orE l=>exact I.or h r lo lk
 |notE a=>
  refine iN7 (G:=Ex H S R _) h λS' b h1=> ?_;refine e12 (I.e h1 r lo lk) λRA e1 s1=> ?_
  exact⟨RA,bk e1 (bk (a:=b) rfl rfl),s1⟩
 |ite c a b=>
  refine iN8 (G:=Ex H S R _) h (λS' h1 h2=> ?_) λS' h1 h2=> ?_
  ·obtain⟨RA,e1,s1⟩:=I.e h1 r lo lk;obtain⟨RB,e2,s2⟩:=I.e h2 s1.rl lo lk;exact⟨RB,bk e1 (bk (a:=true) rfl e2),s1.trans s2⟩
  ·obtain⟨RA,e1,s1⟩:=I.e h1 r lo lk;obtain⟨RB,e2,s2⟩:=I.e h2 s1.rl lo lk
   exact⟨RB,bk e1 (bk (a:=false) rfl e2),s1.trans s2⟩
 |tupE l=>
  refine jG3 (G:=Ex H S R _) h λx y h1 h2=> ?_;obtain⟨RA,e1,s1⟩:=I.es h1 r lo lk;obtain⟨RB,e2,s2⟩:=gX0 _ s1.rl h2
  exact⟨RB,bk e1 (bk e2 rfl),s1.trans s2⟩
 |lstE l=>
  refine jG6 (G:=Ex H S R _) h λx y h1 h2=> ?_;obtain⟨RA,e1,s1⟩:=I.es h1 r lo lk;obtain⟨RB,e2,s2⟩:=gX0 _ s1.rl h2
  exact⟨_,bk e1 (bk e2 (congrArg (λk=>some (V.loc k,_)) (s2.rl.new 0).symm)),(s1.trans s2).trans (s2.rl.mk_new (.lst y.1))⟩
 |dctE ks l=>
  refine jG8 (G:=Ex H S R _) h λx y h1 h2 h3=> ?_;obtain⟨RA,e1,s1⟩:=I.es h1 r lo lk;obtain⟨RB,e2,s2⟩:=gX0 _ s1.rl h2;have ek:ths H (ks.map .str)=ks.map .str:=by rw[gD5,List.map_map];rfl
  refine⟨_,bk e1 (bk e2 (ik (h3.trans (gF3 _).symm) ?_)),(s1.trans s2).trans (s2.rl.mk_new (.dct (ks.map .str) y.1))⟩;show some (V.loc RB.n,_)=some (V.loc (H.rho y.2.n),RB.new (.dct (ths H (ks.map .str)) (ths H y.1)))
  rw[ek];exact congrArg (λk=>some (V.loc k,RB.new (.dct (ks.map .str) (ths H y.1)))) (s2.rl.new 0).symm
 |attr a x=>
  refine iO0 (G:=Ex H S R _) h λv q u h1 h2 h3=> ?_;refine e12 (I.e h1 r lo lk) λRA e1 s1=> ?_
  exact⟨RA,bk e1 (bk (iF2 s1.rl h2) (bk (iF4 h3) (congrArg (λv=>some (v,RA)) (hF1 s1.rl u)))),s1⟩
 |sub a b=>
  refine jG4 (G:=Ex H S R _) h λx y v h1 h2 h3=> ?_;obtain⟨RA,e1,s1⟩:=I.e h1 r lo lk;obtain⟨RB,e2,s2⟩:=I.e h2 s1.rl lo lk
  exact⟨RB,bk e1 (bk e2 (bk (C.sub s2.rl h3) (congrArg (λv=>some (v,RB)) (hF1 s2.rl v)))),s1.trans s2⟩
 |slc a b c=>
  refine jG5 (G:=Ex H S R _) h λx y z h1 h2 h3 h4=> ?_;obtain⟨RA,e1,s1⟩:=I.e h1 r lo lk;obtain⟨RB,e2,s2⟩:=I.e h2 s1.rl lo lk;obtain⟨RC,e3,s3⟩:=I.e h3 s2.rl lo lk;refine e12 (C.slc s3.rl h4) λR4 e4 s4=> ?_
  exact⟨R4,bk e1 (bk e2 (bk e3 e4)),((s1.trans s2).trans s3).trans s4⟩
 |callF g l=>
  refine hX3 (G:=Ex H S R _) h λx h1 h2=> ?_;obtain⟨RA,e1,s1⟩:=I.es h1 r lo lk;obtain⟨RB,e2,s2⟩:=I.c h2 s1.rl lk
  exact⟨RB,bk e1 e2,s1.trans s2⟩
 |callC c l=>
  refine hX4 (G:=Ex H S R _) h λx g S' h1 h2 h3=> ?_;refine e12 (I.es h1 r lo lk) λRA e1 s1=> ?_;have s2:=s1.rl.mk_new (.ins c [] []);refine e12 (I.c h3 s2.rl lk) λRC e3 s3=> ?_;have rn:H.rho x.2.n=RA.n:=s1.rl.new 0;have e3:gA4 prog k g (.loc (H.rho x.2.n)::ths H x.1) (RA.new (.ins c [] []))=some (.none,RC):=e3;rw[rn]at e3
  exact⟨RC,bk e1 (bk h2 (bk e3 (ik rfl (congrArg (λk=>some (V.loc k,RC)) rn.symm)))),(s1.trans s2).trans s3⟩
 |callM a x l=>
  refine hX2 (G:=Ex H S R _) h λo q g y h1 h2 h3 h4 h5 h6=> ?_;obtain⟨RA,e1,s1⟩:=I.e h1 r lo lk;obtain⟨RB,e2,s2⟩:=I.es h5 s1.rl lo lk;obtain⟨RC,e3,s3⟩:=I.c h6 s2.rl lk
  exact⟨RC,bk e1 (bk (iF2 s1.rl h2) (ik h3 (bk h4 (bk e2 e3)))),(s1.trans s2).trans s3⟩
 |callB b l=>
  refine hX5 (G:=Ex H S R _) h λx h1 h2=> ?_;obtain⟨RA,e1,s1⟩:=I.es h1 r lo lk;obtain⟨RB,e2,s2⟩:=C.bf s1.rl h2
  exact⟨RB,bk e1 e2,s1.trans s2⟩
 |callBM a b l=>
  refine hM4 (G:=Ex H S R _) h λx y h1 h2 h3 h4=> ?_;obtain⟨RA,e1,s1⟩:=I.e h1 r lo lk;obtain⟨RB,e2,s2⟩:=I.es h3 s1.rl lo lk;obtain⟨RC,e3,s3⟩:=C.bm s2.rl h4
  exact⟨RC,bk e1 (ik (jJ1 C s1.rl h2) (bk e2 e3)),(s1.trans s2).trans s3⟩
 |isi a kd=>
  refine jG7 (G:=Ex H S R _) h λx b h1 h2=> ?_;refine e12 (I.e h1 r lo lk) λRA e1 s1=> ?_
  exact⟨RA,bk e1 (bk (jY3 s1.rl h2) rfl),s1⟩
 |lcomp vars elt gs=>
  refine hG8 (G:=Ex H S R _) h λg gs' q z e0 h1 h2=> ?_;subst e0;obtain⟨RA,e1,s1⟩:=I.g h1 r lo lk;obtain⟨RB,e2,s2⟩:=I.l h2 s1.rl (lo.del vars) lk
  exact⟨_,bk e1 (bk e2 (congrArg (λk=>some (V.loc k,_)) (s2.rl.new 0).symm)),(s1.trans s2).trans (s2.rl.mk_new (.lst z.1))⟩
 |dcomp vars ke ve g=>
  refine hG9 (G:=Ex H S R _) h λq z h1 h2=> ?_;obtain⟨RA,e1,s1⟩:=I.g h1 r lo lk;obtain⟨RB,e2,s2⟩:=I.d h2 s1.rl (lo.del vars) lk;exact⟨_,bk e1 (bk e2 (congrArg (λk=>some (V.loc k,_)) (s2.rl.new 0).symm)),(s1.trans s2).trans (s2.rl.mk_new (.dct z.1.1 z.1.2))⟩
end
section
variable{H:Hm}{tp:Pr}{f f':Nat}{m m' mA:Lo}{S S' R:St}
theorem lN7(I:HI H tp f){l:List ME}{q:List V×St}(h:gG4 (tpl tp) (f+1) l m S=some q)(r:Rl H S R)(lo:LoR H m m')(le:f+1<=f'):Exs H S R (gG4 prog f' l m' R) q:=by
 obtain⟨k,rfl,lk⟩:=sf le
 cases l with
 |nil=>cases h;exact⟨R,rfl,.refl r⟩
 |cons e l=>
  refine hH0 (G:=Exs H S R _) h λx y h1 h2=> ?_;obtain⟨RA,e1,s1⟩:=I.e h1 r lo lk;obtain⟨RB,e2,s2⟩:=I.es h2 s1.rl lo lk;exact⟨RB,bk e1 (bk e2 rfl),s1.trans s2⟩
theorem hZ8{e:ME}{l:List ME}{k:Nat}(n:l≠ []):gQ7 prog (k+1) (e::l) m S=(evE prog k e m S).bind λq=>(bOf q.1).bind λu=>(match u with|true=>gQ7 prog k l m q.2|false=>some (.bool false,q.2)):=by
 cases l with
 |nil=>exact absurd rfl n
 |cons _ _=>rfl
theorem iI4{e:ME}{l:List ME}{k:Nat}(n:l≠ []):hX6 prog (k+1) (e::l) m S=(evE prog k e m S).bind λq=>(bOf q.1).bind λu=>(match u with|true=>some (.bool true,q.2)|false=>hX6 prog k l m q.2):=by
 cases l with
 |nil=>exact absurd rfl n
 |cons _ _=>rfl
theorem lN8(I:HI H tp f){l:List ME}{q:V×St}(h:gQ7 (tpl tp) (f+1) l m S=some q)(r:Rl H S R)(lo:LoR H m m')(le:f+1<=f'):Ex H S R (gQ7 prog f' l m' R) q:=by
 obtain⟨k,rfl,lk⟩:=sf le
 cases l with
 |nil=>exact nn h
 |cons e l=>
  refine iO1 (G:=Ex H S R _) h (λz h1=> ?_) (λS' z h1 h2=> ?_) λS' z h1=> ?_
  ·subst z;exact I.e h1 r lo lk
  ·obtain⟨RA,e1,s1⟩:=I.e h1 r lo lk;obtain⟨RB,e2,s2⟩:=I.an h2 s1.rl lo lk;exact⟨RB,(hZ8 z).trans (bk e1 (bk (a:=true) rfl e2)),s1.trans s2⟩
  ·refine e12 (I.e h1 r lo lk) λRA e1 s1=> ?_;exact⟨RA,(hZ8 z).trans (bk e1 (bk (a:=false) rfl rfl)),s1⟩
theorem lN5(I:HI H tp f){l:List ME}{q:V×St}(h:hX6 (tpl tp) (f+1) l m S=some q)(r:Rl H S R)(lo:LoR H m m')(le:f+1<=f'):Ex H S R (hX6 prog f' l m' R) q:=by
 obtain⟨k,rfl,lk⟩:=sf le
 cases l with
 |nil=>exact nn h
 |cons e l=>
  refine jR1 (G:=Ex H S R _) h (λz h1=> ?_) (λS' z h1 h2=> ?_) λS' z h1=> ?_
  ·subst z;exact I.e h1 r lo lk
  ·obtain⟨RA,e1,s1⟩:=I.e h1 r lo lk;obtain⟨RB,e2,s2⟩:=I.or h2 s1.rl lo lk;exact⟨RB,(iI4 z).trans (bk e1 (bk (a:=false) rfl e2)),s1.trans s2⟩
  ·refine e12 (I.e h1 r lo lk) λRA e1 s1=> ?_;exact⟨RA,(iI4 z).trans (bk e1 (bk (a:=true) rfl rfl)),s1⟩
theorem h_g(I:HI H tp f){g:Gn}{q:List V×St}(h:itE (tpl tp) (f+1) g m S=some q)(r:Rl H S R)(lo:LoR H m m')(le:f+1<=f'):Exs H S R (itE prog f' g m' R) q:=by obtain⟨k,rfl,lk⟩:=sf le;obtain⟨t,it,ifs⟩:=g;exact I.i (it:=it) h r lo lk
theorem h_i(C:Com H tp)(I:HI H tp f){it:It}{q:List V×St}(h:itI (tpl tp) (f+1) it m S=some q)(r:Rl H S R)(lo:LoR H m m')(le:f+1<=f'):Exs H S R (itI prog f' it m' R) q:=by
 obtain⟨k,rfl,lk⟩:=sf le
 cases it with
 |ex e=>
  refine bd (show(evE (tpl tp) f e m S).bind _=some q from h) λx h1 h2=> ?_;obtain⟨RA,e1,s1⟩:=I.e h1 r lo lk;obtain⟨RB,e2,s2⟩:=C.itm s1.rl h2
  exact⟨RB,bk e1 e2,s1.trans s2⟩
 |range l=>
  refine hW1 (G:=Exs H S R _) h λx l' h1 h2=> ?_;refine e12 (I.es h1 r lo lk) λRA e1 s1=> ?_
  exact⟨RA,bk e1 (bk (C.rng h2) rfl),s1⟩
 |enum e=>
  refine iK7 (G:=Exs H S R _) h λx l S' h1 h2 h3=> ?_;obtain⟨RA,e1,s1⟩:=I.e h1 r lo lk;obtain⟨RB,e2,s2⟩:=gT8 _ s1.rl h3
  exact⟨RB,bk e1 (ik rfl (bk e2 (bk (a:=ths H l) rfl (congrArg (λl=>some (l,RB)) (C.enm h2 l))))),s1.trans s2⟩
 |rev e=>
  refine jE7 (G:=Exs H S R _) h λx l S' h1 h3=> ?_;obtain⟨RA,e1,s1⟩:=I.e h1 r lo lk;obtain⟨RB,e2,s2⟩:=gT8 _ s1.rl h3;have er:(ths H l).reverse=ths H l.reverse:=by rw[gD5,gD5,List.map_reverse]
  exact⟨RB,bk e1 (bk e2 (bk (a:=ths H l) rfl (congrArg (λl=>some (l,RB)) er))),s1.trans s2⟩
theorem lN4(I:HI H tp f){l:List ME}{q:Bool×St}(h:gC8 (tpl tp) (f+1) l m S=some q)(r:Rl H S R)(lo:LoR H m m')(le:f+1<=f'):∃R',gC8 prog f' l m' R=some (q.1,R')/\Sp H S R q.2 R':=by
 obtain⟨k,rfl,lk⟩:=sf le
 cases l with
 |nil=>cases h;exact⟨R,rfl,.refl r⟩
 |cons e l=>
  refine iN6 (G:=λq=>∃R',gC8 prog (k+1) (e::l) m' R=some (q.1,R')/\Sp H S R q.2 R') h (λS' h1 h2=> ?_) λS' h1=> ?_
  ·obtain⟨RA,e1,s1⟩:=I.e h1 r lo lk;obtain⟨RB,e2,s2⟩:=I.ts h2 s1.rl lo lk;exact⟨RB,bk e1 (bk (a:=true) rfl e2),s1.trans s2⟩
  ·refine e12 (I.e h1 r lo lk) λRA e1 s1=> ?_;exact⟨RA,bk e1 (bk (a:=false) rfl rfl),s1⟩
theorem h_l(I:HI H tp f){elt:ME}{g:Gn}{gs:List Gn}{l acc:List V}{q:List V×St}(h:gD8 (tpl tp) (f+1) elt g gs l m acc S=some q)(r:Rl H S R)(lo:LoR H m m')(le:f+1<=f'):Exs H S R (gD8 prog f' elt g gs (ths H l) m' (ths H acc) R) q:=by
 obtain⟨k,rfl,lk⟩:=sf le
 cases l with
 |nil=>cases h;exact⟨R,rfl,.refl r⟩
 |cons v l=>
  refine hX0 h λmA hp x=> ?_;refine e12 (lo.put hp) λmB ep lo1=> ?_
  cases x with
  |no S' h1 h2=>
   obtain⟨RA,e1,s1⟩:=I.ts h1 r lo1 lk;obtain⟨RB,e2,s2⟩:=I.l h2 s1.rl lo lk
   exact⟨RB,bk ep (bk e1 e2),s1.trans s2⟩
  |leaf S' x y e0 h1 h2 h3 h4 h5=>
   subst e0;obtain⟨RA,e1,s1⟩:=I.ts h1 r lo1 lk;obtain⟨RB,e2,s2⟩:=I.e h2 s1.rl lo1 lk;obtain⟨RC,e3,s3⟩:=gT8 _ s2.rl h3;obtain⟨R4,e4,s4⟩:=I.l h5 s3.rl lo lk;rw[hF0]at e4
   exact⟨R4,bk ep (bk e1 (bk e2 (bk e3 (ik (by rw[gF3];exact h4) e4)))),((s1.trans s2).trans s3).trans s4⟩
  |nest S' g' gs' q' z e0 h1 h2 h3 h4=>
   subst e0;obtain⟨RA,e1,s1⟩:=I.ts h1 r lo1 lk;obtain⟨RB,e2,s2⟩:=I.g h2 s1.rl lo1 lk;obtain⟨RC,e3,s3⟩:=I.l h3 s2.rl lo1 lk;obtain⟨R4,e4,s4⟩:=I.l h4 s3.rl lo lk;exact⟨R4,bk ep (bk e1 (bk e2 (bk e3 e4))),((s1.trans s2).trans s3).trans s4⟩
theorem h_d(I:HI H tp f){ke ve:ME}{g:Gn}{l:List V}{d:List V×List V}{q:(List V×List V)×St}(h:gQ9 (tpl tp) (f+1) ke ve g l m d S=some q)(r:Rl H S R)(lo:LoR H m m')(le:f+1<=f'):
  ∃R',gQ9 prog f' ke ve g (ths H l) m' (ths H d.1,ths H d.2) R=some ((ths H q.1.1,ths H q.1.2),R')/\Sp H S R q.2 R':=by
 obtain⟨k,rfl,lk⟩:=sf le
 cases l with
 |nil=>cases h;exact⟨R,rfl,.refl r⟩
 |cons v l=>
  refine hX1 h λmA hp x=> ?_;refine e12 (lo.put hp) λmB ep lo1=> ?_
  cases x with
  |no S' h1 h2=>
   obtain⟨RA,e1,s1⟩:=I.ts h1 r lo1 lk;obtain⟨RB,e2,s2⟩:=I.d h2 s1.rl lo lk
   exact⟨RB,bk ep (bk e1 e2),s1.trans s2⟩
  |leaf S' kv x y h1 h2 h3 h4 h5 h6=>
   obtain⟨RA,e1,s1⟩:=I.ts h1 r lo1 lk;obtain⟨RB,e2,s2⟩:=I.e h2 s1.rl lo1 lk;obtain⟨RC,e3,s3⟩:=I.e h3 s2.rl lo1 lk;obtain⟨R4,e4,s4⟩:=gT8 _ s3.rl h4;obtain⟨R5,e5,s5⟩:=I.d h6 s4.rl lo lk;have sk:gB4 kv.1=true:=(Bool.and_eq_true_iff.mp (Bool.and_eq_true_iff.mp h5).1).1;have e5:gQ9 prog k ke ve g (ths H l) m' (gJ5 (th H kv.1) (th H y.1) (ths H d.1) (ths H d.2)) R4=some ((ths H q.1.1,ths H q.1.2),R5):=by rw[hP0 (gS0 sk)];exact e5
   exact⟨R5,bk ep (bk e1 (bk e2 (bk e3 (bk e4 (ik (by rw[hT6,gT6,gF3];exact h5) e5))))),(((s1.trans s2).trans s3).trans s4).trans s5⟩
theorem h_c(C:Com H tp)(I:HI H tp f){g:Nat}{args:List V}{q:V×St}(h:gA4 (tpl tp) (f+1) g args S=some q)(r:Rl H S R)(le:f+1<=f'):Ex H S R (gA4 prog f' g (ths H args) R) q:=by
 obtain⟨k,rfl,lk⟩:=sf le
 have h0:(match tp.orc f g args S with
  |some r=>some r
  |none=>(prog.fns[g]?).bind λfn=>(gL9 fn args).bind λvs=>(exB (tpl tp) f fn.body (Lo.sets (λδ=>none) fn.pars vs) S).bind λr=>(Fl.out r.1).bind λv=>some (v,r.2.2))=some q:=h
 cases ho:tp.orc f g args S with
 |some z=>rw[ho]at h0;cases h0;exact C.orc r ho k lk
 |none=>
  rw[ho]at h0;refine bd h0 λfn h1 h0=>bd h0 λvs h2 h0=>bd h0 λx h3 h0=>bd h0 λv h4 h0=> ?_;cases h0;refine e23 (I.b h3 r (m':=Lo.sets (λδ=>none) fn.pars (ths H vs)) (LoR.sets λδ δ e=>nn e) lk) λmB RA e1 δ s1=> ?_;have ho:Fl.out (thf H x.1)=some (th H v):=by refine Fl.out_eq (G:=λfl=>Fl.out (thf H fl)=some (th H v)) h4 rfl λe=> ?_;subst e;rfl
  exact⟨RA,show(prog.fns[g]?).bind _=_ from bk h1 (bk (iT9 C h1 h2) (bk e1 (bk ho rfl))),s1⟩
theorem h_s(C:Com H tp)(I:HI H tp f){s:MS}{q:Fl×Lo×St}(h:exS (tpl tp) (f+1) s m S=some q)(r:Rl H S R)(lo:LoR H m m')(le:f+1<=f'):Exf H S R (exS prog f' s m' R) q:=by
 obtain⟨k,rfl,lk⟩:=sf le
 cases s with
 |ex e=>
  refine kJ4 (G:=Exf H S R _) h λx h1=> ?_;refine e12 (I.e h1 r lo lk) λRA e1 s1=> ?_
  exact⟨m',RA,bk e1 rfl,lo,s1⟩
 |asg x e=>
  refine jG1 (G:=Exf H S R _) h λy h1=> ?_;refine e12 (I.e h1 r lo lk) λRA e1 s1=> ?_
  exact⟨_,RA,bk e1 rfl,lo.set x y.1,s1⟩
 |asgA o x e=>
  refine iN5 (G:=Exf H S R _) h λy S' j q h1 h2 h3 h4=> ?_;obtain⟨RA,e1,s1⟩:=I.e h1 r lo lk;obtain⟨RB,e2,s2⟩:=I.e h2 s1.rl lo lk;refine⟨m',_,bk e1 (bk e2 (bk (a:=H.rho j) rfl (bk (hT7 s2.rl h3) (ik h4 ?_)))),lo,(s1.trans s2).trans (s2.rl.upd (gM8 h3))⟩;dsimp only
  rw[iF3];rfl
 |asgS o i e=>
  refine hR4 (G:=Exf H S R _) h λx S₁ kk j y SA h1 h2 h3 h4 h5 h6=> ?_;obtain⟨RA,e1,s1⟩:=I.e h1 r lo lk;obtain⟨RB,e2,s2⟩:=I.e h2 s1.rl lo lk;obtain⟨RC,e3,s3⟩:=I.e h3 s2.rl lo lk;obtain⟨R4,e4,s4⟩:=gT8 _ s3.rl h4;obtain⟨R5,e5,s5⟩:=C.key s4.rl h5 h6
  exact⟨m',R5,bk e1 (bk e2 (bk (a:=H.rho kk) rfl (bk e3 (bk e4 (ik rfl (bk e5 rfl)))))),lo,(((s1.trans s2).trans s3).trans s4).trans s5⟩
 |asgT xs e=>
  refine iN3 (G:=Exf H S R _) h λl S' h1 h2=> ?_;refine e12 (I.e h1 r lo lk) λRA e1 s1=> ?_
  exact⟨_,RA,bk e1 (bk (a:=ths H l) rfl (ik ((gF3 l).trans h2) rfl)),lo.sets,s1⟩
 |asgP xs es=>
  refine iN4 (G:=Exf H S R _) h λx h1 h2=> ?_;refine e12 (I.es h1 r lo lk) λRA e1 s1=> ?_
  exact⟨_,RA,bk e1 (ik ((gF3 _).trans h2) rfl),lo.sets,s1⟩
 |ite c a b=>
  refine jF9 (G:=Exf H S R _) h (λS' h1 h2=> ?_) λS' h1 h2=> ?_
  ·obtain⟨RA,e1,s1⟩:=I.e h1 r lo lk;obtain⟨mB,RB,e2,l2,s2⟩:=I.b h2 s1.rl lo lk;exact⟨mB,RB,bk e1 (bk (a:=true) rfl e2),l2,s1.trans s2⟩
  ·obtain⟨RA,e1,s1⟩:=I.e h1 r lo lk;obtain⟨mB,RB,e2,l2,s2⟩:=I.b h2 s1.rl lo lk
   exact⟨mB,RB,bk e1 (bk (a:=false) rfl e2),l2,s1.trans s2⟩
 |whl c b=>exact I.w h r lo lk
 |fr t it b=>
  refine kJ3 (G:=Exf H S R _) h λq h1 h2=> ?_;obtain⟨RA,e1,s1⟩:=I.i h1 r lo lk;obtain⟨mB,RB,e2,l2,s2⟩:=I.fr h2 s1.rl lo lk
  exact⟨mB,RB,bk e1 e2,l2,s1.trans s2⟩
 |ret e=>
  refine jF8 (G:=Exf H S R _) h λx h1=> ?_;refine e12 (I.e h1 r lo lk) λRA e1 s1=> ?_
  exact⟨m',RA,bk e1 rfl,lo,s1⟩
 |cont=>cases h;exact⟨m',R,rfl,lo,.refl r⟩
 |pass=>cases h;exact⟨m',R,rfl,lo,.refl r⟩
 |tr b=>exact I.b h r lo lk
 |dead=>exact nn h
theorem h_b(I:HI H tp f){l:List MS}{q:Fl×Lo×St}(h:exB (tpl tp) (f+1) l m S=some q)(r:Rl H S R)(lo:LoR H m m')(le:f+1<=f'):Exf H S R (exB prog f' l m' R) q:=by
 obtain⟨k,rfl,lk⟩:=sf le
 cases l with
 |nil=>cases h;exact⟨m',R,rfl,lo,.refl r⟩
 |cons s l=>
  refine iN2 (G:=Exf H S R _) h (λmA S₁ h1 h2=> ?_) λfl mA S₁ n h1=> ?_
  ·obtain⟨mB,RA,e1,l1,s1⟩:=I.s h1 r lo lk;obtain⟨mD,RB,e2,l2,s2⟩:=I.b h2 s1.rl l1 lk;exact⟨mD,RB,bk e1 e2,l2,s1.trans s2⟩
  ·refine e23 (I.s h1 r lo lk) λmB RA e1 l1 s1=> ?_;refine⟨mB,RA,bk e1 ?_,l1,s1⟩
   cases fl with
   |nx=>exact absurd rfl n
   |rt v=>rfl
   |ct=>rfl
theorem h_w(I:HI H tp f){c:ME}{b:List MS}{q:Fl×Lo×St}(h:exW (tpl tp) (f+1) c b m S=some q)(r:Rl H S R)(lo:LoR H m m')(le:f+1<=f'):Exf H S R (exW prog f' c b m' R) q:=by
 obtain⟨k,rfl,lk⟩:=sf le;refine jF7 (G:=Exf H S R _) h (λS₁ fl mA SA h1 h2 n h3=> ?_) (λS₁ v mA SA h1 h2=> ?_) λS₁ h1=> ?_
 ·obtain⟨RA,e1,s1⟩:=I.e h1 r lo lk;obtain⟨mB,RB,e2,l2,s2⟩:=I.b h2 s1.rl lo lk;obtain⟨mD,RC,e3,l3,s3⟩:=I.w h3 s2.rl l2 lk;refine⟨mD,RC,bk e1 (bk (a:=true) rfl (bk e2 ?_)),l3,(s1.trans s2).trans s3⟩
  cases fl with
  |nx=>exact e3
  |rt v=>exact absurd rfl (n v)
  |ct=>exact e3
 ·obtain⟨RA,e1,s1⟩:=I.e h1 r lo lk;obtain⟨mB,RB,e2,l2,s2⟩:=I.b h2 s1.rl lo lk;exact⟨mB,RB,bk e1 (bk (a:=true) rfl (bk e2 rfl)),l2,s1.trans s2⟩
 ·refine e12 (I.e h1 r lo lk) λRA e1 s1=> ?_;exact⟨m',RA,bk e1 (bk (a:=false) rfl rfl),lo,s1⟩
theorem lN6(I:HI H tp f){t:Tg}{l:List V}{b:List MS}{q:Fl×Lo×St}(h:exF (tpl tp) (f+1) t l b m S=some q)(r:Rl H S R)(lo:LoR H m m')(le:f+1<=f'):Exf H S R (exF prog f' t (ths H l) b m' R) q:=by
 obtain⟨k,rfl,lk⟩:=sf le
 cases l with
 |nil=>cases h;exact⟨m',R,rfl,lo,.refl r⟩
 |cons v l=>
  refine jG0 (G:=Exf H S R _) h (λmA fl mB SA hp h2 n h3=> ?_) λmA v' mB SA hp h2=> ?_
  ·obtain⟨m2',ep,l1⟩:=lo.put hp;obtain⟨mD,RB,e2,l2,s2⟩:=I.b h2 r l1 lk;obtain⟨mE,RC,e3,l3,s3⟩:=I.fr h3 s2.rl l2 lk;refine⟨mE,RC,bk ep (bk e2 ?_),l3,s2.trans s3⟩
   cases fl with
   |nx=>exact e3
   |rt v=>exact absurd rfl (n v)
   |ct=>exact e3
  ·obtain⟨m2',ep,l1⟩:=lo.put hp;obtain⟨mD,RB,e2,l2,s2⟩:=I.b h2 r l1 lk;exact⟨mD,RB,bk ep (bk e2 rfl),l2,s2⟩
theorem hom(C:Com H tp):∀f,HI H tp f
 |0=> .zero
 |f+1=>have I:=hom C f;⟨h_e C I,lN7 I,lN8 I,lN5 I,h_g I,h_i C I,lN4 I,h_l I,h_d I,h_c C I,h_s C I,h_b I,h_w I,lN6 I⟩
end
section
set_option genSizeOf false
theorem aN{a b:Bool}{G:Prop}(h:(a&&b)=true)(k:a=true->b=true->G):G:=by rw[Bool.and_eq_true]at h;exact k h.1 h.2
theorem aN3{a b c:Bool}{G:Prop}(h:(a&&(b&&c))=true)(k:a=true->b=true->c=true->G):G:=aN h λh0 h=>aN h λh1 h2=>k h0 h1 h2
theorem aN4{a b c d:Bool}{G:Prop}(h:(a&&(b&&(c&&d)))=true)(k:a=true->b=true->c=true->d=true->G):G:=aN h λh0 h=>aN h λh1 h=>aN h λh2 h3=>k h0 h1 h2 h3
theorem oR{a b:Bool}{G:Prop}(h:(a||b)=true)(k:a=true->G)(l:b=true->G):G:=by
 cases a
 ·exact l h
 ·exact k rfl
theorem aY{α:Type}{o:Option α}{p:α->Bool}{G:Prop}(h:o.any p=true)(k:∀a,o=some a->p a=true->G):G:=by
 cases o with
 |none=>exact ff h
 |some a=>exact k a rfl h
noncomputable abbrev mkr:List Nat:=[1000]
structure Par where
 rho:Nat->Nat
 inj:∀a b,rho a=rho b->a=b
 dat:List Nat
 base:Nat
 td:List Nat
 fin:Bool
 kn:∀(k c:Nat),td[k]?=some c->dat[base+k]?=some c
 en:if fin=true then dat.length=base+td.length else base+td.length<dat.length+1
 hl:td.length<90000
noncomputable def Par.tau(P:Par)(i:Int):Int:=if i<1000 then i else if i<100000 then P.base+(i-1000)else P.dat.length
noncomputable def Par.hm(P:Par):Hm:=⟨P.rho,P.tau,λl=>if l=mkr then P.dat else l,P.inj⟩
noncomputable def smi(i:Int):Bool:=decide (-1000<i)&&decide (i<1000)
noncomputable def ps(L:Nat)(i:Int):Bool:=decide (1000<=i)&&decide (i<=1000+L)
noncomputable def smV(v:V):Bool:=(iOf v).any smi
noncomputable def nmk(v:V):Bool:=(yOf v).any λl=>decide (l≠mkr)
mutual
noncomputable def pl:V->Bool
 | .none=>true
 | .bool _=>true
 | .int i=>smi i
 | .str _=>true
 | .bytes l=>decide (l≠mkr)
 | .tup l=>pls l
 | .lst l=>pls l
 | .dct ks vs=>pls ks&&pls vs
 | .ob _ _ vs=>pls vs
 | .loc _=>false
noncomputable def pls:List V->Bool
 | []=>true
 |v::r=>pl v&&pls r
end
noncomputable def lH3(L:Nat)(op:BOp)(x y:V):Bool:=match x with
 | .int a=>(iOf y).any λb=>(match op with
  | .add=>(smi a&&(smi b&&smi (a+b)))||(ps L a&&(smi b&&ps L (a+b)))
  | .sub=>(smi a&&(smi b&&smi (a-b)))||((ps L a&&(smi b&&ps L (a-b)))||(ps L a&&(ps L b&&smi (a-b))))
  | .mul=>smi a&&(smi b&&smi (a*b))
  | .fdiv=>smi a&&(smi b&&smi (a.fdiv b))
  | .mod=>smi a&&(smi b&&smi (a.fmod b)))
 | .bytes a=>decide (a≠mkr)&&(yOf y).any λb=>decide (b≠mkr)&&decide (a++b≠mkr)
 | .tup _=>true
 |_=>false
noncomputable def jQ9(L:Nat)(fin lg:Bool)(a b:Int):Bool:=(smi a&&smi b)||((ps L a&&ps L b)||(((!fin)&&decide (1000<=a)&&(decide (a<1000+L+cond lg 0 1)&&decide (b=100000)))||((ps L a||decide (a=100000))&&(decide (b<0)||(lg&&decide (b=0))))))
noncomputable def gEq(L:Nat)(S:St)(x y:V):Bool:=match x with
 | .int a=>(iOf y).any λb=>(smi a&&smi b)||(ps L a&&ps L b)
 | .str _=>true
 | .bytes a=>decide (a≠mkr)&&nmk y
 | .tup _=>false
 |_=>(gD4 S y).any (·.isEmpty)
noncomputable def lH4(x:V)(l:List V):Bool:=match x with
 | .int a=>smi a&&l.all smV
 | .str _=>true
 | .bytes a=>decide (a≠mkr)&&l.all nmk
 |_=>false
noncomputable def gIn(S:St)(x y:V):Bool:=match tOf y with
 |some l=>lH4 x l
 |none=>(getD S y).isSome&&gB4 x
noncomputable def lH2(L:Nat)(fin:Bool)(S:St)(op:COp)(x y:V):Bool:=match op with
 | .isn=>true
 | .notIsn=>true
 | .eq=>gEq L S x y
 | .ne=>gEq L S x y
 | .inn=>gIn S x y
 | .notIn=>gIn S x y
 | .lt=>(iOf x).any λa=>(iOf y).any λb=>jQ9 L fin true a b
 | .ge=>(iOf x).any λa=>(iOf y).any λb=>jQ9 L fin true a b
 | .le=>(iOf x).any λa=>(iOf y).any λb=>jQ9 L fin false a b
 | .gt=>(iOf x).any λa=>(iOf y).any λb=>jQ9 L fin false a b
noncomputable def dix(L:Nat)(v:V):Option Nat:=(iOf v).bind λi=>if ps L i=true then some (i-1000).toNat else none
section
variable(td:List Nat)(fin:Bool)
noncomputable def kU4(S:St)(o i:V):Option V:=match yOf o with
 |some l=>if l=mkr then(dix td.length i).bind λk=>(td[k]?).bind λc=>if c<1000 then some (.int (Int.ofNat c))else none
  else if smV i&&l.all (λc=>decide (c<1000))then hB1 S o i else none
 |none=>if(smV i&&((tOf o).isSome||(gD4 S o).isSome))||gB4 i then hB1 S o i else none
noncomputable def kZ4:V->Bool
 | .none=>true
 | .int a=>smi a
 |_=>false
noncomputable def lF4(S:St)(o a b:V):Option (V×St):=(yOf o).bind λl=>if l=mkr
 then(dix td.length a).bind λi=>(dix td.length b).bind λj=>if(td.take j).drop i≠mkr then some (.bytes ((td.take j).drop i),S)else none
 else if kZ4 a&&kZ4 b then(hN2 l.length a b).bind λp=>if(l.take p.2).drop p.1≠mkr then some (.bytes ((l.take p.2).drop p.1),S)else none else none
noncomputable def tBf(S:St)(b:BF)(l:List V):Option (V×St):=match b with
 | .len=>(a1 l).bind λv=>if yOf v=some mkr then some (.int (if fin then 1000+td.length else 100000),S)else(jE0 S v).bind λn=>if n<1000 then some (.int n,S)else none
 | .sorted=>(a1 l).bind λv=>(getD S v).bind λp=>if p.1.all gB4 then callB S .sorted l else none
 | .tuple=>callB S .tuple l
 | .list=>callB S .list l
 | .str=>(a1 l).bind λv=>if smV v then callB S .str l else none
 | .chr=>(a1 l).bind λv=>if smV v then callB S .chr l else none
 | .min=>(match l with
  | []=>none
  |a::r=>(a1 r).bind λb=>(iOf a).bind λx=>(iOf b).bind λy=>if x=y\/(smi x&&smi y)=true\/(ps td.length x&&ps td.length y)=true then some (.int (if y<x then y else x),S)else none)
 | .bytes=>(a1 l).bind λv=>match v with
  | .bytes x=>if x≠mkr then some (.bytes x,S)else none
  |v=>(gD4 S v).bind λq=>(a1 q).bind λu=>(iOf u).bind λi=>if 0<=i/\i<256 then some (.bytes [i.toNat],S)else none
 |_=>none
noncomputable def tBm(S:St)(b:BM)(o:V)(l:List V):Option (V×St):=match b with
 | .append=>callBM S .append o l
 | .pop0=>callBM S .pop0 o l
 | .strJoin=>callBM S .strJoin o l
 | .encode=>callBM S .encode o l
 | .get1=>(a1 l).bind λk=>if gB4 k then callBM S .get1 o l else none
 | .get2=>(match l with| []=>none|k::r=>if gB4 k then callBM S .get2 o l else none)
 | .bytesJoin=>(yOf o).bind λsep=>(a1 l).bind λv=>(gD4 S v).bind λq=>(gL8 q).bind λw=>if sep≠mkr/\q.all nmk=true/\gE7 sep w≠mkr then callBM S .bytesJoin o l else none
 | .pop1=>none
noncomputable def kU5(S:St)(v:V):Option (List V×St):=match yOf v with
 |some l=>if l≠mkr/\l.all (λc=>decide (c<1000))=true then gG2 S v else none
 |none=>gG2 S v
noncomputable def tPr(orc:Nat->Nat->List V->St->Option (V×St)):Pr:=
 ⟨pl,λop x y=>if lH3 td.length op x y then hI0 op x y else none,λS op x y=>if lH2 td.length fin S op x y then gK3 S op x y else none,kU4 td,lF4 td,tBf td fin,tBm,kU5,
  λl=>(hC7 l).bind λl'=>if pls l&&pls l' then some l' else none,false,gB4,orc⟩
end
section
variable{P:Par}{S S' R:St}
theorem gG0{i:Int}(h:smi i=true):P.tau i=i:=by unfold Par.tau;have:=oX (Bool.and_eq_true_iff.mp h).2;rw[if_pos this]
mutual
theorem gY4:∀ {v:V},pl v=true->th P.hm v=v
 | .none,_=>rfl
 | .bool _,_=>rfl
 | .int i,h=>congrArg V.int (gG0 h)
 | .str _,_=>rfl
 | .bytes l,h=>congrArg V.bytes (if_neg (oX h))
 | .tup l,h=>congrArg V.tup (gD3 h)
 | .lst l,h=>congrArg V.lst (gD3 h)
 | .dct ks vs,h=>aN h λa b=>by show V.dct (ths P.hm ks) (ths P.hm vs)=_;rw[gD3 a,gD3 b]
 | .ob c ns vs,h=>congrArg (V.ob c ns) (gD3 h)
 | .loc _,h=>ff h
theorem gD3:∀ {l:List V},pls l=true->ths P.hm l=l
 | [],_=>rfl
 |v::r,h=>aN h λa b=>by show th P.hm v::ths P.hm r=_;rw[gY4 a,gD3 b]
end
end
end
section
variable{P:Par}{S S' R:St}
theorem kQ2{L:Nat}{i:Int}(h:ps L i=true):1000<=i/\i<=1000+L:=aN h λa b=>⟨oX a,oX b⟩
theorem gN4{i:Int}(h:ps P.td.length i=true):P.tau i=P.base+(i-1000):=by refine e02 (kQ2 h) λa b=> ?_;have hl:=P.hl;unfold Par.tau;rw[if_neg (Int.not_lt.mpr a),if_pos (Int.lt_of_le_of_lt b (Int.lt_trans (Int.add_lt_add_left (Int.ofNat_lt.mpr hl) 1000) (by decide)))]
theorem gI7(i:Int):th P.hm (.int i)= .int (P.tau i):=rfl
theorem gF9{l:List Nat}(h:l≠mkr):th P.hm (.bytes l)= .bytes l:=congrArg V.bytes (if_neg h)
theorem hD9{v:V}{i:Int}(h:iOf v=some i):th P.hm v= .int (P.tau i):=by rw[gD7 h];rfl
theorem gX8{v:V}(h:smV v=true):th P.hm v=v:=aY h λi e k=>by rw[gD7 e];exact congrArg V.int (gG0 k)
theorem hQ2{v:V}(h:nmk v=true):th P.hm v=v:=aY h λi e k=>by rw[gD6 e];exact gF9 (oX k)
theorem hI3{p:V->Bool}(hp:∀ {v},p v=true->th P.hm v=v):∀ {l:List V},l.all p=true->ths P.hm l=l
 | [],_=>rfl
 |v::l,h=>aN h λa b=>by show th P.hm v::ths P.hm l=_;rw[hp a,hI3 hp b]
theorem lD2{op:BOp}{x y z:V}(h:(if lH3 P.td.length op x y then hI0 op x y else none)=some z):hI0 op (th P.hm x) (th P.hm y)=some (th P.hm z):=by
 refine ifs h λg e=> ?_
 cases x with
 |int a=>
  refine aY g λb hb g=> ?_;rw[gD7 hb]at e⊢;rw[gI7,gI7];have fx:∀ {i},smi i=true->P.tau i=i:=gG0;have fp:=λ{i}=>gN4 (P:=P) (i:=i)
  cases op with
  |add=>
   cases e;rw[gI7];refine congrArg some (congrArg V.int ?_);refine oR g (λg=>aN3 g λg1 g2 g3=> ?_) λg=>aN3 g λg1 g2 g3=> ?_
   ·rw[fx g1,fx g2,fx g3]
   ·rw[fp g1,fx g2,fp g3];lia
  |sub=>
   cases e;rw[gI7];refine congrArg some (congrArg V.int ?_);refine oR g (λg=>aN3 g λg1 g2 g3=> ?_) λg=>oR g (λg=>aN3 g λg1 g2 g3=> ?_) λg=>aN3 g λg1 g2 g3=> ?_
   ·rw[fx g1,fx g2,fx g3]
   ·rw[fp g1,fx g2,fp g3];lia
   ·rw[fp g1,fp g2,fx g3];lia
  |mul=>
   refine aN3 g λg1 g2 g3=> ?_;rw[fx g1,fx g2];refine ifs (show(if _/\_ then some (V.int (a*b))else none)=some z from e) λc e'=> ?_;cases e'
   rw[gI7,fx g3];exact e
  |fdiv=>
   refine aN3 g λg1 g2 g3=> ?_;rw[fx g1,fx g2];refine ifs (show(if _/\_ then some (V.int (a.fdiv b))else none)=some z from e) λc e'=> ?_;cases e'
   rw[gI7,fx g3];exact e
  |mod=>
   refine aN3 g λg1 g2 g3=> ?_;rw[fx g1,fx g2];refine ifs (show(if b≠0 then some (V.int (a.fmod b))else none)=some z from e) λc e'=> ?_;cases e'
   rw[gI7,fx g3];exact e
 |bytes a=>
  refine aN g λg1 g=>aY g λb hb g=>aN g λg2 g3=> ?_;rw[gD6 hb]at e⊢;rw[gF9 (oX g1),gF9 (oX g2)]
  cases op<;>first
   |(refine ifs (show(if small (a.length+b.length)then some (V.bytes (a++b))else none)=some z from e) λc e'=> ?_
     cases e'
     rw[gF9 (oX g3)];exact e)
   |exact nn e
 |tup a=>
  cases op<;>first
   |(refine bd (show(tOf y).bind _=some z from e) λb hb e=>ifs e λc e=> ?_
     cases e;rw[gI8 hb];refine ik (by rw[gF3,gF3];exact c) ?_
     exact congrArg some (congrArg V.tup (hF0 a b).symm))
   |exact nn e
 |_=>exact ff g
theorem sh_lt{x a b c:Int}:a<b↔x+(a-c)<x+(b-c):=by lia
theorem kW6{a x:Int}(h:0<=a)(k:0<=x):a<0↔x<0:=iff_of_false (Int.not_lt.mpr h) (Int.not_lt.mpr k)
theorem hF2{lg:Bool}{a b:Int}(g:jQ9 P.td.length P.fin lg a b=true):(lg=true->(a<b↔P.tau a<P.tau b))/\(lg=false->(b<a↔P.tau b<P.tau a)):=by
 have fx:∀ {i},smi i=true->P.tau i=i:=gG0;have fp:=λ{i}=>gN4 (P:=P) (i:=i);refine oR g (λg=>aN g λg1 g2=> ?_) λg=>oR g (λg=>aN g λg1 g2=> ?_) λg=>oR g (λg=>aN3 g λg0 g2 g3=> ?_) λg=>aN g λg1 g2=> ?_
 ·rw[fx g1,fx g2];exact⟨λδ=>Iff.rfl,λδ=>Iff.rfl⟩
 ·rw[fp g1,fp g2];exact⟨λδ=>sh_lt,λδ=>sh_lt⟩
 ·refine aN g0 λff g1=> ?_
  have ff:P.fin=false:=by
   cases h:P.fin
   ·rfl
   ·rw[h]at ff;cases ff
  have g1:=oX g1;have g2:=oX g2;have g3:=oX g3;subst g3;have en:=P.en;have hl:=P.hl;rw[if_neg (by rw[ff];decide)]at en;have g2':a<1000+(P.td.length:Int)+1:=Int.lt_of_lt_of_le g2 (Int.add_le_add_left (by cases lg<;>decide) _);have lh:1000+(P.td.length:Int)<=100000:=Int.le_trans (Int.add_le_add_left (Int.ofNat_le.mpr (Nat.le_of_lt hl)) 1000) (by decide);have en:(P.base:Int)+P.td.length<=P.dat.length:=Int.ofNat_le.mpr (Nat.le_of_lt_succ en);rw[fp (i:=a) (by unfold ps;rw[dT g1,dT (Int.le_of_lt_add_one g2')];rfl)];rw[show P.tau 100000=P.dat.length by unfold Par.tau;rw[if_neg (by decide),if_neg (by decide)]];cases lg
  ·exact⟨nofun,λδ=>iff_of_false (Int.not_lt.mpr (Int.le_trans (Int.le_of_lt_add_one g2') lh)) (Int.not_lt.mpr (Int.le_trans (Int.add_le_add_left (Int.sub_left_le_of_le_add (Int.le_of_lt_add_one g2')) _) en))⟩
  ·exact⟨λδ=>have g2:a<1000+(P.td.length:Int):=g2;iff_of_true (Int.lt_of_lt_of_le g2 lh) (Int.lt_of_lt_of_le (Int.add_lt_add_left (Int.sub_left_lt_of_lt_add g2) _) en),nofun⟩
 ·have ta:0<=P.tau a:=by
   refine oR g1 (λg1=> ?_) λg1=> ?_
   ·rw[fp g1];exact Int.add_nonneg (Int.natCast_nonneg _) (Int.sub_nonneg.mpr (kQ2 g1).1)
   ·rw[oX g1];unfold Par.tau;rw[if_neg (by decide),if_neg (by decide)];exact Int.natCast_nonneg _
  have ga:1000<=a:=by refine oR g1 (λg1=>(kQ2 g1).1) λg1=> ?_;rw[oX g1];decide
  refine oR g2 (λg2=> ?_) λg2=>aN g2 λq1 q2=> ?_
  ·have g2:=oX g2;have:P.tau b=b:=if_pos (Int.lt_trans g2 (by decide));rw[this];have g0:b<a:=Int.lt_of_lt_of_le g2 (Int.le_trans (by decide) ga);have g1:=Int.lt_of_lt_of_le g2 ta;exact⟨λδ=>iff_of_false (Int.not_lt.mpr (Int.le_of_lt g0)) (Int.not_lt.mpr (Int.le_of_lt g1)),λδ=>iff_of_true g0 g1⟩
  ·have g3:=oX q2;subst g3 q1;have:P.tau 0=0:=by unfold Par.tau;rw[if_pos (by decide)]
   rw[this];exact⟨λδ=>kW6 (Int.le_trans (by decide) ga) ta,by nofun⟩
end
section
variable{P:Par}{S S' R:St}
theorem gQ2{H:Hm}(v:V):gD0 (th H v)=gD0 v:=by cases v<;>rfl
theorem jY5{a b:Int}(h:(smi a&&smi b||ps P.td.length a&&ps P.td.length b)=true):(P.tau a==P.tau b)=(a==b):=by
 refine oR h (λh=>aN h λx y=> ?_) λh=>aN h λx y=> ?_
 ·rw[gG0 x,gG0 y]
 ·rw[gN4 x,gN4 y];exact Bool.eq_iff_iff.mpr ⟨λe=>beq_iff_eq.mpr (by have:=beq_iff_eq.mp e;lia),λe=>beq_iff_eq.mpr (by rw[beq_iff_eq.mp e])⟩
theorem jR2{x:List V}{b:Bool}(h:eqL x []=some b){H:Hm}:eqL (ths H x) []=some b:=by
 cases x with
 |nil=>exact h
 |cons v r=>exact h
theorem iD4(r:Rl P.hm S R){x y:V}{b:Bool}(g:(gD4 S y).any (·.isEmpty)=true)(e:eqC S x y=some b):eqC R (th P.hm x) (th P.hm y)=some b:=by
 refine aY g λq hq hy=> ?_;have hy:q=[]:=by cases q<;>first|rfl|exact ff hy
 subst hy;have ry:=gI0 r hq;unfold eqC at e⊢
 cases hx:gD4 S x with
 |some l=>
  rw[gI0 r hx,ry];rw[hx,hq]at e
  exact jR2 (show eqL l []=some b from e)
 |none=>
  rw[hx]at e;refine bd (show eqD S x y=some b from e) λp δ e=>bd e λq' e' δ=> ?_
  exact gS9 (G:=λy=>getD S y=some q'->_) hq (λh=>nn h) (λk hk h=>by
   refine bd (show iC9 S k=some q' from h) λo ho h=> ?_
   rw[hk]at ho;cases ho;exact nn h) e'
theorem lI0(r:Rl P.hm S R){x y:V}{b:Bool}(g:gEq P.td.length S x y=true)(e:eqV S x y=some b):eqV R (th P.hm x) (th P.hm y)=some b:=by
 cases x with
 |int a=>
  refine aY g λc hc g=> ?_;rw[gD7 hc]at e⊢;cases e
  exact congrArg some (jY5 g)
 |str a=>
  refine bd e λc hc e=> ?_
  rw[gK6 hc];exact e
 |bytes a=>
  refine aN g λg1 g2=> ?_
  rw[gF9 (oX g1),hQ2 g2];exact e
 |tup a=>exact ff g
 |none=>exact iD4 (x:= .none) r g e
 |bool a=>exact iD4 (x:= .bool a) r g e
 |lst a=>exact iD4 (x:= .lst a) r g e
 |dct a b=>exact iD4 (x:= .dct a b) r g e
 |ob a b c=>exact iD4 (x:= .ob a b c) r g e
 |loc a=>exact iD4 (x:= .loc a) r g e
theorem iR7{H:Hm}(f:V->Bool)(h:∀v,f (th H v)=f v)(l:List V):(ths H l).any f=l.any f:=by
 induction l with
 |nil=>rfl
 |cons v l ih=>show(f (th H v)||(ths H l).any f)=(f v||l.any f);rw[h,ih]
theorem lD3{x:V}{l:List V}{b:Bool}(g:lH4 x l=true)(e:gR4 x l=some b):gR4 (th P.hm x) (ths P.hm l)=some b:=by
 cases x with
 |int a=>exact aN g λg1 g2=>by rw[hI3 gX8 g2,gI7,gG0 g1];exact e
 |str a=>
  refine ifs e λc e=>ik ((gT6 l).trans c) ?_;rw[←e];refine congrArg some (iR7 _ (λv=> ?_) l);show(sOf (th P.hm v)==some a)=(sOf v==some a)
  rw[gW8]
 |bytes a=>exact aN g λg1 g2=>by rw[hI3 hQ2 g2,gF9 (oX g1)];exact e
 |_=>exact ff g
theorem lH9(r:Rl P.hm S R){x y:V}{b:Bool}(g:gIn S x y=true)(e:inV S x y=some b):inV R (th P.hm x) (th P.hm y)=some b:=by
 unfold gIn at g;unfold inV at e⊢
 cases hy:tOf y with
 |some l=>
  rw[hy]at g e;rw[hJ3 hy]
  exact lD3 g e
 |none=>
  rw[hy]at g e;refine aN g λg1 g2=> ?_;refine e11 (Option.isSome_iff_exists.mp g1) λp hp=> ?_;have ht:tOf (th P.hm y)=none:=by cases y<;>first|rfl|exact nn hy.symm
  rw[ht];show(match getD R (th P.hm y)with|some p=>if gA8 (th P.hm x) p.1 then some (p.1.any (gB1 (th P.hm x)))else none|none=>_)=_;rw[gW9 r hp];have e:(match getD S y with|some p=>if gA8 x p.1 then some (p.1.any (gB1 x))else none|none=>(gD4 S y).bind λl=>gR4 x l)=some b:=e;rw[hp]at e;obtain⟨a,rfl⟩:=gF8 g2;refine ifs e λc e=>ik ((gT6 p.1).trans c) ?_;rw[←e];exact congrArg some (iR7 _ (λv=>gS0 rfl v) p.1)
theorem kR8{x y:V}{b:Bool}{q q':Int->Int->Bool}(h:∀a b,iOf x=some a->iOf y=some b->q' (P.tau a) (P.tau b)=q a b)(e:(ii x y λa b=>some (q a b))=some b):(ii (th P.hm x) (th P.hm y) λa b=>some (q' a b))=some b:=bd e λa ha e=>bd e λc hc e=>by rw[hD9 ha,hD9 hc];cases e;exact congrArg some (h a c ha hc)
theorem hF8{lg:Bool}{x y:V}(g:((iOf x).any λa=>(iOf y).any λb=>jQ9 P.td.length P.fin lg a b)=true){a b:Int}(ha:iOf x=some a)(hb:iOf y=some b):jQ9 P.td.length P.fin lg a b=true:=by rw[ha,hb]at g;exact g
theorem lD1(r:Rl P.hm S R){op:COp}{x y:V}{b:Bool}(h:(if lH2 P.td.length P.fin S op x y then gK3 S op x y else none)=some b):gK3 R op (th P.hm x) (th P.hm y)=some b:=by
 refine ifs h λg e=> ?_
 cases op with
 |eq=>exact lI0 r g e
 |ne=>exact bd e λc hc e=>bk (lI0 r g hc) e
 |isn=>exact ifs e λc e=>ik ((gQ2 y).trans c) (by rw[gQ2];exact e)
 |notIsn=>exact ifs e λc e=>ik ((gQ2 y).trans c) (by rw[gQ2];exact e)
 |inn=>exact lH9 r g e
 |notIn=>exact bd e λc hc e=>bk (lH9 r g hc) e
 |lt=>exact kR8 (λa b ha hb=>decide_eq_decide.mpr ((hF2 (hF8 g ha hb)).1 rfl).symm) e
 |ge=>exact kR8 (q:=λx y=>decide (y<=x)) (λa b ha hb=>decide_eq_decide.mpr (Int.not_lt.symm.trans ((not_congr ((hF2 (hF8 g ha hb)).1 rfl).symm).trans Int.not_lt))) e
 |gt=>exact kR8 (q:=λx y=>decide (y<x)) (λa b ha hb=>decide_eq_decide.mpr ((hF2 (hF8 g ha hb)).2 rfl).symm) e
 |le=>exact kR8 (q:=λx y=>decide (x<=y)) (λa b ha hb=>decide_eq_decide.mpr (Int.not_lt.symm.trans ((not_congr ((hF2 (hF8 g ha hb)).2 rfl).symm).trans Int.not_lt))) e
theorem hP1{H:Hm}{k:V}(hk:∀x,gB1 (th H k) (th H x)=gB1 k x){u:V}:∀ {ks vs:List V},gK2 k ks vs=some u->gK2 (th H k) (ths H ks) (ths H vs)=some (th H u)
 | [],_,e=>nn e
 |_::_,[],e=>nn e
 |x::ks,v::vs,e=>by
  have e:(if gB1 k x then some v else gK2 k ks vs)=some u:=e;show(if gB1 (th H k) (th H x)then some (th H v)else gK2 (th H k) (ths H ks) (ths H vs))=_;rw[hk]
  by_cases q:gB1 k x=true
  ·rw[if_pos q]at e⊢;cases e;rfl
  ·rw[if_neg q]at e⊢;exact hP1 hk e
theorem jD0{H:Hm}{l:List V}{i:Nat}{u:V}(e:l[i]?=some u):(ths H l)[i]?=some (th H u):=by rw[gD5,List.getElem?_map,e];rfl
theorem iF1{H:Hm}{l:List V}{u:V}(e:l.getLast?=some u):(ths H l).getLast?=some (th H u):=by rw[gD5,List.getLast?_map,e];rfl
theorem kO1{H:Hm}(r:Rl H S R){o k u:V}(hs:gB4 k=true)(e:kB4 S o k=some u):kB4 R (th H o) (th H k)=some (th H u):=by obtain⟨a,rfl⟩:=gF8 hs;exact bd e λp hp e=>ifs e λc e=>bk (gW9 r hp) (ik ((gT6 p.1).trans c) (hP1 (gS0 rfl) e))
theorem dx1{i:Int}{L:Nat}(h:1000<=i/\i<=1000+L):i=1000+((i-1000).toNat:Int):=by rw[Int.toNat_of_nonneg (Int.sub_nonneg.mpr h.1)];exact((Int.add_comm _ _).trans (Int.sub_add_cancel i 1000)).symm
theorem dx2{i:Int}{L:Nat}(h:1000<=i/\i<=1000+L):(i-1000).toNat<=L:=Int.toNat_le.mpr (Int.sub_left_le_of_le_add h.2)
theorem jS7{L:Nat}{v:V}{k:Nat}(h:dix L v=some k):iOf v=some (1000+k)/\k<=L:=bd h λi hi h=>ifs h λc h=>by have:=kQ2 c;cases h;exact⟨hi.trans (congrArg some (dx1 this)),dx2 this⟩
theorem iO3{v:V}{k:Nat}(h:dix P.td.length v=some k):th P.hm v= .int (Int.ofNat (P.base+k)):=by
 refine e02 (jS7 h) λa b=> ?_;rw[hD9 a,gN4 (by unfold ps;simp;lia)]
 congr 1
 rw[Int.ofNat_eq_natCast];lia
theorem iF0:th P.hm (.bytes mkr)= .bytes P.dat:=congrArg V.bytes (show(if mkr=mkr then P.dat else mkr)=P.dat from if_pos rfl)
theorem jH6(d n:Nat):kR7 d (.int (Int.ofNat n))=some n:=ik (c:=(0:Int)<=Int.ofNat n) (Int.natCast_nonneg _) rfl
theorem lC4(r:Rl P.hm S R){o k u:V}(e:kU4 P.td S o k=some u):hB1 R (th P.hm o) (th P.hm k)=some (th P.hm u):=by
 unfold kU4 at e
 cases ho:yOf o with
 |some l=>
  rw[ho]at e
  have e:(if l=mkr then(dix P.td.length k).bind λk=>(P.td[k]?).bind λc=>if c<1000 then some (.int (Int.ofNat c))else none
   else if smV k&&l.all (λc=>decide (c<1000))then hB1 S o k else none)=some u:=e
  rw[gD6 ho]at e⊢
  by_cases q:l=mkr
  ·rw[if_pos q]at e;refine bd e λi hi e=>bd e λc hc e=>ifs e λc1 e=> ?_;cases e;rw[iO3 hi,q,iF0];refine ik (c:=(0:Int)<=Int.ofNat (P.base+i)) (Int.natCast_nonneg _) (bk (P.kn i c hc) ?_);rw[gI7,gG0 (by unfold smi;rw[Int.ofNat_eq_natCast];simp;lia)]
  ·rw[if_neg q]at e;refine ifs e λg e=>aN g λg1 g2=> ?_;rw[gX8 g1,gF9 q];refine aY g1 λi hi g1=> ?_;rw[gD7 hi]at e⊢;have e:(if 0<=i then(l[i.toNat]?).bind λc=>some (V.int (Int.ofNat c))else none)=some u:=e;refine ifs e λc0 e=>bd e λc hc e=> ?_;cases e;refine ik c0 (bk hc ?_);have:=oX (List.all_eq_true.mp g2 c (List.mem_of_getElem? hc))
   rw[gI7,gG0 (by unfold smi;rw[Int.ofNat_eq_natCast];simp;lia)]
 |none=>
  rw[ho]at e;refine ifs e λg e=>oR g (λg=>aN g λg1 g2=> ?_) λg=> ?_
  ·refine aY g1 λi hi g1=> ?_;have fi:th P.hm k=k:=gX8 (by unfold smV;rw[hi];exact g1);rw[fi];rw[gD7 hi]at e⊢;have hy':yOf (th P.hm o)=none:=by cases o<;>first|rfl|exact nn ho.symm
   unfold hB1 at e⊢
   cases ht:tOf o with
   |some l=>
    rw[ht]at e;rw[hJ3 ht]
    exact ifs (show(if 0<=i then l[i.toNat]? else none)=some u from e) λc0 e=>(if_pos c0).trans (jD0 e)
   |none=>
    have ht':tOf (th P.hm o)=none:=by cases o<;>first|rfl|exact nn ht.symm
    rw[ht,ho]at e;rw[ht',hy'];refine oR g2 (λg2=>by rw[ht]at g2;exact ff g2) λg2=> ?_;refine e11 (Option.isSome_iff_exists.mp g2) λl hl=> ?_;rw[hl]at e;rw[gI0 r hl];have e:(if 0<=i then l[i.toNat]? else if i= -1 then l.getLast? else none)=some u:=e;show(if 0<=i then(ths P.hm l)[i.toNat]? else if i= -1 then(ths P.hm l).getLast? else none)=_
    by_cases c0:0<=i
    ·rw[if_pos c0]at e⊢;exact jD0 e
    ·rw[if_neg c0]at e⊢;exact ifs e λc1 e=>(if_pos c1).trans (iF1 e)
  ·obtain⟨a,rfl⟩:=gF8 g;exact kO1 (k:= .str a) r rfl e
theorem lU4{i j:Nat}(hi:i<=P.td.length)(hj:j<=P.td.length):(P.dat.take (P.base+j)).drop (P.base+i)=(P.td.take j).drop i:=by
 have hlen:P.base+P.td.length<=P.dat.length:=by
  have:=P.en
  by_cases q:P.fin=true
  ·rw[if_pos q]at this;exact Nat.le_of_eq this.symm
  ·rw[if_neg q]at this;exact Nat.le_of_lt_succ this
 refine List.ext_getElem? λn=> ?_;rw[List.getElem?_drop,List.getElem?_drop,List.getElem?_take,List.getElem?_take]
 by_cases q:i+n<j
 ·rw[if_pos (Nat.lt_of_le_of_lt (Nat.le_of_eq (Nat.add_assoc ..)) (Nat.add_lt_add_left q _)),if_pos q];have:P.td[i+n]?=some (P.td[i+n]'(by(exact Nat.le_trans q hj))):=List.getElem?_eq_getElem _;rw[this,Nat.add_assoc];exact P.kn _ _ this
 ·rw[if_neg (λz=>q (Nat.lt_of_add_lt_add_left (Nat.lt_of_le_of_lt (Nat.le_of_eq (Nat.add_assoc ..).symm) z))),if_neg q]
theorem hW7{v:V}(h:kZ4 v=true):th P.hm v=v:=by cases v<;>first|rfl|exact congrArg V.int (gG0 h)|exact ff h
theorem lC5(r:Rl P.hm S R){o a b:V}{q:V×St}(e:lF4 P.td S o a b=some q):Ex P.hm S R (jK2 R (th P.hm o) (th P.hm a) (th P.hm b)) q:=by
 refine bd e λl hl e=> ?_;rw[gD6 hl]
 by_cases m:l=mkr
 ·rw[if_pos m]at e;refine bd e λi hi e=>bd e λj hj e=>ifs e λc e=> ?_;cases e;refine⟨R,?_,.refl r⟩;rw[iO3 hi,iO3 hj,gF9 c];rw[m,iF0,←lU4 (jS7 hi).2 (jS7 hj).2];have sl:∀a b,jK2 R (.bytes P.dat) a b=(hN2 P.dat.length a b).bind λp=>some (V.bytes ((P.dat.take p.2).drop p.1),R):=λδ δ=>rfl;rw[sl];exact bk (o:=hN2 _ _ _) (a:=(P.base+i,P.base+j)) (bk (jH6 _ (P.base+i)) (bk (jH6 _ (P.base+j)) rfl)) rfl
 ·rw[if_neg m]at e;refine ifs e λg e=>aN g λg1 g2=>bd e λp hp e=>ifs e λc e=> ?_;cases e;refine⟨R,?_,.refl r⟩;rw[hW7 g1,hW7 g2,gF9 m,gF9 c];exact bk hp rfl
end
section
variable{P:Par}{S S' R:St}
theorem gP2{H:Hm}{l:List V}{v:V}(h:a1 l=some v):a1 (ths H l)=some (th H v):=by rw[hI4 h];rfl
theorem kA8{H:Hm}{v:V}(h:tOf v=none):tOf (th H v)=none:=by cases v<;>first|rfl|exact nn h.symm
theorem jX2{H:Hm}{v:V}(h:yOf v=none):yOf (th H v)=none:=by cases v<;>first|rfl|exact nn h.symm
theorem lC7(r:Rl P.hm S R){v:V}{n:Nat}(m:yOf v≠some mkr)(e:jE0 S v=some n):jE0 R (th P.hm v)=some n:=by
 unfold jE0 at e⊢
 cases ht:tOf v with
 |some l=>rw[ht]at e;rw[hJ3 ht];cases e;exact congrArg some (gF3 l)
 |none=>
  rw[ht]at e;rw[kA8 ht]
  cases hy:yOf v with
  |some l=>
   have n:l≠mkr:=λq=>m (hy.trans (congrArg some q));have hy':yOf (th P.hm v)=some l:=by rw[gD6 hy,gF9 n];rfl
   rw[hy]at e;rw[hy'];exact e
  |none=>
   rw[hy]at e;rw[jX2 hy];exact bd e λl hl e=>bk (gI0 r hl) (e▸congrArg some (gF3 l))
theorem iE9(r:Rl P.hm S R)(l:List V):Ex P.hm S R (some (iS8 R (ths P.hm l))) (iS8 S l):=⟨_,congrArg some (congrArg (λk=>(V.loc k,_)) (r.new 0).symm),r.mk_new (.lst l)⟩
theorem iG1{H:Hm}{l:List V}{q:List (List Nat)}(e:gX2 l=some q):gX2 (ths H l)=some q:=by
 induction l generalizing q with
 |nil=>exact e
 |cons v l ih=>exact bd e λa ha e=>bd e λb hb e=>bk ((gW8 v).trans ha) (bk (ih hb) e)
theorem iU4{H:Hm}(l:List (List Nat)):ths H (l.map .str)=l.map .str:=by rw[gD5,List.map_map];rfl
theorem iU9{i:Int}(a: -1000<i)(b:i<1000):smi i=true:=by unfold smi;rw[dT a,dT b];rfl
theorem lV1(r:Rl P.hm S R){b:BF}{l:List V}{q:V×St}(e:tBf P.td P.fin S b l=some q):Ex P.hm S R (callB R b (ths P.hm l)) q:=by
 cases b with
 |len=>
  refine bd e λv hv e=> ?_;refine(show Ex P.hm S R ((a1 (ths P.hm l)).bind λv=>(jE0 R v).bind λn=>some (.int n,R)) q from ?_);rw[gP2 hv]
  by_cases m:yOf v=some mkr
  ·rw[if_pos m]at e;cases e;refine⟨R,?_,.refl r⟩;rw[gD6 m,iF0,gI7];refine congrArg (λi=>some (V.int i,R)) ?_
   by_cases f:P.fin=true
   ·rw[if_pos f];have en:=P.en;rw[if_pos f]at en;rw[gN4 (by unfold ps;simp;omega),en];omega
   ·rw[if_neg f];show _=P.tau 100000;unfold Par.tau;rw[if_neg (by decide),if_neg (by decide)]
  ·rw[if_neg m]at e;refine bd e λn hn e=>ifs e λc e=> ?_;cases e;refine⟨R,bk (a:=th P.hm v) rfl (bk (lC7 r m hn) ?_),.refl r⟩
   rw[gI7,gG0 (iU9 (Int.lt_of_lt_of_le (by decide) (Int.natCast_nonneg _)) (Int.ofNat_lt.mpr c))]
 |sorted=>
  refine bd e λv hv e=>bd e λp hp e=>ifs e λc e=>bd e λv' hv' e=>bd e λz hz e9=> ?_;rw[hv]at hv';cases hv';cases e9;have hl:gD4 S v=none:=gG8 (G:=λv=>gD4 S v=none) hp rfl λk hk=>by show(S.h k).bind iW7=none;rw[hk];rfl
  have hl':gD4 R (th P.hm v)=none:=by refine gG8 (G:=λv=>gD4 R (th P.hm v)=none) hp rfl λk hk=>by show(R.h (P.rho k)).bind iW7=none;rw[show R.h (P.rho k)=_ from r.at_ _ _ hk];rfl
  refine(show Ex P.hm S R ((a1 (ths P.hm l)).bind λv=>(gO4 R v).bind λl=>some (iS8 R l)) _ from ?_);rw[gP2 hv];unfold gO4 at hz;rw[hl]at hz;have hz:((getD S v).bind λp=>if p.1.all gC5 then gK5 p.1 else gU2 p.1)=some z:=hz;rw[hp]at hz;have hz:(if p.1.all gC5 then gK5 p.1 else gU2 p.1)=some z:=hz
  have g:gO4 R (th P.hm v)=some z/\ths P.hm z=z:=by
   unfold gO4;rw[hl'];refine(show((getD R (th P.hm v)).bind λp=>if p.1.all gC5 then gK5 p.1 else gU2 p.1)=some z/\_ from ?_);rw[gW9 r hp];refine(show(if(ths P.hm p.1).all gC5 then gK5 (ths P.hm p.1)else gU2 (ths P.hm p.1))=some z/\_ from ?_)
   cases hq:p.1 with
   |nil=>rw[hq]at hz;cases hz;exact⟨rfl,rfl⟩
   |cons x xs=>
    rw[hq]at c hz;have n:(x::xs).all gC5=false:=by have:gB4 x=true:=aN c λa δ=>a;obtain⟨s,rfl⟩:=gF8 this;rfl
    have n':(ths P.hm (x::xs)).all gC5=false:=by have:gB4 x=true:=aN c λa δ=>a;obtain⟨s,rfl⟩:=gF8 this;rfl
    rw[n]at hz;rw[n'];refine bd (show gU2 (x::xs)=some z from hz) λw hw e=>ifs e λc e=> ?_;cases e;exact⟨bk (iG1 hw) (ik c rfl),iU4 _⟩
  refine e12 (iE9 r z) λR' e s=> ?_;rw[g.2]at e
  exact⟨R',bk (a:=th P.hm v) rfl (bk g.1 e),s⟩
 |tuple=>exact bd e λv hv e=>bd e λz hz e=>by cases e;exact⟨R,bk (gP2 hv) (bk (gI0 r hz) rfl),.refl r⟩
 |list=>
  refine bd e λv hv e=>bd e λz hz e=> ?_;cases e;refine e12 (iE9 r z) λR' e s=> ?_
  exact⟨R',bk (gP2 hv) (bk (gI0 r hz) e),s⟩
 |str=>
  refine bd e λv hv e=>ifs e λg e=>bd e λv' hv' e=>bd e λi hi e=>ifs e λc e9=> ?_;rw[hv]at hv';cases hv';cases e9
  exact⟨R,bk (gP2 hv) (by rw[gX8 g];exact bk hi (ik c rfl)),.refl r⟩
 |chr=>
  refine bd e λv hv e=>ifs e λg e=>bd e λv' hv' e=>bd e λi hi e=>ifs e λc e9=> ?_;rw[hv]at hv';cases hv';cases e9
  exact⟨R,bk (gP2 hv) (by rw[gX8 g];exact bk hi (ik c rfl)),.refl r⟩
 |min=>
  cases l with
  |nil=>exact nn e
  |cons a l=>
   refine bd e λb hb e=>bd e λx hx e=>bd e λy hy e=>ifs e λc e=> ?_;cases e;refine⟨R,bk (o:=kX4 (ths P.hm (a::l))) (bk (gP2 hb) (show ii (th P.hm a) (th P.hm b) (λx y=>some (V.int (if y<x then y else x)))=some (V.int (if P.tau y<P.tau x then P.tau y else P.tau x))by rw[hD9 hx,hD9 hy];rfl)) ?_,.refl r⟩;refine congrArg (λi=>some (V.int i,R)) ?_;show _=P.tau _;rcases c with c|c|c
   ·subst c;rw[if_neg (by lia),if_neg (by lia)]
   ·refine aN c λa b=> ?_;rw[gG0 a,gG0 b]
    by_cases q:y<x
    ·rw[if_pos q,gG0 b]
    ·rw[if_neg q,gG0 a]
   ·refine aN c λa b=> ?_
    by_cases q:y<x
    ·rw[if_pos q,if_pos (by rw[gN4 a,gN4 b];exact sh_lt.mp q)]
    ·rw[if_neg q,if_neg (by rw[gN4 a,gN4 b];exact mt sh_lt.mpr q)]
 |bytes=>
  refine bd e λv hv e=> ?_;refine(show Ex P.hm S R ((a1 (ths P.hm l)).bind λv=>(hN7 R v).bind λu=>some (u,R)) q from ?_);rw[gP2 hv];have nb:∀w,(gD4 S w).bind (λq=>(a1 q).bind λu=>(iOf u).bind λi=>if 0<=i/\i<256 then some (V.bytes [i.toNat],S)else none)=some q->hN7 R (th P.hm w)=(gD4 R (th P.hm w)).bind (λl=>(a1 l).bind λu=>(iOf u).bind λi=>if 0<=i/\i<256 then some (.bytes [i.toNat])else none)->Ex P.hm S R ((hN7 R (th P.hm w)).bind λu=>some (u,R)) q:=λw e h=>by refine bd e λz hz e=>bd e λu hu e=>bd e λi hi e=>ifs e λc e=> ?_;cases e;have sm:smi i=true:=iU9 (Int.lt_of_lt_of_le (by decide) c.1) (Int.lt_trans c.2 (by decide));refine⟨R,bk (h.trans (bk (gI0 r hz) (bk (gP2 hu) (bk (show iOf (th P.hm u)=some i by rw[hD9 hi,gG0 sm];rfl) (ik c rfl))))) ?_,.refl r⟩;rw[gF9];intro q;have:=List.head_eq_of_cons_eq q;omega
  cases v with
  |bytes x=>
   refine ifs e λc e=> ?_;cases e;refine⟨R,?_,.refl r⟩
   rw[gF9 c];rfl
  |none=>exact nb _ e rfl
  |bool a=>exact nb _ e rfl
  |int a=>exact nb _ e rfl
  |str a=>exact nb _ e rfl
  |tup a=>exact nb _ e rfl
  |lst a=>exact nb _ e rfl
  |dct a b=>exact nb _ e rfl
  |ob a b c=>exact nb _ e rfl
  |loc a=>exact nb _ e rfl
 |int=>exact nn e
 |sum=>exact nn e
 |dict=>exact nn e
end
section
variable{P:Par}{S S' R:St}
theorem kO8(r:Rl P.hm S R){o k d u:V}(hs:gB4 k=true)(e:hM1 S o k d=some u):hM1 R (th P.hm o) (th P.hm k) (th P.hm d)=some (th P.hm u):=by
 obtain⟨a,rfl⟩:=gF8 hs;refine bd e λp hp e=>ifs e λc e=>bk (gW9 r hp) (ik ((gT6 p.1).trans c) ?_);have e:=Option.some.inj e;show some ((gK2 (.str a) (ths P.hm p.1) (ths P.hm p.2)).getD (th P.hm d))=_
 cases q:gK2 (.str a) p.1 p.2 with
 |some w=>
  have t:gK2 (.str a) (ths P.hm p.1) (ths P.hm p.2)=some (th P.hm w):=hP1 (k:= .str a) (gS0 rfl) q
  rw[q]at e;rw[t,←e];rfl
 |none=>
  have t:∀ {ks vs:List V},gK2 (.str a) ks vs=none->gK2 (.str a) (ths P.hm ks) (ths P.hm vs)=none:=by
   intro ks
   induction ks with
   |nil=>intro vs _;rfl
   |cons x ks ih=>
    intro vs h
    cases vs with
    |nil=>rfl
    |cons v vs=>
     have h:(if gB1 (.str a) x then some v else gK2 (.str a) ks vs)=none:=h;show(if gB1 (.str a) (th P.hm x)then some (th P.hm v)else gK2 (.str a) (ths P.hm ks) (ths P.hm vs))=none;rw[show gB1 (.str a) (th P.hm x)=gB1 (.str a) x from gS0 (k:= .str a) rfl x]
     by_cases m:gB1 (.str a) x=true
     ·rw[if_pos m]at h;cases h
     ·rw[if_neg m]at h⊢;exact ih h
  rw[q]at e;rw[t q,←e];rfl
theorem jB1{l:List V}{w:List (List Nat)}(g:l.all nmk=true)(e:gL8 l=some w):gL8 (ths P.hm l)=some w:=by rw[hI3 hQ2 g];exact e
theorem lV0(r:Rl P.hm S R){b:BM}{o:V}{l:List V}{q:V×St}(e:tBm S b o l=some q):Ex P.hm S R (callBM R b (th P.hm o) (ths P.hm l)) q:=by
 cases b with
 |append=>
  refine bd e λk hk e=>bd e λv hv e=>bd e λp hp e=>bd e λw hw e=>ifs e λc e=> ?_;cases e;refine e12 (gT8 9 (v':=p.1) (S':=p.2) r hp) λRA e1 s1=> ?_;have s2:=s1.rl.upd (o:= .lst (w++ [p.1])) (gM7 hw);refine⟨_,bk (jC9 hk) (bk (gP2 hv) (bk e1 (bk (hT3 s1.rl hw) (ik (by rw[gF3];exact c) ?_)))),s1.trans s2⟩;show some (V.none,RA.upd _ (.lst (ths P.hm w++ [th P.hm p.1])))=some (V.none,RA.upd _ (.lst (ths P.hm (w++ [p.1]))))
  rw[hF0];rfl
 |pop0=>
  refine bd e λk hk e=>bd e λw hw e=>ifs e λc e=>bd e λv hv e=> ?_;cases e;refine⟨_,bk (jC9 hk) (bk (hT3 r hw) (ik (by cases l<;>first|rfl|exact ff c) (bk (iF1 hv) ?_))),r.upd (o:= .lst w.dropLast) (gM7 hw)⟩;show some (th P.hm v,R.upd _ (.lst (ths P.hm w).dropLast))=some (th P.hm v,R.upd _ (.lst (ths P.hm w.dropLast)))
  rw[gD5,gD5,List.map_dropLast]
 |strJoin=>
  refine bd e λs hs e=>ifs e λc e=>bd e λv hv e=>bd e λw hw e=>bd e λz hz e=>ifs e λc2 e=> ?_;cases e
  exact⟨R,bk ((gW8 o).trans hs) (ik c (bk (gP2 hv) (bk (gI0 r hw) (bk (iG1 hz) (ik c2 rfl))))),.refl r⟩
 |bytesJoin=>
  refine bd e λs hs e=>bd e λv hv e=>bd e λw hw e=>bd e λz hz e=>ifs e λc e=>bd e λs' hs' e=>bd e λv' hv' e=>bd e λw' hw' e=>bd e λz' hz' e=>ifs e λc2 e9=> ?_;rw[hs]at hs';cases hs';rw[hv]at hv';cases hv';rw[hw]at hw';cases hw';rw[hz]at hz';cases hz';cases e9
  exact⟨R,bk (show yOf (th P.hm o)=some s by rw[gD6 hs,gF9 c.1];rfl) (bk (gP2 hv) (bk (gI0 r hw) (bk (jB1 c.2.1 hz) (ik c2 (by rw[gF9 c.2.2]))))),.refl r⟩
 |encode=>
  refine bd e λs hs e=>bd e λv hv e=>bd e λw hw e=>ifs e λc e=> ?_;cases e;refine⟨R,bk ((gW8 o).trans hs) (bk (gP2 hv) (bk ((gW8 v).trans hw) (ik c ?_))),.refl r⟩;rw[gF9];rintro rfl
  exact aN c λa δ=>absurd a (by decide)
 |get1=>
  refine bd e λk hk e=>ifs e λg e=>bd e λk' hk' e=>bd e λu hu e9=> ?_;rw[hk]at hk';cases hk';cases e9
  exact⟨R,bk (gP2 hk) (bk (kO8 r g hu) rfl),.refl r⟩
 |get2=>
  cases l with
  |nil=>exact nn e
  |cons k l=>
   refine ifs e λg e=>bd e λd hd e=>bd e λu hu e=> ?_;cases e
   exact⟨R,bk (gP2 hd) (bk (kO8 r g hu) rfl),.refl r⟩
 |pop1=>exact nn e
theorem iY2{l:List Nat}(h:l.all (λc=>decide (c<1000))=true):ths P.hm (l.map λ(c:Nat)=>V.int c)=l.map λ(c:Nat)=>V.int c:=by
 induction l with
 |nil=>rfl
 |cons c l ih=>
  refine aN h λa b=> ?_;show th P.hm (.int c)::ths P.hm (l.map λ(c:Nat)=>V.int c)= .int c::l.map λ(c:Nat)=>V.int c;rw[ih b,gI7,gG0 (iU9 (by lia) (by have:=oX a;lia))]
theorem iX7{H:Hm}{v:V}{z:List V}(h:iK5 v=some z):iK5 (th H v)=some (ths H z):=by cases v<;>first|exact nn h|(cases h;rfl)
theorem lC8(r:Rl P.hm S R){v:V}{q:List V×St}(e:kU5 S v=some q):Exs P.hm S R (gG2 R (th P.hm v)) q:=by
 unfold kU5 at e
 cases hy:yOf v with
 |some l=>
  rw[hy]at e;refine ifs e λg e=> ?_;rw[gD6 hy]at e⊢;cases e;refine⟨R,?_,.refl r⟩
  rw[gF9 g.1,iY2 g.2];rfl
 |none=>
  rw[hy]at e;have e:gG2 S v=some q:=e;unfold gG2 at e⊢
  cases ht:tOf v with
  |some l=>rw[ht]at e;rw[hJ3 ht];cases e;exact⟨R,rfl,.refl r⟩
  |none=>
   rw[ht,hy]at e;rw[kA8 ht,jX2 hy];refine bd (show(frz 9 v S).bind _=some q from e) λp hp e=>bd e λz hz e9=> ?_;refine e12 (gT8 9 (v':=p.1) (S':=p.2) r hp) λRA e1 s1=> ?_;cases e9;exact⟨RA,bk e1 (bk (iX7 hz) rfl),s1⟩
theorem lC6(r:Rl P.hm S R){k:Nat}{j v:V}(hs:gB4 j=true)(e:gO7 S k j v=some S'):∃R',gO7 R (P.rho k) (th P.hm j) (th P.hm v)=some R'/\Sp P.hm S R S' R':=by
 obtain⟨a,rfl⟩:=gF8 hs;refine bd e λo ho e=> ?_
 cases o with
 |dct ks vs=>
  refine ifs e λc e=>aN c λc1 c2=> ?_;cases e;refine⟨_,bk (r.at_ _ _ ho) (ik (by rw[gF3,show gA8 (th P.hm (.str a)) (ths P.hm ks)=true from(gT6 ks).trans c1,c2];rfl) ?_),r.upd (o:= .dct (gJ5 (.str a) v ks vs).1 (gJ5 (.str a) v ks vs).2) ho⟩;have t:gJ5 (th P.hm (.str a)) (th P.hm v) (ths P.hm ks) (ths P.hm vs)=_:=hP0 (k:= .str a) (u:=v) (gS0 rfl)
  rw[t];rfl
 |lst l=>exact nn e
 |ins c ns vs=>exact nn e
 |frz v=>exact nn e
theorem iD5(v:V)(h:(yOf v).isSome=true):(yOf (th P.hm v)).isSome=true:=by cases v<;>first|exact ff h|rfl
theorem kH8:prog.gvs.all pl=true:=by decide+kernel
theorem kI3:(prog.fns.all λfn=>pls fn.dfl)=true:=by decide+kernel
theorem com(P:Par){orc:Nat->Nat->List V->St->Option (V×St)}(ho:∀ {S R f g args q},Rl P.hm S R->orc f g args S=some q->∀f',f<=f'->Ex P.hm S R (gA4 prog (f'+1) g (ths P.hm args) R) q):Com P.hm (tPr P.td P.fin orc) where
 lit h:=gY4 h
 bin h:=lD2 h
 cmp r h:=lD1 r h
 sub r h:=lC4 r h
 slc r h:=lC5 r h
 bf r h:=lV1 r h
 bm r h:=lV0 r h
 itm r h:=lC8 r h
 rng h:=bd h λl' hl h=>ifs h λc h=>aN c λc1 c2=>by cases h;rw[gD3 c1,gD3 c2];exact hl
 enm h:=ff h
 key r hs h:=lC6 r hs h
 orc:=ho
 gv h:=gY4 (List.all_eq_true.mp kH8 _ (List.mem_of_getElem? h))
 dfl h:=gD3 (List.all_eq_true.mp kI3 _ (List.mem_of_getElem? h))
 byt:=iD5
end
inductive W{α:Type}(o:Option (α×St))(Q:α->St->Prop):Prop
 |mk (a:α) (S:St) (e:o=some (a,S)) (h:Q a S)
inductive X(o:Option (Fl×Lo×St))(Q:Fl->Lo->St->Prop):Prop
 |mk (a:Fl) (m:Lo) (S:St) (e:o=some (a,m,S)) (h:Q a m S)
inductive Op{α:Type}(o:Option α)(Q:α->Prop):Prop
 |mk (a:α) (e:o=some a) (h:Q a)
theorem Op.i{α:Type}{a:α}{Q:α->Prop}(h:Q a):Op (some a) Q:=⟨a,rfl,h⟩
theorem Op.e{α:Type}{o:Option α}{a:α}{Q:α->Prop}(e:o=some a)(h:Q a):Op o Q:=⟨a,e,h⟩
theorem Op.elim{α:Type}{o:Option α}{Q:α->Prop}{G:Prop}(h:Op o Q)(k:∀a,o=some a/\Q a->G):G:=by obtain⟨a,e,h⟩:=h;exact k a ⟨e,h⟩
section
variable{α β:Type}{Q:β->St->Prop}{S:St}
theorem Wb{o:Option (α×St)}{k:α×St->Option (β×St)}(h:W o λa S=>W (k (a,S)) Q):W (o.bind k) Q:=by obtain⟨a,S,e,h⟩:=h;rw[e];exact h
theorem Wo{o:Option α}{k:α->Option (β×St)}{a:α}(e:o=some a)(h:W (k a) Q):W (o.bind k) Q:=by rw[e];exact h
theorem Wi{o:Option (β×St)}{c:Prop}[Decidable c](h:c)(k:W o Q):W (if c then o else none) Q:=by rw[if_pos h];exact k
theorem Ws{a:β}(h:Q a S):W (some (a,S)) Q:=⟨a,S,rfl,h⟩
theorem W.imp{o:Option (β×St)}{Q':β->St->Prop}(h:W o Q)(k:∀a S,Q a S->Q' a S):W o Q':=by obtain⟨a,S,e,h⟩:=h;exact⟨a,S,e,k _ _ h⟩
theorem X.imp{o:Option (Fl×Lo×St)}{Q Q':Fl->Lo->St->Prop}(h:X o Q)(k:∀a m S,Q a m S->Q' a m S):X o Q':=by obtain⟨a,m,S,e,h⟩:=h;exact⟨a,m,S,e,k _ _ _ h⟩
theorem Xb{o:Option (α×St)}{k:α×St->Option (Fl×Lo×St)}{Q:Fl->Lo->St->Prop}(h:W o λa S=>X (k (a,S)) Q):X (o.bind k) Q:=by obtain⟨a,S,e,h⟩:=h;rw[e];exact h
theorem Xx{o:Option (Fl×Lo×St)}{k:Fl×Lo×St->Option (Fl×Lo×St)}{Q:Fl->Lo->St->Prop}(h:X o λa m S=>X (k (a,m,S)) Q):X (o.bind k) Q:=by obtain⟨a,m,S,e,h⟩:=h;rw[e];exact h
theorem Wx{o:Option (Fl×Lo×St)}{k:Fl×Lo×St->Option (β×St)}(h:X o λa m S=>W (k (a,m,S)) Q):W (o.bind k) Q:=by obtain⟨a,m,S,e,h⟩:=h;rw[e];exact h
theorem Xo{o:Option α}{k:α->Option (Fl×Lo×St)}{Q:Fl->Lo->St->Prop}{a:α}(e:o=some a)(h:X (k a) Q):X (o.bind k) Q:=by rw[e];exact h
theorem Xi{o:Option (Fl×Lo×St)}{Q:Fl->Lo->St->Prop}{c:Prop}[Decidable c](h:c)(k:X o Q):X (if c then o else none) Q:=by rw[if_pos h];exact k
theorem Xs{Q:Fl->Lo->St->Prop}{a:Fl}{m:Lo}(h:Q a m S):X (some (a,m,S)) Q:=⟨a,m,S,rfl,h⟩
end
inductive Nm(S:St)(v:V)(Q:QP):Prop
 |mk (w:V) (e:norm S v=w) (h:Q w S)
theorem Nm.q{S:St}{v:V}{Q:QP}(h:Nm S v Q):Q (norm S v) S:=by obtain⟨w,rfl,h⟩:=h;exact h
inductive If(x:V)(A B:Prop):Prop
 |mk (u:Bool) (e:bOf x=some u) (a:u=true->A) (b:u=false->B)
theorem If.elim{x:V}{A B G:Prop}(h:If x A B)(k:∀u,bOf x=some u/\(u=true->A)/\(u=false->B)->G):G:=by obtain⟨u,e,a,b⟩:=h;exact k u ⟨e,a,b⟩
theorem If.t{A B:Prop}(h:A):If (.bool true) A B:=⟨true,rfl,λδ=>h,nofun⟩
theorem If.f{A B:Prop}(h:B):If (.bool false) A B:=⟨false,rfl,nofun,λδ=>h⟩
theorem If.s{A B:Prop}{u:Bool}(h:u=true->A)(k:u=false->B):If (.bool u) A B:=⟨u,rfl,h,k⟩
theorem If.d{A B:Prop}{p:Prop}[Decidable p](h:p->A)(k:¬p->B):If (.bool (decide p)) A B:=⟨_,rfl,λe=>h (oX e),λe=>k (of_decide_eq_false e)⟩
section
variable(f:Nat)(m:Lo)(Q:QP)
noncomputable abbrev kV{α:Type}(Q:α->St->Prop)(S:St)(v:α):Prop:=Q v S
noncomputable abbrev kBo(S:St)(v:Bool):Prop:=Q (.bool v) S
noncomputable abbrev kNm(S:St)(u:V):Prop:=Nm S u Q
noncomputable abbrev kB2(op:BOp)(x y:V)(S:St):Prop:=Op (hI0 op x y) (kV Q S)
noncomputable abbrev kB1(op:BOp)(b:ME)(x:V)(S:St):Prop:=W (evE prog f b m S) (kB2 Q op x)
noncomputable abbrev kC2(op:COp)(x y:V)(S:St):Prop:=Op (gK3 S op x y) (kBo Q S)
noncomputable abbrev kC1(op:COp)(b:ME)(x:V)(S:St):Prop:=W (evE prog f b m S) (kC2 Q op x)
noncomputable abbrev kN2(S:St)(u:Bool):Prop:=Q (.bool !u) S
noncomputable abbrev kN1(x:V)(S:St):Prop:=Op (bOf x) (kN2 Q S)
noncomputable abbrev kIt(a b:ME)(x:V)(S:St):Prop:=If x (W (evE prog f a m S) Q) (W (evE prog f b m S) Q)
noncomputable abbrev kAn(e':ME)(l:List ME)(x:V)(S:St):Prop:=If x (W (evE prog (f+1) (.andE (e'::l)) m S) Q) (Q (.bool false) S)
noncomputable abbrev kOr(e':ME)(l:List ME)(x:V)(S:St):Prop:=If x (Q (.bool true) S) (W (evE prog (f+1) (.orE (e'::l)) m S) Q)
noncomputable abbrev kL2(Q:List V->St->Prop)(x:V)(xs:List V)(S:St):Prop:=Q (x::xs) S
noncomputable abbrev kL1(Q:List V->St->Prop)(l:List ME)(x:V)(S:St):Prop:=W (gG4 prog f l m S) (kL2 Q x)
noncomputable abbrev kT2(y:List V)(S:St):Prop:=Q (.tup y) S
noncomputable abbrev kT1(x:List V)(S:St):Prop:=W (gV6 30 x S) (kT2 Q)
noncomputable abbrev kS2(y:List V)(S:St):Prop:=Q (.loc S.n) (S.new (.lst y))
noncomputable abbrev kS1(x:List V)(S:St):Prop:=W (gV6 30 x S) (kS2 Q)
noncomputable abbrev kD2(ks:List (List Nat))(y:List V)(S:St):Prop:=ks.length=y.length/\Q (.loc S.n) (S.new (.dct (ks.map .str) y))
noncomputable abbrev kD1(ks:List (List Nat))(x:List V)(S:St):Prop:=W (gV6 30 x S) (kD2 Q ks)
noncomputable abbrev kA2(x:Nat)(S:St)(q:Nat×List Nat×List V):Prop:=Op (iC7 x q.2.1 q.2.2) (kNm Q S)
noncomputable abbrev kA1(x:Nat)(v:V)(S:St):Prop:=Op (hM2 S v) (kA2 Q x S)
noncomputable abbrev kU2(x y:V)(S:St):Prop:=Op (hB1 S x y) (kNm Q S)
noncomputable abbrev kU1(b:ME)(x:V)(S:St):Prop:=W (evE prog f b m S) (kU2 Q x)
noncomputable abbrev kX3(x y z:V)(S:St):Prop:=W (jK2 S x y z) Q
noncomputable abbrev kX2(c:ME)(x y:V)(S:St):Prop:=W (evE prog f c m S) (kX3 Q x y)
noncomputable abbrev kX1(b c:ME)(x:V)(S:St):Prop:=W (evE prog f b m S) (kX2 f m Q c x)
noncomputable abbrev kF(g:Nat)(x:List V)(S:St):Prop:=W (gA4 prog f g x S) Q
noncomputable abbrev lM1(k:Nat)(v:V)(S:St):Prop:=gD0 v=true/\Q (.loc k) S
noncomputable abbrev kCc(g c:Nat)(x:List V)(S:St):Prop:=W (gA4 prog f g (.loc S.n::x) (S.new (.ins c [] []))) (lM1 Q S.n)
noncomputable abbrev kM3(g:Nat)(v:V)(y:List V)(S:St):Prop:=W (gA4 prog f g (v::y) S) Q
noncomputable abbrev kM2(l:List ME)(v:V)(S:St)(g:Nat):Prop:=W (gG4 prog f l m S) (kM3 f Q g v)
noncomputable abbrev kM1(x:Nat)(l:List ME)(v:V)(S:St)(q:Nat×List Nat×List V):Prop:=(¬q.2.1.contains x=true)/\Op (gZ8 x (prog.cls.getD q.1 [])) (kM2 f m Q l v S)
noncomputable abbrev kM0(x:Nat)(l:List ME)(v:V)(S:St):Prop:=Op (hM2 S v) (kM1 f m Q x l v S)
noncomputable abbrev kBf(b:BF)(x:List V)(S:St):Prop:=W (callB S b x) Q
noncomputable abbrev lM2(b:BM)(x:V)(y:List V)(S:St):Prop:=W (callBM S b x y) Q
noncomputable abbrev kBm(b:BM)(l:List ME)(x:V)(S:St):Prop:=iT0 S b x=true/\W (gG4 prog f l m S) (lM2 Q b x)
noncomputable abbrev kIs(k:Kd)(x:V)(S:St):Prop:=Op (hA9 S x k) (kBo Q S)
noncomputable abbrev lL9(z:List V)(S:St):Prop:=Q (.loc S.n) (S.new (.lst z))
noncomputable abbrev kLc(elt:ME)(g:Gn)(gs:List Gn)(vars:List Nat)(q:List V)(S:St):Prop:=W (gD8 prog f elt g gs q (m.del vars) [] S) (lL9 Q)
noncomputable abbrev kIm(Q:List V->St->Prop)(v:V)(S:St):Prop:=W (gG2 S v) Q
noncomputable abbrev kRg(Q:List V->St->Prop)(v:List V)(S:St):Prop:=Op (hC7 v) (kV Q S)
noncomputable abbrev kR1(Q:List V->St->Prop)(S:St)(l:List V):Prop:=Q (hB6 0 l) S
noncomputable abbrev lM0(Q:List V->St->Prop)(u:V)(S:St):Prop:=Op (kG0 u) (kR1 Q S)
noncomputable abbrev kEn(Q:List V->St->Prop)(v:V)(S:St):Prop:=W (frz 9 v S) (lM0 Q)
noncomputable abbrev lG8(Q:List V->St->Prop)(S:St)(l:List V):Prop:=Q l.reverse S
noncomputable abbrev lL8(Q:List V->St->Prop)(u:V)(S:St):Prop:=Op (kG0 u) (lG8 Q S)
noncomputable abbrev kRv(Q:List V->St->Prop)(v:V)(S:St):Prop:=W (frz 9 v S) (lL8 Q)
noncomputable abbrev kTs(Q:Bool->St->Prop)(l:List ME)(x:V)(S:St):Prop:=If x (W (gC8 prog f l m S) Q) (Q false S)
noncomputable abbrev kZ1(Q:List V->St->Prop)(r:List V)(u:V)(S:St):Prop:=W (gV6 f r S) (kL2 Q u)
noncomputable abbrev lG7(k:Nat)(S:St)(q:Nat×List Nat×List V):Prop:=Q (iI5 S q) (S.upd k (.frz (iI5 S q)))
noncomputable abbrev kZr(k:Nat)(_:List V)(S:St):Prop:=Op (gV4 S k) (lG7 Q k S)
noncomputable abbrev kCl(fl:Fl)(_:Lo)(S:St):Prop:=Op (Fl.out fl) (kV Q S)
end
section
variable{f:Nat}{m:Lo}{S:St}{Q:QP}
theorem gA2{v:V}(h:Q v S):W (evE prog (f+1) (.lit v) m S) Q:=⟨v,S,rfl,h⟩
theorem gA7{x:Nat}{v:V}(e:m x=some v)(h:Nm S v Q):W (evE prog (f+1) (.var x) m S) Q:=Wo e (Ws h.q)
theorem lF1{g:Nat}{v:V}(e:prog.gvs[g]?=some v)(h:Q v S):W (evE prog (f+1) (.gv g) m S) Q:=Wo e (Ws h)
theorem gI6{op:BOp}{a b:ME}(h:W (evE prog f a m S) (kB1 f m Q op b)):W (evE prog (f+1) (.bin op a b) m S) Q:=Wb (h.imp λδ δ h=>Wb (h.imp λδ δ h=>h.elim λδ h=>Wo h.1 (Ws h.2)))
theorem gC7{op:COp}{a b:ME}(h:W (evE prog f a m S) (kC1 f m Q op b)):W (evE prog (f+1) (.cmp op a b) m S) Q:=Wb (h.imp λδ δ h=>Wb (h.imp λδ δ h=>h.elim λδ h=>Wo h.1 (Ws h.2)))
theorem hO9{a:ME}(h:W (evE prog f a m S) (kN1 Q)):W (evE prog (f+1) (.notE a) m S) Q:=Wb (h.imp λδ δ h=>h.elim λδ h=>Wo h.1 (Ws h.2))
theorem hB0{c a b:ME}(h:W (evE prog f c m S) (kIt f m Q a b)):W (evE prog (f+1) (.ite c a b) m S) Q:=Wb (h.imp λδ δ h=>h.elim λu h=>Wo h.1 (by cases u;exact h.2.2 rfl;exact h.2.1 rfl))
theorem gN3{e:ME}(h:W (evE prog f e m S) Q):W (evE prog (f+2) (.andE [e]) m S) Q:=h
theorem gO0{e e':ME}{l:List ME}(h:W (evE prog f e m S) (kAn f m Q e' l)):W (evE prog (f+2) (.andE (e::e'::l)) m S) Q:=Wb (h.imp λδ δ h=>h.elim λu h=>Wo h.1 (by cases u;exact Ws (h.2.2 rfl);exact h.2.1 rfl))
theorem jI6{e:ME}(h:W (evE prog f e m S) Q):W (evE prog (f+2) (.orE [e]) m S) Q:=h
theorem kP9{e e':ME}{l:List ME}(h:W (evE prog f e m S) (kOr f m Q e' l)):W (evE prog (f+2) (.orE (e::e'::l)) m S) Q:=Wb (h.imp λδ δ h=>h.elim λu h=>Wo h.1 (by cases u;exact h.2.2 rfl;exact Ws (h.2.1 rfl)))
theorem gA1{Q:List V->St->Prop}(h:Q [] S):W (gG4 prog (f+1) [] m S) Q:=⟨[],S,rfl,h⟩
theorem gA0{Q:List V->St->Prop}{e:ME}{l:List ME}(h:W (evE prog f e m S) (kL1 f m Q l)):W (gG4 prog (f+1) (e::l) m S) Q:=Wb (h.imp λδ δ h=>Wb (h.imp λδ δ h=>Ws h))
theorem gJ7{l:List ME}(h:W (gG4 prog f l m S) (kT1 Q)):W (evE prog (f+1) (.tupE l) m S) Q:=Wb (h.imp λδ δ h=>Wb (h.imp λδ δ h=>Ws h))
theorem iT3{l:List ME}(h:W (gG4 prog f l m S) (kS1 Q)):W (evE prog (f+1) (.lstE l) m S) Q:=Wb (h.imp λδ δ h=>Wb (h.imp λδ δ h=>Ws h))
theorem gW4{ks:List (List Nat)}{l:List ME}(h:W (gG4 prog f l m S) (kD1 Q ks)):W (evE prog (f+1) (.dctE ks l) m S) Q:=Wb (h.imp λδ δ h=>Wb (h.imp λδ δ h=>Wi h.1 (Ws h.2)))
theorem gT7{e:ME}{x:Nat}(h:W (evE prog f e m S) (kA1 Q x)):W (evE prog (f+1) (.attr e x) m S) Q:=Wb (h.imp λδ δ h=>h.elim λδ h=>Wo h.1 (h.2.elim λδ h=>Wo h.1 (Ws h.2.q)))
theorem gE6{a b:ME}(h:W (evE prog f a m S) (kU1 f m Q b)):W (evE prog (f+1) (.sub a b) m S) Q:=Wb (h.imp λδ δ h=>Wb (h.imp λδ δ h=>h.elim λδ h=>Wo h.1 (Ws h.2.q)))
theorem kS8{a b c:ME}(h:W (evE prog f a m S) (kX1 f m Q b c)):W (evE prog (f+1) (.slc a b c) m S) Q:=Wb (h.imp λδ δ h=>Wb (h.imp λδ δ h=>Wb h))
theorem gA3{g:Nat}{l:List ME}(h:W (gG4 prog f l m S) (kF f Q g)):W (evE prog (f+1) (.callF g l) m S) Q:=Wb h
theorem gH9{c g:Nat}{l:List ME}(e:gZ8 prog.init (prog.cls.getD c [])=some g)(h:W (gG4 prog f l m S) (kCc f Q g c)):W (evE prog (f+1) (.callC c l) m S) Q:=Wb (h.imp λδ δ h=>Wo e (Wb (h.imp λδ δ h=>Wi h.1 (Ws h.2))))
theorem gH8{o:ME}{x:Nat}{l:List ME}(h:W (evE prog f o m S) (kM0 f m Q x l)):W (evE prog (f+1) (.callM o x l) m S) Q:=Wb (h.imp λδ δ h=>h.elim λδ h=>Wo h.1 (Wi h.2.1 (h.2.2.elim λδ h=>Wo h.1 (Wb h.2))))
theorem gG3{b:BF}{l:List ME}(h:W (gG4 prog f l m S) (kBf Q b)):W (evE prog (f+1) (.callB b l) m S) Q:=Wb h
theorem gC3{o:ME}{b:BM}{l:List ME}(h:W (evE prog f o m S) (kBm f m Q b l)):W (evE prog (f+1) (.callBM o b l) m S) Q:=Wb (h.imp λδ δ h=>Wi h.1 (Wb h.2))
theorem gN9{a:ME}{k:Kd}(h:W (evE prog f a m S) (kIs Q k)):W (evE prog (f+1) (.isi a k) m S) Q:=Wb (h.imp λδ δ h=>h.elim λδ h=>Wo h.1 (Ws h.2))
theorem gE8{vars:List Nat}{elt:ME}{g:Gn}{gs:List Gn}(h:W (itE prog f g m S) (kLc f m Q elt g gs vars)):W (evE prog (f+1) (.lcomp vars elt (g::gs)) m S) Q:=Wb (h.imp λδ δ h=>Wb (h.imp λδ δ h=>Ws h))
theorem iC5{t:Tg}{l:List ME}{e:ME}{Q:List V->St->Prop}(h:W (evE prog f e m S) (kIm Q)):W (itE prog (f+2) (.mk t (.ex e) l) m S) Q:=Wb h
theorem hB5{e:ME}{Q:List V->St->Prop}(h:W (evE prog f e m S) (kIm Q)):W (itI prog (f+1) (.ex e) m S) Q:=Wb h
theorem hR1{l:List ME}{Q:List V->St->Prop}(h:W (gG4 prog f l m S) (kRg Q)):W (itI prog (f+1) (.range l) m S) Q:=Wb (h.imp λδ δ h=>h.elim λδ h=>Wo h.1 (Ws h.2))
theorem iL9{e:ME}{Q:List V->St->Prop}(h:W (evE prog f e m S) (kEn Q)):W (itI prog (f+1) (.enum e) m S) Q:=Wb (h.imp λδ δ h=>Wi rfl (Wb (h.imp λδ δ h=>h.elim λδ h=>Wo h.1 (Ws h.2))))
theorem jF4{t:Tg}{l:List ME}{e:ME}{Q:List V->St->Prop}(h:W (evE prog f e m S) (kEn Q)):W (itE prog (f+2) (.mk t (.enum e) l) m S) Q:=iL9 h
theorem kH7{e:ME}{Q:List V->St->Prop}(h:W (evE prog f e m S) (kRv Q)):W (itI prog (f+1) (.rev e) m S) Q:=Wb (h.imp λδ δ h=>Wb (h.imp λδ δ h=>h.elim λδ h=>Wo h.1 (Ws h.2)))
theorem gO2{Q:Bool->St->Prop}(h:Q true S):W (gC8 prog (f+1) [] m S) Q:=⟨_,_,rfl,h⟩
theorem gT9{e:ME}{l:List ME}{Q:Bool->St->Prop}(h:W (evE prog f e m S) (kTs f m Q l)):W (gC8 prog (f+1) (e::l) m S) Q:=Wb (h.imp λδ δ h=>h.elim λu h=>Wo h.1 (by cases u;exact Ws (h.2.2 rfl);exact h.2.1 rfl))
theorem gC6{Q:List V->St->Prop}(h:Q [] S):W (gV6 (f+1) [] S) Q:=⟨_,_,rfl,h⟩
theorem gD1{v:V}{r:List V}{Q:List V->St->Prop}(h:W (frz f v S) (kZ1 f Q r)):W (gV6 (f+1) (v::r) S) Q:=Wb (h.imp λδ δ h=>Wb (h.imp λδ δ h=>Ws h))
theorem z_v{v:V}(e:kOf v=none)(h:Q v S):W (frz (f+1) v S) Q:=⟨v,S,by show(match kOf v with|none=>_|some k=>_)=_;rw[e],h⟩
theorem jI5{k:Nat}{l:List V}(e:S.h k=some (.lst l))(h:Q (.lst l) (S.upd k (.frz (.lst l)))):W (frz (f+1) (.loc k) S) Q:=Wo e (Ws h)
theorem iE4{k:Nat}{l r:List V}(e:S.h k=some (.dct l r))(h:Q (.dct l r) (S.upd k (.frz (.dct l r)))):W (frz (f+1) (.loc k) S) Q:=Wo e (Ws h)
theorem iE2{k c:Nat}{ns:List Nat}{vs:List V}(e:S.h k=some (.ins c ns vs))(hc:hQ8 c=true)(h:W (gV6 f vs S) (kZr Q k)):W (frz (f+1) (.loc k) S) Q:=by refine Wo e ?_;show W (match hQ8 c with|true=>_|false=>_) Q;rw[hc];exact Wb (h.imp λδ δ h=>h.elim λδ h=>Wo h.1 (Ws h.2))
theorem gB8{g:Nat}{pars:List Nat}{dfl:List V}{body:List MS}{args vs:List V}(e:prog.fns[g]?=some ⟨pars,dfl,body⟩)(b:gL9 ⟨pars,dfl,body⟩ args=some vs)(h:X (exB prog f body (Lo.sets (λδ=>none) pars vs) S) (kCl Q)):W (gA4 prog (f+1) g args S) Q:=Wo e (Wo b (Wx (h.imp λδ δ δ h=>h.elim λδ h=>Wo h.1 (Ws h.2))))
end
noncomputable def Nx(f:Nat)(r:List MS)(Q:Fl->Lo->St->Prop):Fl->Lo->St->Prop
 | .nx,m,S=>X (exB prog f r m S) Q
 |fl,m,S=>Q fl m S
section
variable(f:Nat)(r:List MS)(m:Lo)(Q:Fl->Lo->St->Prop)
noncomputable abbrev jEx(_:V)(S:St):Prop:=X (exB prog (f+1) r m S) Q
noncomputable abbrev jAs(x:Nat)(v:V)(S:St):Prop:=X (exB prog (f+1) r (m.set x v) S) Q
noncomputable abbrev lM8(x:Nat)(v:V)(k:Nat)(S:St)(q:Nat×List Nat×List V):Prop:=((prog.atts.getD q.1 []).contains x&&small q.2.1.length)=true/\X (exB prog (f+1) r m (S.upd k (.ins q.1 (hO7 x v q.2.1 q.2.2).1 (hO7 x v q.2.1 q.2.2).2))) Q
noncomputable abbrev lM9(x:Nat)(v:V)(S:St)(k:Nat):Prop:=Op (gV4 S k) (lM8 f r m Q x v k S)
noncomputable abbrev lN0(x:Nat)(v u:V)(S:St):Prop:=Op (kOf u) (lM9 f r m Q x v S)
noncomputable abbrev jAa(o:ME)(x:Nat)(v:V)(S:St):Prop:=W (evE prog f o m S) (lN0 f r m Q x v)
noncomputable abbrev lM3(S:St):Prop:=X (exB prog (f+1) r m S) Q
noncomputable abbrev lM4(k:Nat)(j y:V)(S:St):Prop:=Op (gO7 S k j y) (lM3 f r m Q)
noncomputable abbrev lM5(v:V)(k:Nat)(j:V)(S:St):Prop:=W (frz 9 v S) (lM4 f r m Q k j)
noncomputable abbrev lM6(i:ME)(v:V)(S:St)(k:Nat):Prop:=W (evE prog f i m S) (lM5 f r m Q v k)
noncomputable abbrev lM7(i:ME)(v u:V)(S:St):Prop:=Op (kOf u) (lM6 f r m Q i v S)
noncomputable abbrev jSt(o i:ME)(v:V)(S:St):Prop:=W (evE prog f o m S) (lM7 f r m Q i v)
noncomputable abbrev jAp(xs:List Nat)(S:St)(l:List V):Prop:=l.length=xs.length/\X (exB prog (f+1) r (m.sets xs l) S) Q
noncomputable abbrev jAt(xs:List Nat)(v:V)(S:St):Prop:=Op (tOf v) (jAp f r m Q xs S)
noncomputable abbrev jAq(xs:List Nat)(l:List V)(S:St):Prop:=l.length=xs.length/\X (exB prog (f+1) r (m.sets xs l) S) Q
noncomputable abbrev jIt(a b:List MS)(x:V)(S:St):Prop:=If x (X (exB prog f a m S) (Nx (f+1) r Q)) (X (exB prog f b m S) (Nx (f+1) r Q))
noncomputable abbrev jFr(t:Tg)(b:List MS)(l:List V)(S:St):Prop:=X (exF prog f t l b m S) (Nx (f+1) r Q)
noncomputable abbrev jRt(v:V)(S:St):Prop:=Q (.rt v) m S
end
section
variable{f:Nat}{m:Lo}{S:St}{Q:Fl->Lo->St->Prop}{r:List MS}
theorem Nx.nx(h:X (exB prog f r m S) Q):Nx f r Q .nx m S:=h
theorem Nx.rt{v:V}(h:Q (.rt v) m S):Nx f r Q (.rt v) m S:=h
theorem gB0(h:Q .nx m S):X (exB prog (f+1) [] m S) Q:=⟨_,_,_,rfl,h⟩
theorem gJ3{s:MS}(h:X (exS prog f s m S) (Nx f r Q)):X (exB prog (f+1) (s::r) m S) Q:=Xx (h.imp λfl m S h=>by cases fl<;>first|exact h|exact Xs h)
theorem hI8{e:ME}(h:W (evE prog f e m S) (jEx f r m Q)):X (exB prog (f+2) (.ex e::r) m S) Q:=gJ3 (Xb (h.imp λδ δ h=>Xs h))
theorem gC0{x:Nat}{e:ME}(h:W (evE prog f e m S) (jAs f r m Q x)):X (exB prog (f+2) (.asg x e::r) m S) Q:=gJ3 (Xb (h.imp λδ δ h=>Xs h))
theorem gM0{o:ME}{x:Nat}{e:ME}(h:W (evE prog f e m S) (jAa f r m Q o x)):X (exB prog (f+2) (.asgA o x e::r) m S) Q:=gJ3 (Xb (h.imp λδ δ h=>Xb (h.imp λδ δ h=>h.elim λδ h=>Xo h.1 (h.2.elim λδ h=>Xo h.1 (Xi h.2.1 (Xs h.2.2))))))
theorem gJ4{o i e:ME}(h:W (evE prog f e m S) (jSt f r m Q o i)):X (exB prog (f+2) (.asgS o i e::r) m S) Q:=gJ3 (Xb (h.imp λδ δ h=>Xb (h.imp λδ δ h=>h.elim λδ h=>Xo h.1 (Xb (h.2.imp λδ δ h=>Xb (h.imp λδ δ h=>h.elim λδ h=>Xi rfl (Xo h.1 (Xs h.2))))))))
theorem hZ3{xs:List Nat}{e:ME}(h:W (evE prog f e m S) (jAt f r m Q xs)):X (exB prog (f+2) (.asgT xs e::r) m S) Q:=gJ3 (Xb (h.imp λδ δ h=>h.elim λδ h=>Xo h.1 (Xi h.2.1 (Xs h.2.2))))
theorem hZ4{xs:List Nat}{es:List ME}(h:W (gG4 prog f es m S) (jAq f r m Q xs)):X (exB prog (f+2) (.asgP xs es::r) m S) Q:=gJ3 (Xb (h.imp λδ δ h=>Xi h.1 (Xs h.2)))
theorem gB6{c:ME}{a b:List MS}(h:W (evE prog f c m S) (jIt f r m Q a b)):X (exB prog (f+2) (.ite c a b::r) m S) Q:=gJ3 (Xb (h.imp λδ δ h=>h.elim λu h=>Xo h.1 (by cases u;exact h.2.2 rfl;exact h.2.1 rfl)))
theorem hS4{t:Tg}{it:It}{b:List MS}(h:W (itI prog f it m S) (jFr f r m Q t b)):X (exB prog (f+2) (.fr t it b::r) m S) Q:=gJ3 (Xb h)
theorem lD6{c:ME}{b:List MS}(h:X (exW prog f c b m S) (Nx (f+1) r Q)):X (exB prog (f+2) (.whl c b::r) m S) Q:=gJ3 h
theorem gF0{e:ME}(h:W (evE prog f e m S) (jRt m Q)):X (exB prog (f+2) (.ret e::r) m S) Q:=gJ3 (Xb (h.imp λδ δ h=>Xs h))
theorem lD7{b:List MS}(h:X (exB prog f b m S) (Nx (f+1) r Q)):X (exB prog (f+2) (.tr b::r) m S) Q:=gJ3 h
theorem iZ1{t:Tg}{b:List MS}(h:Q .nx m S):X (exF prog (f+1) t [] b m S) Q:=⟨_,_,_,rfl,h⟩
theorem hE2{t:Tg}{v:V}{l:List V}{b:List MS}{mA:Lo}(e:t.put v m=some mA)(h:X (exB prog f b mA S) λfl m S=>match fl with| .rt v=>Q (.rt v) m S|_=>X (exF prog f t l b m S) Q):X (exF prog (f+1) t (v::l) b m S) Q:=Xo e (Xx (h.imp λfl m S h=>by cases fl<;>first|exact h|exact Xs h))
theorem iJ9{c:ME}{b:List MS}(h:W (evE prog f c m S) λx S=>If x (X (exB prog f b m S) λfl m S=>match fl with| .rt v=>Q (.rt v) m S|_=>X (exW prog f c b m S) Q) (Q .nx m S)):X (exW prog (f+1) c b m S) Q:=
 Xb (h.imp λδ δ h=>h.elim λu h=>Xo h.1 (by
  cases u
  ·exact Xs (h.2.2 rfl)
  ·exact Xx ((h.2.1 rfl).imp λfl m S h=>by cases fl<;>first|exact h|exact Xs h)))
theorem jO6{elt:ME}{g:Gn}{gs:List Gn}{acc:List V}{Q:List V->St->Prop}(h:Q acc S):W (gD8 prog (f+1) elt g gs [] m acc S) Q:=⟨_,_,rfl,h⟩
theorem jE1{elt:ME}{g:Gn}{v:V}{l acc:List V}{mA:Lo}{Q:List V->St->Prop}(e:g.tg.put v m=some mA)(h:W (gC8 prog f g.ifs mA S) λu S=>(u=true->W (evE prog f elt mA S) λx S=>W (frz 9 x S) λy S=>small acc.length=true/\W (gD8 prog f elt g [] l m (acc++ [y]) S) Q)/\(u=false->W (gD8 prog f elt g [] l m acc S) Q)):W (gD8 prog (f+1) elt g [] (v::l) m acc S) Q:=
 Wo e (Wb (h.imp λu S h=>by
  cases u
  ·exact h.2 rfl
  ·exact Wb ((h.1 rfl).imp λδ δ h=>Wb (h.imp λδ δ h=>Wi h.1 h.2))))
theorem kG4{elt:ME}{g g':Gn}{gs:List Gn}{v:V}{l acc:List V}{mA:Lo}{Q:List V->St->Prop}(e:g.tg.put v m=some mA)(h:W (gC8 prog f g.ifs mA S) λu S=>(u=true->W (itE prog f g' mA S) λq S=>W (gD8 prog f elt g' gs q mA acc S) λz S=>W (gD8 prog f elt g (g'::gs) l m z S) Q)/\(u=false->W (gD8 prog f elt g (g'::gs) l m acc S) Q)):W (gD8 prog (f+1) elt g (g'::gs) (v::l) m acc S) Q:=
 Wo e (Wb (h.imp λu S h=>by
  cases u
  ·exact h.2 rfl
  ·exact Wb ((h.1 rfl).imp λδ δ h=>Wb h)))
end
section
variable{f:Nat}{m:Lo}{S:St}{Q:QP}{x y k c:Nat}{v o i u:V}{l:List Nat}{r:List V}
theorem kW8:norm S (.loc k)=(match S.h k with|some (.frz v)=>v|_=> .loc k):=rfl
theorem lL7(e:kOf v=none):norm S v=v:=by cases v<;>first|rfl|exact nn e.symm
theorem gF1(e:m x=some v)(n:kOf v=none)(h:Q v S):W (evE prog (f+1) (.var x) m S) Q:=gA7 e ⟨v,lL7 n,h⟩
theorem gR8(e:m x=some (.loc k))(n:S.h k=some (.ins c l r))(h:Q (.loc k) S):W (evE prog (f+1) (.var x) m S) Q:=gA7 e ⟨_,by rw[kW8,n],h⟩
theorem gR7(e:m x=some (.loc k))(n:S.h k=some (.lst r))(h:Q (.loc k) S):W (evE prog (f+1) (.var x) m S) Q:=gA7 e ⟨_,by rw[kW8,n],h⟩
theorem hB8{q:List V}(e:m x=some (.loc k))(n:S.h k=some (.dct r q))(h:Q (.loc k) S):W (evE prog (f+1) (.var x) m S) Q:=gA7 e ⟨_,by rw[kW8,n],h⟩
theorem gV8(e:m x=some (.loc k))(n:S.h k=some (.ins c l r))(g:iC7 y l r=some u)(h:Nm S u Q):W (evE prog (f+2) (.attr (.var x) y) m S) Q:=gT7 (gR8 e n (.e (a:=(c,l,r)) (bk n rfl) (.e g h)))
theorem hB9{q:Nat×List Nat×List V}(e:m x=some o)(n:kOf o=none)(g:hM2 S o=some q)(g':iC7 y q.2.1 q.2.2=some u)(h:Nm S u Q):W (evE prog (f+2) (.attr (.var x) y) m S) Q:=gT7 (gF1 e n (.e g (.e g' h)))
theorem hA7(e:m x=some o)(n:kOf o=none)(g:hB1 S o i=some u)(h:Nm S u Q):W (evE prog (f+2) (.sub (.var x) (.lit i)) m S) Q:=gE6 (gF1 e n (gA2 (.e g h)))
theorem hA8{op:COp}{b:Bool}(e:m x=some o)(n:kOf o=none)(g:gK3 S op o i=some b)(h:Q (.bool b) S):W (evE prog (f+2) (.cmp op (.var x) (.lit i)) m S) Q:=gC7 (gF1 e n (gA2 (.e g h)))
theorem gN0{Q:List V->St->Prop}{es:List ME}(e:m x=some v)(n:kOf v=none)(h:W (gG4 prog (f+1) es m S) (kL2 Q v)):W (gG4 prog (f+2) (.var x::es) m S) Q:=gA0 (gF1 e n h)
theorem hI6{Q:List V->St->Prop}{es:List ME}(e:m x=some (.loc k))(n:S.h k=some (.ins c l r))(h:W (gG4 prog (f+1) es m S) (kL2 Q (.loc k))):W (gG4 prog (f+2) (.var x::es) m S) Q:=gA0 (gR8 e n h)
theorem iS5{g:Nat}(e:m x=some (.loc k))(n:S.h k=some (.ins c l r))(h:W (gA4 prog (f+2) g [.loc k] S) Q):W (evE prog (f+3) (.callF g [.var x]) m S) Q:=gA3 (hI6 e n (gA1 h))
theorem gI4{q:List V}{Q:List V->St->Prop}(e:kOf v=none)(h:W (gV6 (f+1) q S) (kL2 Q v)):W (gV6 (f+2) (v::q) S) Q:=gD1 (z_v e h)
end
theorem gK9{f g:Nat}{m:Lo}{S:St}{Q:Fl->Lo->St->Prop}{r:List MS}(h:X (exB prog g r m S) Q):X (exB prog (f+1) [] m S) (Nx g r Q):=gB0 (Nx.nx h)
section
variable{α:Type}{o:Option (α×St)}{v:α}{A B C D:St->Prop}{Q:α->St->Prop}
theorem W.k1(h:W o λu S=>u=v/\A S)(k:∀S,A S->Q v S):W o Q:=h.imp λδ δ q=>q.1▸k _ q.2
theorem W.k2(h:W o λu S=>u=v/\A S/\B S)(k:∀S,A S->B S->Q v S):W o Q:=h.imp λδ δ q=>q.1▸k _ q.2.1 q.2.2
theorem W.cps{P:α->St->Prop}(h:∀Q:α->St->Prop,(∀u S,P u S->Q u S)->W o Q):W o P:=h P λδ δ h=>h
theorem X.cps{o:Option (Fl×Lo×St)}{P:Fl->Lo->St->Prop}(h:∀Q:Fl->Lo->St->Prop,(∀u m S,P u m S->Q u m S)->X o Q):X o P:=h P λδ δ δ h=>h
end
structure Kp(T:List Nat)(S S':St):Prop where
 le:S.n<=S'.n
 wf:∀j,S'.n<=j->S'.h j=none
 kp:∀k o,S.h k=some o->k∉T->S'.h k=some o
noncomputable abbrev Wf(S:St):Prop:=∀j,S.n<=j->S.h j=none
section
variable{S S' S₁ SA:St}{T U:List Nat}{k j:Nat}{o o':O}
theorem Kp.refl(w:Wf S):Kp T S S:=⟨Nat.le_refl _,w,λδ δ e δ=>e⟩
theorem Kp.trans(a:Kp T S S₁)(b:Kp T S₁ SA):Kp T S SA:=⟨Nat.le_trans a.le b.le,b.wf,λk o e n=>b.kp k o (a.kp k o e n) n⟩
theorem Kp.sub(a:Kp T S S')(h:∀k,k∈T->k∈U):Kp U S S':=⟨a.le,a.wf,λk o e n=>a.kp k o e λq=>n (h k q)⟩
theorem Kp.nil(a:Kp [] S S'):Kp T S S':=a.sub λk h=>gQ0 h
theorem Kp.z(a:Kp [] S S')(e:S.h k=some o):S'.h k=some o:=a.kp k o e List.not_mem_nil
theorem Kp.one(a:Kp [j] S S')(n:k≠j)(e:S.h k=some o):S'.h k=some o:=a.kp k o e λh=>n (List.mem_singleton.mp h)
theorem Wf.lt(w:Wf S)(e:S.h k=some o):k<S.n:=by
 rcases Nat.lt_or_ge k S.n with q|q
 ·exact q
 ·rw[w k q]at e;cases e
theorem Wf.ne(w:Wf S)(e:S.h k=some o):k≠S.n:=Nat.ne_of_lt (w.lt e)
theorem gC9:(S.upd k o).h k=some o:=if_pos rfl
theorem gB9(n:j≠k)(e:S.h j=some o'):(S.upd k o).h j=some o':=(if_neg n).trans e
theorem gA6:(S.new o).h S.n=some o:=if_pos rfl
theorem gH3(w:Wf S)(e:S.h j=some o'):(S.new o).h j=some o':=(if_neg (w.ne e)).trans e
theorem Wf.upd(w:Wf S)(e:S.h k=some o'):Wf (S.upd k o):=λj h=>(if_neg (Nat.ne_of_gt (Nat.lt_of_lt_of_le (w.lt e) h))).trans (w j h)
theorem Wf.new(w:Wf S):Wf (S.new o):=λj h=>(if_neg (Nat.ne_of_gt (show S.n<j from h))).trans (w j (Nat.le_of_succ_le h))
theorem Kp.upd(w:Wf S)(e:S.h k=some o'):Kp [k] S (S.upd k o):=⟨Nat.le_refl _,w.upd e,λj o q n=>gB9 (λz=>n (List.mem_singleton.mpr z)) q⟩
theorem Kp.new(w:Wf S):Kp T S (S.new o):=⟨Nat.le_succ _,w.new,λj o q δ=>gH3 w q⟩
theorem Kp.fresh(a:Kp T S S₁)(l:S.n<=k)(w:Wf S)(b:Kp (k::T) S₁ SA):Kp T S SA:=⟨Nat.le_trans a.le b.le,b.wf,λj o e n=>b.kp j o (a.kp j o e n) λh=>(mC h).elim (λz=>absurd (w.lt e) (Nat.not_lt.mpr (Nat.le_trans l (Nat.le_of_eq z.symm)))) n⟩
theorem jN5(a:S.h k=some o)(b:S.h j=some o')(n:o≠o'):k≠j:=λz=>n (Option.some.inj (a.symm.trans (z▸b)))
theorem iC1:norm S (.loc k)=(match S.h k with|some (.frz v)=>v|_=> .loc k):=rfl
theorem iW4{l:List V}(e:S.h k=some (.lst l)):norm S (.loc k)= .loc k:=by rw[iC1,e]
theorem kX0{l r:List V}(e:S.h k=some (.dct l r)):norm S (.loc k)= .loc k:=by rw[iC1,e]
theorem kW9{c:Nat}{l:List Nat}{r:List V}(e:S.h k=some (.ins c l r)):norm S (.loc k)= .loc k:=by rw[iC1,e]
theorem iW5{v:V}(e:S.h k=some (.frz v)):norm S (.loc k)=v:=by rw[iC1,e]
theorem n_v{v:V}(e:kOf v=none):norm S v=v:=by cases v<;>first|rfl|exact nn e.symm
theorem gV5{l:List V}(e:S.h k=some (.lst l)):gD4 S (.loc k)=some l:=bk e rfl
theorem gQ5{l r:List V}(e:S.h k=some (.dct l r)):getD S (.loc k)=some (l,r):=bk e rfl
theorem gT0{c:Nat}{l:List Nat}{r:List V}(e:S.h k=some (.ins c l r)):hM2 S (.loc k)=some (c,l,r):=bk e rfl
theorem gG7{c:Nat}{l:List Nat}{r:List V}(e:S.h k=some (.ins c l r)):gV4 S k=some (c,l,r):=bk e rfl
theorem gO3{l:List V}{i:Int}{u:V}(e:S.h k=some (.lst l))(h:jK0 l i=some u):hB1 S (.loc k) (.int i)=some u:=by show(match gD4 S (.loc k)with|some l=>jK0 l i|none=>_)=some u;rw[gV5 e];exact h
theorem jL2{l:List V}{i:Int}{u:V}(e:S.h k=some (.lst l))(h:0<=i/\i<l.length):gO7 S k (.int i) u=some (S.upd k (.lst (l.set i.toNat u))):=bk e (bk (a:=i) rfl (ik h rfl))
theorem gO6{l r:List V}{i u:V}(e:S.h k=some (.dct l r))(h:(gA8 i l&&small l.length)=true):gO7 S k i u=some (S.upd k (.dct (gJ5 i u l r).1 (gJ5 i u l r).2)):=bk e (ik h rfl)
end
section
variable{S:St}{Q:QP}{k:Nat}
theorem m_v{v:V}(e:kOf v=none)(h:Q v S):Nm S v Q:=⟨v,n_v e,h⟩
theorem gY8{l:List V}(e:S.h k=some (.lst l))(h:Q (.loc k) S):Nm S (.loc k) Q:=⟨_,iW4 e,h⟩
theorem gJ2{l r:List V}(e:S.h k=some (.dct l r))(h:Q (.loc k) S):Nm S (.loc k) Q:=⟨_,kX0 e,h⟩
theorem iJ0{c:Nat}{l:List Nat}{r:List V}(e:S.h k=some (.ins c l r))(h:Q (.loc k) S):Nm S (.loc k) Q:=⟨_,kW9 e,h⟩
theorem hK9{v:V}(e:S.h k=some (.frz v))(h:Q v S):Nm S (.loc k) Q:=⟨_,iW5 e,h⟩
theorem cb{b:BF}{l:List V}{v:V}{S':St}(e:callB S b l=some (v,S'))(h:Q v S'):W (callB S b l) Q:=⟨_,_,e,h⟩
theorem cm{b:BM}{o:V}{l:List V}{v:V}{S':St}(e:callBM S b o l=some (v,S'))(h:Q v S'):W (callBM S b o l) Q:=⟨_,_,e,h⟩
theorem gR1{l:List V}(e:S.h k=some (.lst l)):iT0 S .append (.loc k)=true:=by show(gD4 S (.loc k)).isSome=true;rw[gV5 e];rfl
theorem iP5{l r:List V}(e:S.h k=some (.dct l r)):iT0 S .get1 (.loc k)=true:=by show(getD S (.loc k)).isSome=true;rw[gQ5 e];rfl
theorem iP4{l r:List V}(e:S.h k=some (.dct l r)):iT0 S .get2 (.loc k)=true:=by show(getD S (.loc k)).isSome=true;rw[gQ5 e];rfl
theorem hA0{l:List V}{v:V}(e:S.h k=some (.lst l))(s:small l.length=true)(n:kOf v=none)(h:Q .none (S.upd k (.lst (l++ [v])))):W (callBM S .append (.loc k) [v]) Q:=
 show W ((frz 9 v S).bind λp=>(gV3 p.2 k).bind λl=>if small l.length then some (V.none,p.2.upd k (.lst (l++ [p.1])))else none) Q from
 Wb (z_v n (Wo (o:=gV3 S k) (bk e rfl) (Wi s (Ws h))))
theorem kY4{o:O}{kt:KT}{d:Kd}(e:S.h k=some o)(h:jP0 o=some kt):hA9 S (.loc k) d=some (gL4 kt d):=bk (bk e h) rfl
end
theorem iK6{l:List V}{Q:List V->St->Prop}(e:S.h k=some (.lst l))(h:Q l (S.upd k (.frz (.lst l)))):W (gG2 S (.loc k)) Q:=show W ((frz 9 (.loc k) S).bind λp=>_) Q from Wb (jI5 e (Wo (a:=l) rfl (Ws h)))
theorem lG9{l r:List V}{Q:List V->St->Prop}(e:S.h k=some (.dct l r))(h:Q l (S.upd k (.frz (.dct l r)))):W (gG2 S (.loc k)) Q:=show W ((frz 9 (.loc k) S).bind λp=>_) Q from Wb (iE4 e (Wo (a:=l) rfl (Ws h)))
theorem jW3{l:List V}{Q:List V->St->Prop}(h:Q l S):W (gG2 S (.lst l)) Q:=⟨_,_,rfl,h⟩
theorem kR2{l r:List V}{Q:List V->St->Prop}(h:Q l S):W (gG2 S (.dct l r)) Q:=⟨_,_,rfl,h⟩
noncomputable def Pen(S:St)(p:Nat)(i:Int):Prop:=∃(cs:List Int) (c:Int),S.h p=some (.lst [.lst (cs.map .int),.int i,.int c])
theorem nab{i:Int}(h:0<=i/\i<1000000):i.natAbs<1000000000000000000:=Int.ofNat_lt.mp (by rw[Int.natAbs_of_nonneg h.1];exact Int.lt_trans h.2 (by decide))
theorem gR3{f p:Nat}{i many:Int}{S:St}(w:Wf S)(h:Pen S p i)(hi:0<=i/\i<1000000)(hm:0<many):
  W (gA4 prog (f+20) 1 [.loc p,.int many] S) λv S'=>∃r,v= .int r/\(0<=r/\r<many)/\Pen S' p (i+1)/\Kp [p] S S':=by
 refine e21 h λcs c hp=> ?_;have nmV:¬many=0:=Int.ne_of_gt hm;have md:∀x:Int,hI0 .mod (.int x) (.int many)=some (.int (x.fmod many)):=λx=>ik nmV rfl;have bd:∀x:Int,0<=x.fmod many/\x.fmod many<many:=λx=>⟨Int.fmod_nonneg_of_pos _ hm,Int.fmod_lt_of_pos _ hm⟩
 refine gB8 (vs:=[.loc p,.int many]) rfl rfl ?_;refine gC0<|gE6<|gR7 rfl hp<|gA2<| .e (gO3 hp rfl)<|m_v rfl<|gJ4<|gI6<|gF1 rfl rfl<|gA2<| .i<|gR7 rfl hp<| .i<|gA2<|z_v rfl<| .e (jL2 hp ⟨by decide,by simp⟩)<|gB6<|gC7<|gF1 rfl rfl<|gG3<|gA0<|gE6<|gR7 rfl gC9<|gA2<| .e (gO3 gC9 rfl)<|m_v rfl<|gA1<|cb rfl<| .i<| ?_;have h2:(S.upd p (.lst [.lst (cs.map .int),.int (i+1),.int c])).h p=_:=gC9;have kp:=Kp.upd (o:= .lst [.lst (cs.map .int),.int (i+1),.int c]) w hp;refine If.d (λq=> ?_) λq=> ?_
 ·have q:i<(cs.map V.int).length:=q;rw[List.length_map]at q;have g:(cs.map V.int)[i.toNat]?=some (.int (cs[i.toNat]'(il4 hi.1 q))):=by rw[List.getElem?_map,List.getElem?_eq_getElem (il4 hi.1 q)];rfl
  have sb:∀S,hB1 S (.lst (cs.map .int)) (.int i)=some (.int (cs[i.toNat]'(il4 hi.1 q))):=λS=>(if_pos hi.1).trans g;refine gF0<|gI6<|gE6<|gE6<|gR7 rfl h2<|gA2<| .e (gO3 h2 rfl)<|m_v rfl<|gF1 rfl rfl<| ?_;refine Op.e (sb _) ?_;refine m_v rfl<|gF1 rfl rfl<| ?_;refine Op.e (md _) ?_;refine Nx.rt<| .i<| ?_;exact⟨_,rfl,bd _,⟨cs,c,h2⟩,kp⟩
 ·refine gK9<|gF0<|gI6<|gI6<|gI6<|gE6<|gR7 rfl h2<|gA2<| .e (gO3 h2 rfl)<|m_v rfl<|gI6<|gA2<|gF1 rfl rfl<| ?_;refine Op.e (ik ⟨by decide,nab hi⟩ rfl) ?_;refine .i<|gI6<|gI6<|gF1 rfl rfl<|gF1 rfl rfl<| ?_;refine Op.e (ik ⟨nab hi,nab hi⟩ rfl) ?_;refine gA2<| .i<| .i<|gF1 rfl rfl<| ?_;refine Op.e (md _) ?_;refine .i<| ?_;exact⟨_,rfl,bd _,⟨cs,c,h2⟩,kp⟩
noncomputable abbrev noO:Nat->Nat->List V->St->Option (V×St):=λδ δ δ δ=>none
noncomputable def P0(R:St):Par:=⟨λk=>R.n+k,λδ δ h=>Nat.add_left_cancel h,[],0,[],true,λδ δ h=>nn h,by decide,by decide⟩
noncomputable abbrev Tz:Txt:=tpl (tPr [] true noO)
noncomputable abbrev Sz:St:=⟨λδ=>none,0⟩
theorem iH6{g F:Nat}{args:List V}{v:V}{S1 R:St}(h:gA4 Tz F g args Sz=some (v,S1))(ha:pls args=true)(hv:pl v=true)(w:Wf R)(f:Nat):
  W (gA4 prog (f+F) g args R) λu R'=>u=v/\Kp [] R R':=by
 have rl:Rl (P0 R).hm Sz R:=⟨λδ δ h=>nn h,λj=>congrArg (R.n+ ·) (Nat.zero_add j),λk v δ h=>by
  have t:=w (R.n+k) (by(exact Nat.le_trans (Nat.le_refl R.n) (Nat.le_add_right R.n k)))
  exact nn (t.symm.trans h),w⟩
 refine e12 ((hom (com (P0 R) (λδ h=>nn h)) F).c h rl (Nat.le_add_left F f)) λR' e s=> ?_;rw[gD3 ha,show th (P0 R).hm (v,S1).1=v from gY4 hv]at e;refine⟨_,_,e,rfl,?_,s.rl.emp,λk o q δ=> ?_⟩
 ·have:=s.rl.new 0;have:R.n+(S1.n+0)=R'.n+0:=this;exact Nat.le_trans (Nat.le_add_right ..) (Nat.le_of_eq this)
 ·have l:=w.lt q;exact(s.fr k λk' q'=>absurd l (Nat.not_lt.mpr (Nat.le_trans (Nat.le_add_right R.n k') (Nat.le_of_eq q')))).trans q
noncomputable def iV1(g:Nat)(v:V):V:=match gA4 Tz 80 g [v] Sz with|some r=>r.1|none=> .none
noncomputable def ok1(g:Nat)(v:V):Bool:=match gA4 Tz 80 g [v] Sz with|some r=>pl v&&pl r.1|none=>false
theorem iQ0{g:Nat}{v:V}{R:St}(h:ok1 g v=true)(w:Wf R)(f:Nat):W (gA4 prog (f+80) g [v] R) λu R'=>u=iV1 g v/\Kp [] R R':=by
 unfold ok1 at h;unfold iV1
 cases e:gA4 Tz 80 g [v] Sz with
 |none=>rw[e]at h;exact ff h
 |some r=>
  rw[e]at h;refine aN h λa b=> ?_;exact iH6 (S1:=r.2) e (by show(pl v&&true)=true;rw[a];rfl) b w f
noncomputable abbrev gE1:List Nat:=[84,121,112,101]
noncomputable abbrev gB5:List Nat:=[82,111,111,116]
noncomputable abbrev iH0:List Nat:=[73,110,102,111]
noncomputable abbrev gS1:List Nat:=[80,114,101,118]
noncomputable abbrev gU3:List Nat:=[76,101,110,103,116,104]
noncomputable abbrev iG9:List Nat:=[83,105,122,101]
noncomputable abbrev sK:List Nat:=[75]
noncomputable abbrev sW:List Nat:=[87]
noncomputable abbrev iS7:List Nat:=[67,97,116,97,108,111,103]
noncomputable abbrev gG1:List Nat:=[88,82,101,102]
noncomputable abbrev iS6:List Nat:=[79,98,106,83,116,109]
noncomputable abbrev nmV(s:List Nat):V:= .ob 0 [24] [.str s]
noncomputable abbrev rf(n g:Int):V:= .ob 2 [7,8] [.int n,.int g]
noncomputable abbrev kU7(ks vs:List V):V:= .ob 1 [23,47] [.dct ks vs,.bytes []]
noncomputable def gK8(n:Nat):List Int:=(List.range n).map λ(k:Nat)=>(k:Int)
noncomputable def lF3(k:Int):V:= .dct [.str gE1,.str sK] [nmV iS7,.int k]
noncomputable def vK(k:Int):V:= .dct [.str sK] [.int k]
noncomputable def vX(n:Int):V:=kU7 [.str gE1,.str gU3,.str sW,.str gB5,.str gS1] [nmV gG1,.int 0,.lst [.int 1,.int 1,.int 1],rf n 0,.int 5]
noncomputable def vS(s:List Nat):V:=kU7 [.str gE1,.str gU3] [nmV s,.int 0]
noncomputable def vals:List V:=(gK8 9).map .int++ [lF3 1,lF3 2]++(gK8 5).map vK++ [vX 1,vX 2,vX 3,vS iS6,vS [88]]
noncomputable def oI:Option Int->List (V×V)|none=> []|some i=> [(.str iH0,.int i)]
noncomputable def oRt:Option Int->List (V×V)|none=> []|some i=> [(.str gB5,rf i 0)]
noncomputable def oS:Bool->List (V×V)|false=> []|true=> [(.str iG9,.int 9),(.str gS1,.int 3)]
noncomputable def dOf(l:List (V×V)):V:= .dct (l.map (·.1)) (l.map (·.2))
noncomputable def vT(i r:Option Int)(s:Bool):V:=dOf (oI i++oRt r++oS s)
noncomputable def on(l:List Int):List (Option Int):=none::l.map some
noncomputable def tras:List V:=(on (gK8 4)).flatMap λi=>(on [1,2,3]).flatMap λr=> [vT i r false,vT i r true]
section
variable{S:St}{p k f:Nat}{o o':O}
theorem St.eq{S S':St}(n:S.n=S'.n)(h:∀j,S.h j=S'.h j):S=S':=by cases S;cases S';cases n;exact congrArg (St.mk · _) (funext h)
theorem gY6:(S.new o).upd S.n o'=S.new o':=St.eq rfl λj=>by
 show(if j=S.n then _ else if j=S.n then _ else _)=(if j=S.n then _ else _)
 by_cases q:j=S.n
 ·rw[if_pos q,if_pos q]
 ·rw[if_neg q,if_neg q,if_neg q]
noncomputable abbrev mkk(S:St)(c:Nat)(ns:List Nat)(vs:List V)(o:Option (V×St)):Prop:=W o λu S'=>gD0 u=true/\S'=S.new (.ins c ns vs)
theorem iX4{a b:V}(ha:kOf a=none\/∃k o,a= .loc k/\S.h k=some o/\∀v,o≠ .frz v)(w:Wf S)(hb:kOf b=none):mkk S 1 [23,47] [a,b] (gA4 prog (f+7) 57 [.loc S.n,a,b] (S.new (.ins 1 [] []))):=by
 have h:(S.new (.ins 1 [] [])).h S.n=_:=gA6;have h2:((S.new (.ins 1 [] [])).upd S.n (.ins 1 [23] [a])).h S.n=_:=gC9
 have na:norm (S.new (.ins 1 [] [])) a=a:=by
  rcases ha with q|⟨k,o,rfl,q,n⟩
  ·exact n_v q
  ·rw[iC1,gH3 w q];cases o<;>first|rfl|exact absurd rfl (n _)
 refine gB8 (vs:=[.loc S.n,a,b]) rfl rfl ?_;refine gM0<| ?_;refine gA7 rfl ⟨_,na,?_⟩;refine gR8 rfl h<| .i<| .e (gG7 h)<|And.intro rfl<|gM0<|gF1 rfl hb<|gR8 rfl h2<| .i<| .e (gG7 h2)<|And.intro rfl<|gB0<| .i<|And.intro rfl<| ?_;show _=_;rw[gY6];exact gY6
theorem iX5{a b:V}(ha:kOf a=none)(hb:kOf b=none):mkk S 2 [7,8] [a,b] (gA4 prog (f+7) 58 [.loc S.n,a,b] (S.new (.ins 2 [] []))):=by have h:(S.new (.ins 2 [] [])).h S.n=_:=gA6;have h2:((S.new (.ins 2 [] [])).upd S.n (.ins 2 [7] [a])).h S.n=_:=gC9;refine gB8 (vs:=[.loc S.n,a,b]) rfl rfl ?_;refine gM0<|gF1 rfl ha<|gR8 rfl h<| .i<| .e (gG7 h)<|And.intro rfl<|gM0<|gF1 rfl hb<|gR8 rfl h2<| .i<| .e (gG7 h2)<|And.intro rfl<|gB0<| .i<|And.intro rfl<| ?_;show _=_;rw[gY6];exact gY6
theorem iK3{a b c d e:V}(ha:kOf a=none)(hb:kOf b=none)(hc:kOf c=none)(hd:kOf d=none)(he:kOf e=none):mkk S 3 [7,8,38,56,15] [a,b,c,d,e] (gA4 prog (f+10) 59 [.loc S.n,a,b,c,d,e] (S.new (.ins 3 [] []))):=by have h:(S.new (.ins 3 [] [])).h S.n=_:=gA6;have h2:((S.new (.ins 3 [] [])).upd S.n (.ins 3 [7] [a])).h S.n=_:=gC9;have h3:(((S.new (.ins 3 [] [])).upd S.n (.ins 3 [7] [a])).upd S.n (.ins 3 [7,8] [a,b])).h S.n=_:=gC9;have h4:((((S.new (.ins 3 [] [])).upd S.n (.ins 3 [7] [a])).upd S.n (.ins 3 [7,8] [a,b])).upd S.n (.ins 3 [7,8,38] [a,b,c])).h S.n=_:=gC9;have h5:(((((S.new (.ins 3 [] [])).upd S.n (.ins 3 [7] [a])).upd S.n (.ins 3 [7,8] [a,b])).upd S.n (.ins 3 [7,8,38] [a,b,c])).upd S.n (.ins 3 [7,8,38,56] [a,b,c,d])).h S.n=_:=gC9;refine gB8 (vs:=[.loc S.n,a,b,c,d,e]) rfl rfl ?_;refine gM0<|gF1 rfl ha<|gR8 rfl h<| .i<| .e (gG7 h)<|And.intro rfl<|gM0<|gF1 rfl hb<|gR8 rfl h2<| .i<| .e (gG7 h2)<|And.intro rfl<|gM0<|gF1 rfl hc<|gR8 rfl h3<| .i<| .e (gG7 h3)<|And.intro rfl<|gM0<|gF1 rfl hd<|gR8 rfl h4<| .i<| .e (gG7 h4)<|And.intro rfl<|gM0<|gF1 rfl he<|gR8 rfl h5<| .i<| .e (gG7 h5)<|And.intro rfl<|gB0<| .i<|And.intro rfl<| ?_;show _=_;rw[gY6,gY6,gY6,gY6];exact gY6
end
theorem kk{S:St}{c:Nat}{ns:List Nat}{vs:List V}{o:Option (V×St)}{Q:St->Prop}(h:mkk S c ns vs o)(q:Q (S.new (.ins c ns vs))):W o λv S'=>gD0 v=true/\Q S':=h.imp λδ δ h=>⟨h.1,h.2▸q⟩
noncomputable def gN1(ps:List Nat)(n i:Nat):Nat:=match ps[i]? with|some p=>p|none=>n+(i-ps.length)
theorem gY0{ps:List Nat}{n i p:Nat}(h:ps[i]?=some p):gN1 ps n i=p:=by unfold gN1;rw[h]
theorem gN5{ps:List Nat}{n i:Nat}(h:ps.length<=i):gN1 ps n i=n+(i-ps.length):=by unfold gN1;rw[List.getElem?_eq_none h]
structure Pl(ps:List Nat)(n:Nat):Prop where
 nd:ps.Nodup
 lt:∀p,p∈ps->p<n
theorem jK9{ps:List Nat}{n:Nat}(h:Pl ps n)(a b:Nat)(e:gN1 ps n a=gN1 ps n b):a=b:=by
 have L:∀i p,ps[i]?=some p->p<n:=λi p q=>h.lt p (List.mem_of_getElem? q);rcases Nat.lt_or_ge a ps.length with qa|qa<;>rcases Nat.lt_or_ge b ps.length with qb|qb
 ·rw[gY0 (List.getElem?_eq_getElem qa),gY0 (List.getElem?_eq_getElem qb)]at e;exact(List.getElem_inj h.nd).mp e
 ·rw[gY0 (List.getElem?_eq_getElem qa),gN5 qb]at e;exact(lF7 e (L a _ (List.getElem?_eq_getElem qa))).elim
 ·rw[gY0 (List.getElem?_eq_getElem qb),gN5 qa]at e;exact(lF7 e.symm (L b _ (List.getElem?_eq_getElem qb))).elim
 ·rw[gN5 qa,gN5 qb]at e;exact(Nat.sub_add_cancel qa).symm.trans ((congrArg (· +ps.length) (Nat.add_left_cancel e)).trans (Nat.sub_add_cancel qb))
noncomputable def pm(D:Par){ps:List Nat}{n:Nat}(h:Pl ps n):Par:=⟨gN1 ps n,jK9 h,D.dat,D.base,D.td,D.fin,D.kn,D.en,D.hl⟩
noncomputable abbrev D0:Par:=⟨id,λδ δ h=>h,[],0,[],true,λδ δ h=>nn h,by decide,by decide⟩
noncomputable def Sof(os:List (Option O)):St:=⟨λi=>(os[i]?).join,os.length⟩
noncomputable def Hs(H:Hm)(R:St):List Nat->List (Option O)->Prop
 | [],[]=>True
 |p::ps,some t::os=>R.h p=some (tho H t)/\Hs H R ps os
 |p::ps,none::os=>(∃o,R.h p=some o/\∀v,o≠ .frz v)/\Hs H R ps os
 |_,_=>False
theorem gQ4{H:Hm}{R:St}:∀ {ps:List Nat}{os:List (Option O)},Hs H R ps os->os.length=ps.length/\(∀(i:Nat) (t:O),os[i]?=some (some t)->∃p,ps[i]?=some p/\R.h p=some (tho H t))/\∀i:Nat,os[i]?=some none->∃p o,ps[i]?=some p/\R.h p=some o/\∀v,o≠ .frz v
 | [],[],_=>⟨rfl,λδ δ h=>(by cases h),λδ h=>(by cases h)⟩
 |p::ps,some t::os,h=>by
  refine e03 (gQ4 h.2) λa b c=> ?_;refine⟨congrArg (· +1) a,λi t e=> ?_,λi e=> ?_⟩
  ·cases i with
   |zero=>cases e;exact⟨p,rfl,h.1⟩
   |succ i=>exact b i t e
  ·cases i with
   |zero=>cases e
   |succ i=>exact c i e
 |p::ps,none::os,h=>by
  refine e03 (gQ4 h.2) λa b c=> ?_;refine⟨congrArg (· +1) a,λi t e=> ?_,λi e=> ?_⟩
  ·cases i with
   |zero=>cases e
   |succ i=>exact b i t e
  ·cases i with
   |zero=>
    refine e12 (h.1) λo h1 h2=> ?_
    exact⟨p,o,rfl,h1,h2⟩
   |succ i=>exact c i e
 | [],_::_,h=>h.elim
 |_::_,[],h=>h.elim
section
variable{D:Par}{ps:List Nat}{os:List (Option O)}{R R' S':St}{n:Nat}
theorem iA5(w:Wf R){pl:Pl ps R.n}(h:Hs (pm D pl).hm R ps os):Rl (pm D pl).hm (Sof os) R:=by
 refine e03 (gQ4 h) λl a b=> ?_;refine⟨λi o e=> ?_,λj=> ?_,λk v e=> ?_,w⟩
 ·have e:(os[i]?).join=some o:=e;refine e12 (a i o (Option.join_eq_some_iff.mp e)) λp h1 h2=> ?_;show R.h (gN1 ps R.n i)=_;rw[gY0 h1];exact h2
 ·show gN1 ps R.n (os.length+j)=_;rw[gN5 (Nat.le_trans (Nat.le_of_eq l.symm) (Nat.le_add_right ..)),l,Nat.add_sub_cancel_left]
 ·have e:(os[k]?).join=none:=e;show R.h (gN1 ps R.n k)≠_;rcases Nat.lt_or_ge k os.length with q|q
  ·have g:=List.getElem?_eq_getElem q;rw[g]at e;have e:os[k]=none:=e;rw[e]at g;refine e23 (b k g) λp o h1 h2 h3=> ?_;rw[gY0 h1,h2];exact λz=>h3 v (Option.some.inj z)
  ·rw[gN5 (Nat.le_trans (Nat.le_of_eq l.symm) q),w _ (by(exact Nat.le_trans (Nat.le_refl R.n) (Nat.le_add_right R.n (k-ps.length))))];nofun
noncomputable def kn:List Nat->List (Option O)->List Nat
 |p::ps,some _::os=>p::kn ps os
 |_::ps,none::os=>kn ps os
 |_,_=> []
theorem jE2:∀ {ps:List Nat}{os:List (Option O)}{i p:Nat}{t:O},ps[i]?=some p->os[i]?=some (some t)->p∈kn ps os
 | [],_,_,_,_,h,_=>by cases h
 |_::_,[],_,_,_,_,h=>by cases h
 |q::ps,o::os,0,p,t,h,h'=>by cases h;cases h';exact mS
 |q::ps,o::os,i+1,p,t,h,h'=>by
  have:=jE2 (ps:=ps) (os:=os) (i:=i) h h'
  cases o with
  |none=>exact this
  |some _=>exact mO _ this
theorem iA6(w:Wf R){pl:Pl ps R.n}(l:os.length=ps.length)(s:Sp (pm D pl).hm (Sof os) R S' R'):Kp (kn ps os) R R':=by
 refine⟨?_,s.rl.emp,λk o e n=> ?_⟩
 ·have h:=s.rl.new 0;have le:os.length<=S'.n:=s.le;have h:gN1 ps R.n (S'.n+0)=R'.n+0:=h;rw[gN5 (Nat.le_trans (Nat.le_of_eq l.symm) (Nat.le_add_right_of_le le))]at h;exact Nat.le_trans (Nat.le_add_right ..) (Nat.le_of_eq h)
 ·rw[s.fr k λi q=> ?_];exact e;have q:gN1 ps R.n i=k:=q;rcases Nat.lt_or_ge i ps.length with z|z
  ·have z':i<os.length:=Nat.lt_of_lt_of_le z (Nat.le_of_eq l.symm);rw[gY0 (List.getElem?_eq_getElem z)]at q;refine⟨z',?_⟩;show(os[i]?).join=none;rw[List.getElem?_eq_getElem z']
   cases y:os[i]with
   |none=>rfl
   |some t=>exact absurd (jE2 (os:=os) (i:=i) (t:=t) (q▸List.getElem?_eq_getElem z) (by rw[List.getElem?_eq_getElem z',y])) n
  ·rw[gN5 z]at q;exact absurd (w.lt e) (Nat.not_lt.mpr (Nat.le_trans (Nat.le_add_right ..) (Nat.le_of_eq q)))
noncomputable def iI3(S:St):List (Option O):=(List.range S.n).map S.h
noncomputable def Has(H:Hm)(os:List (Option O))(R:St):Prop:=∀(i:Nat) (t:O),os[i]?=some (some t)->R.h (H.rho i)=some (tho H t)
theorem has{H:Hm}(r:Rl H S' R'):Has H (iI3 S') R':=λi t e=>by
 have e:((List.range S'.n).map S'.h)[i]?=some (some t):=e;rw[List.getElem?_map]at e
 cases q:(List.range S'.n)[i]? with
 |none=>rw[q]at e;cases e
 |some j=>
  rw[q]at e
  have:=List.getElem?_range (i:=i) (n:=S'.n) (by
   have:=List.getElem?_eq_some_iff.mp q;refine e11 this λl δ=> ?_
   rw[List.length_range]at l;exact l)
  rw[this]at q;cases q;exact r.at_ _ _ (Option.some.inj e)
theorem tB{f F:Nat}{l:List MS}{m m':Lo}{fl:Fl}{xs:List Nat}{us:List (Option V)}{os':List (Option O)}{pl:Pl ps R.n}{Q:Fl->Lo->St->Prop}(w:Wf R)(h:Hs (pm D pl).hm R ps os)(lo:LoR (pm D pl).hm m m')
  (e:(exB (tpl (tPr D.td D.fin noO)) F l m (Sof os)).map (λq=>(q.1,xs.map q.2.1,iI3 q.2.2))=some (fl,us,os'))
  (k:∀m2 R',(∀(i x:Nat) (v:V),xs[i]?=some x->us[i]?=some (some v)->m2 x=some (th (pm D pl).hm v))->Has (pm D pl).hm os' R'->Kp (kn ps os) R R'->Q (thf (pm D pl).hm fl) m2 R'):X (exB prog (f+F) l m' R) Q:=by
 cases q:exB (tpl (tPr D.td D.fin noO)) F l m (Sof os)with
 |none=>rw[q]at e;cases e
 |some q'=>
  obtain⟨fl',m1,S1⟩:=q';rw[q]at e;cases e;refine e23 ((hom (com (pm D pl) (λδ h=>nn h)) F).b q (iA5 w h) lo (Nat.le_add_left F f)) λm2 R' q l2 s=> ?_;refine⟨_,_,_,q,k m2 R' (λi x v a b=> ?_) (has s.rl) (iA6 w (gQ4 h).1 s)⟩;rw[List.getElem?_map,a]at b;exact l2 x v (Option.some.inj b)
theorem tC{f F g:Nat}{args rargs:List V}{v:V}{os':List (Option O)}{pl:Pl ps R.n}{Q:QP}(w:Wf R)(h:Hs (pm D pl).hm R ps os)(ea:ths (pm D pl).hm args=rargs)(e:(gA4 (tpl (tPr D.td D.fin noO)) F g args (Sof os)).map (λq=>(q.1,iI3 q.2))=some (v,os'))
  (k:∀R',Has (pm D pl).hm os' R'->Kp (kn ps os) R R'->Q (th (pm D pl).hm v) R'):W (gA4 prog (f+F) g rargs R) Q:=by
 cases q:gA4 (tpl (tPr D.td D.fin noO)) F g args (Sof os)with
 |none=>rw[q]at e;cases e
 |some q'=>
  rw[q]at e;cases e;refine e12 ((hom (com (pm D pl) (λδ h=>nn h)) F).c q (iA5 w h) (Nat.le_add_left F f)) λR' q s=> ?_;rw[ea]at q;exact⟨_,_,q,k R' (has s.rl) (iA6 w (gQ4 h).1 s)⟩
theorem tE{f F:Nat}{ex:ME}{m m':Lo}{v:V}{os':List (Option O)}{pl:Pl ps R.n}{Q:QP}(w:Wf R)(h:Hs (pm D pl).hm R ps os)(lo:LoR (pm D pl).hm m m')(e:(evE (tpl (tPr D.td D.fin noO)) F ex m (Sof os)).map (λq=>(q.1,iI3 q.2))=some (v,os'))
  (k:∀R',Has (pm D pl).hm os' R'->Kp (kn ps os) R R'->Q (th (pm D pl).hm v) R'):W (evE prog (f+F) ex m' R) Q:=by
 cases q:evE (tpl (tPr D.td D.fin noO)) F ex m (Sof os)with
 |none=>rw[q]at e;cases e
 |some q'=>
  rw[q]at e;cases e;refine e12 ((hom (com (pm D pl) (λδ h=>nn h)) F).e q (iA5 w h) lo (Nat.le_add_left F f)) λR' q s=> ?_;exact⟨_,_,q,k R' (has s.rl) (iA6 w (gQ4 h).1 s)⟩
theorem tS{f F:Nat}{s:MS}{m m':Lo}{os':List (Option O)}{pl:Pl ps R.n}{Q:Fl->Lo->St->Prop}(w:Wf R)(h:Hs (pm D pl).hm R ps os)(lo:LoR (pm D pl).hm m m')(e:(exS (tpl (tPr D.td D.fin noO)) F s m (Sof os)).map (λq=>(q.1,iI3 q.2.2))=some (.nx,os'))
  (k:∀R',Has (pm D pl).hm os' R'->Kp (kn ps os) R R'->Q .nx m' R')(ml:∀f S q,exS prog f s m' S=some q->q.2.1=m'):X (exS prog (f+F) s m' R) Q:=by
 cases q:exS (tpl (tPr D.td D.fin noO)) F s m (Sof os)with
 |none=>rw[q]at e;cases e
 |some q'=>
  obtain⟨fl,m1,S1⟩:=q';rw[q]at e;have e:some (fl,iI3 S1)=some (.nx,os'):=e;cases e;refine e23 ((hom (com (pm D pl) (λδ h=>nn h)) F).s q (iA5 w h) lo (Nat.le_add_left F f)) λm2 R' q l2 s=> ?_;have e2:=ml _ _ _ q;have e2:m2=m':=e2;subst e2;exact⟨_,_,_,q,k R' (has s.rl) (iA6 w (gQ4 h).1 s)⟩
end
theorem jN7{o i e:ME}{m:Lo}(f:Nat)(S:St)(q:Fl×Lo×St)(h:exS prog f (.asgS o i e) m S=some q):q.2.1=m:=by
 cases f with
 |zero=>exact nn h
 |succ f=>exact hR4 (G:=λq=>q.2.1=m) h λδ δ δ δ δ δ δ δ δ δ δ δ=>rfl
theorem LoR.z{H:Hm}{m:Lo}:LoR H (λδ=>none) m:=λδ δ e=>nn e
theorem Pl.z{n:Nat}:Pl [] n:=⟨.nil,λδ h=>gQ0 h⟩
theorem Pl.o{n p:Nat}(h:p<n):Pl [p] n:=⟨by simp,λq e=>(List.mem_singleton.mp e)▸h⟩
theorem Pl.two{n p q:Nat}(h:p<n)(h':q<n)(e:p≠q):Pl [p,q] n:=⟨by simp[e],λx e=>by rcases mC e with rfl|e;exact h;exact(List.mem_singleton.mp e)▸h'⟩
theorem Pen.kp{S S':St}{p:Nat}{i:Int}(h:Pen S p i)(k:Kp [] S S'):Pen S' p i:=by obtain⟨cs,c,h⟩:=h;exact⟨cs,c,k.z h⟩
theorem Pen.n{S:St}{p:Nat}{i:Int}{Q:QP}(h:Pen S p i)(q:Q (.loc p) S):Nm S (.loc p) Q:=by obtain⟨cs,c,h⟩:=h;exact gY8 h q
section
variable{S Sz S1:St}{T:List Nat}{p k f:Nat}{o o':O}
theorem Kp.nw(a:Kp T S S1):Kp T S (S1.new o):=a.trans (.new a.wf)
theorem Kp.up(a:Kp T S S1)(w:Wf S)(l:S.n<=k)(e:S1.h k=some o'):Kp T S (S1.upd k o):=a.fresh l w ((Kp.upd a.wf e).sub λδ h=>List.mem_cons.mpr (.inl (List.mem_singleton.mp h)))
theorem Kp.fr(a:Kp T S S1)(w:Wf S)(l:S.n<=k){S2:St}(b:Kp [k] S1 S2):Kp T S S2:=a.fresh l w (b.sub λδ h=>List.mem_cons.mpr (.inl (List.mem_singleton.mp h)))
noncomputable def Fz(n0:Nat)(u v:V)(S:St):Prop:=∀f,W (frz (f+6) u S) λy S'=>y=v/\∀T Sz,Sz.n<=n0->Wf Sz->Kp T Sz S->Kp T Sz S'
theorem Fz.v{n0:Nat}{v:V}(e:kOf v=none):Fz n0 v v S:=λf=>z_v e ⟨rfl,λδ δ δ δ h=>h⟩
theorem Fz.d{n0:Nat}{l r:List V}(e:S.h k=some (.dct l r))(n:n0<=k):Fz n0 (.loc k) (.dct l r) S:=λf=>iE4 e ⟨rfl,λδ δ l w a=>a.up w (Nat.le_trans l n) e⟩
theorem Fz.s{n0 j:Nat}{l r:List V}{y:List Nat}(e:S.h k=some (.ins 1 [23,47] [.loc j,.bytes y]))(ej:S.h j=some (.dct l r))(n:n0<=k)(nj:n0<=j):Fz n0 (.loc k) (.ob 1 [23,47] [.dct l r,.bytes y]) S:=λf=>by have ne:k≠j:=jN5 e ej (gH0 rfl);have e2:(S.upd j (.frz (.dct l r))).h k=_:=gB9 ne e;refine iE2 e rfl (gD1 (iE4 ej (gD1 (z_v rfl (gC6 (.e (gG7 e2) ?_))))));refine⟨?_,λδ δ l w a=>(a.up w (Nat.le_trans l nj) ej).up w (Nat.le_trans l n) e2⟩;show V.ob 1 [23,47] [norm _ (.loc j),_]=_;rw[iW5 gC9];rfl
end
noncomputable def Val(n0:Nat)(u:V)(S:St)(l:List V):Prop:=∃v∈l,Fz n0 u v S
noncomputable def iE5(p:Nat)(i:Int)(S:St)(l:List V)(u:V)(S':St):Prop:=(∃j,Pen S' p j/\i<=j/\j<=i+6)/\Kp [p] S S'/\Val S.n u S' l
theorem ma{α:Type}{a b:List α}{x:α}(h:x∈a):x∈a++b:=List.mem_append.mpr (.inl h)
theorem mb{α:Type}{a b:List α}{x:α}(h:x∈b):x∈a++b:=List.mem_append.mpr (.inr h)
theorem hG0{n:Nat}{r:Int}(h:0<=r)(h':r<n):r∈gK8 n:=List.mem_map.mpr ⟨r.toNat,List.mem_range.mpr (by(exact il4 h h')),Int.toNat_of_nonneg h⟩
set_option maxHeartbeats 2000000 in
theorem jU5{f p:Nat}{i:Int}{S:St}(w:Wf S)(h:Pen S p i)(hi:0<=i/\i<999990):
  W (gA4 prog (f+60) 2 [.loc p] S) (iE5 p i S vals):=by
 refine e21 h λcs c hp=> ?_;refine gB8 (vs:=[.loc p]) rfl rfl ?_;refine gC0<|gA3<|gA0<|gR7 rfl hp<|gA0<|gA2<|gA1<| ?_;refine(gR3 w ⟨cs,c,hp⟩ (by(exact il1 hi rfl)) (by decide)).imp λu S1 h=> ?_;obtain⟨r,rfl,hr,⟨cs1,c1,hp1⟩,k1⟩:=h;have hr:r=0\/(r=1\/r=2)\/r=3\/r=4\/(r=5\/r=6):=by lia
 have j1:∃j,Pen S1 p j/\i<=j/\j<=i+6:=⟨_,⟨cs1,c1,hp1⟩,pb1⟩
 have pk:∀ {S2:St},Kp [] S1 S2->∃j,Pen S2 p j/\i<=j/\j<=i+6:=λk=>⟨_,⟨cs1,c1,k.z hp1⟩,pb1⟩
 rcases hr with rfl|hr|rfl|rfl|hr
 ·refine gB6<|hA8 rfl rfl rfl<|If.t<|gF0<|gA3<|gA0<|gR7 rfl hp1<|gA0<|gA2<|gA1<| ?_;refine(gR3 k1.wf ⟨cs1,c1,hp1⟩ (by(exact il2 hi rfl)) (by decide)).imp λu S2 h=> ?_;obtain⟨r,rfl,hr,h2,k2⟩:=h;refine Nx.rt<| .i<| ?_;refine⟨⟨_,h2,pb2⟩,k1.trans k2,.int r,?_,.v rfl⟩;exact ma (ma (ma (List.mem_map.mpr ⟨r,hG0 hr.1 hr.2,rfl⟩)))
 ·have fin:∀ {R':St}{x:V}(kk:Kp [] S1 R') (q:R'.h (S1.n+1)=some (.dct [.str gE1,.str sK] [nmV iS7,x])) (hx: .dct [.str gE1,.str sK] [nmV iS7,x]∈vals),iE5 p i S vals (.loc (S1.n+1)) R':=λkk q hx=>⟨pk kk,k1.trans kk.nil,_,hx,.d q (Nat.le_succ_of_le k1.le)⟩
  rcases hr with rfl|rfl
  ·exact tB (D:=D0) (os:=[]) (F:=57) (xs:=[]) (us:=[]) (fl:= .rt (.loc 1)) (os':=[some (.frz (nmV iS7)),some (.dct [.str gE1,.str sK] [nmV iS7,.int 1])]) (pl:= .z) (m:=Lo.set (λδ=>none) 22 (.int 1)) k1.wf trivial (LoR.z.set 22 (.int 1)) (by kernel_rfl) λm2 R' δ r kk=> .i (fin kk (r 1 _ rfl) (List.mem_of_getElem? (i:=9) rfl))
  ·exact tB (D:=D0) (os:=[]) (F:=57) (xs:=[]) (us:=[]) (fl:= .rt (.loc 1)) (os':=[some (.frz (nmV iS7)),some (.dct [.str gE1,.str sK] [nmV iS7,.int 2])]) (pl:= .z) (m:=Lo.set (λδ=>none) 22 (.int 2)) k1.wf trivial (LoR.z.set 22 (.int 2)) (by kernel_rfl) λm2 R' δ r kk=> .i (fin kk (r 1 _ rfl) (List.mem_of_getElem? (i:=10) rfl))
 ·refine gB6<|hA8 rfl rfl rfl<|If.f<|gK9<|gB6<|hA8 rfl rfl rfl<|If.f<|gK9<|gB6<|hA8 rfl rfl rfl<|If.t<|gF0<|gW4<|gA0<|gA3<|gA0<|gR7 rfl hp1<|gA0<|gA2<|gA1<| ?_;refine(gR3 k1.wf ⟨cs1,c1,hp1⟩ (by(exact il2 hi rfl)) (by decide)).imp λu S2 h=> ?_;obtain⟨r,rfl,hr,h2,k2⟩:=h;refine gA1<|gI4 rfl<|gC6<|And.intro rfl<|Nx.rt<| .i<| ?_;have h2:Pen (S2.new (O.dct [.str sK] [.int r])) p (i+1+1):=h2.kp (.new k2.wf);exact⟨⟨_,h2,pb2⟩,(k1.trans k2).nw,_,ma (mb (List.mem_map.mpr ⟨r,hG0 hr.1 hr.2,rfl⟩)),.d gA6 (Nat.le_trans k1.le k2.le)⟩
 ·refine gB6<|hA8 rfl rfl rfl<|If.f<|gK9<|gB6<|hA8 rfl rfl rfl<|If.f<|gK9<|gB6<|hA8 rfl rfl rfl<|If.f<|gK9<| ?_;refine gC0 (tE (D:=D0) (os:=[]) (F:=40) (v:= .loc 2) (os':=[some (.lst [.str gG1,.str iS6,.str [88]]),some (.frz (nmV gG1)),some (.dct [.str gE1,.str gU3] [nmV gG1,.int 0])]) (pl:= .z) (m:=Lo.set (λδ=>none) 22 (.int 4)) k1.wf trivial (LoR.z.set 22 (.int 4)) (by kernel_rfl) λR2 r2 q2=> ?_);have h2:R2.h (S1.n+2)=some (.dct [.str gE1,.str gU3] [nmV gG1,.int 0]):=r2 2 _ rfl;have l2:S1.n<=S1.n+2:=by(exact Nat.le_trans (Nat.le_refl S1.n) (Nat.le_add_right S1.n 2))
  show X (exB prog _ _ (Lo.set _ 23 (.loc (S1.n+2))) R2) _;generalize S1.n+2=k at h2 l2;refine gB6<|hA8 rfl rfl rfl<|If.t<| ?_;refine gJ3 (tS (D:=D0) (ps:=[k]) (os:=[some (.dct [.str gE1,.str gU3] [nmV gG1,.int 0])]) (os':=[some (.dct [.str gE1,.str gU3,.str sW] [nmV gG1,.int 0,.lst [.int 1,.int 1,.int 1]]),some (.frz (.lst [.int 1,.int 1,.int 1]))]) (pl:= .o (Wf.lt q2.wf h2)) (F:=40) (m:=Lo.set (λδ=>none) 23 (.loc 0)) q2.wf ⟨h2,trivial⟩ (LoR.z.set 23 (.loc 0)) (by kernel_rfl) (λR3 r3 q3=> ?_) jN7);have h3:R3.h k=some (.dct [.str gE1,.str gU3,.str sW] [nmV gG1,.int 0,.lst [.int 1,.int 1,.int 1]]):=r3 0 _ rfl;have hp3:R3.h p=_:=q3.one (Nat.ne_of_lt (Nat.lt_of_lt_of_le (Wf.lt k1.wf hp1) l2)) (q2.z hp1);have k3:Kp [p] S R3:=(k1.trans q2.nil).fr w (Nat.le_trans k1.le l2) q3;refine Nx.nx<|gJ4<|gH9 rfl<|gA0<|gI6<|gA2<|gA3<|gA0<|gR7 rfl hp3<|gA0<|gA2<|gA1<| ?_;refine(gR3 q3.wf ⟨cs1,c1,hp3⟩ (by(exact il2 hi rfl)) (by decide)).imp λu S4 h=> ?_;obtain⟨r,rfl,hr,⟨cs4,c4,hp4⟩,q4⟩:=h;have h4:=q4.one (λe=>by rw[e,hp3]at h3;cases h3) h3;have k4:=k3.trans q4;refine .i<|gA0<|gA2<|gA1<|kk (iX5 rfl rfl)<|gA7 rfl<| ?_;have h5:=gH3 (o:= .ins 2 [7,8] [.int (1+r),.int 0]) q4.wf h4;refine gJ2 h5 ?_;have q5:Kp [] S4 ((S4.new (.ins 2 [7,8] [.int (1+r),.int 0])).upd S4.n (.frz (rf (1+r) 0))):=(Kp.nw (.refl q4.wf)).up q4.wf (Nat.le_refl _) gA6;refine .i<|gA2<|iE2 gA6 rfl<|gI4 rfl<|gI4 rfl<|gC6<| .e (gG7 gA6)<| ?_;show Op (gO7 (St.upd _ _ (.frz (rf (1+r) 0))) _ _ (rf (1+r) 0)) _;have h6:=q5.z h4;have hp6:=q5.z hp4;have k6:=k4.trans q5.nil;generalize (S4.new (.ins 2 [7,8] [.int (1+r),.int 0])).upd S4.n (.frz (rf (1+r) 0))=S6 at h6 hp6 k6;refine Op.e (gO6 h6 rfl) ?_;show X (exB prog _ _ _ (St.upd _ _ (.dct [.str gE1,.str gU3,.str sW,.str gB5] [nmV gG1,.int 0,.lst [.int 1,.int 1,.int 1],rf (1+r) 0]))) _;have ne:p≠k:=λe=>by rw[e,h6]at hp6;cases hp6
  have lk:S.n<=k:=Nat.le_trans k1.le l2;have h7:(S6.upd k (.dct [.str gE1,.str gU3,.str sW,.str gB5] [nmV gG1,.int 0,.lst [.int 1,.int 1,.int 1],rf (1+r) 0])).h k=some (.dct [.str gE1,.str gU3,.str sW,.str gB5] [nmV gG1,.int 0,.lst [.int 1,.int 1,.int 1],rf (1+r) 0]):=gC9;have hp7:=gB9 (o:= .dct [.str gE1,.str gU3,.str sW,.str gB5] [nmV gG1,.int 0,.lst [.int 1,.int 1,.int 1],rf (1+r) 0]) ne hp6;have k7:=k6.up (o:= .dct [.str gE1,.str gU3,.str sW,.str gB5] [nmV gG1,.int 0,.lst [.int 1,.int 1,.int 1],rf (1+r) 0]) w lk h6;generalize S6.upd k (.dct [.str gE1,.str gU3,.str sW,.str gB5] [nmV gG1,.int 0,.lst [.int 1,.int 1,.int 1],rf (1+r) 0])=S7 at h7 hp7 k7;refine gJ4<|gA2<|hB8 rfl h7<| .i<|gA2<|z_v rfl<| .e (gO6 h7 rfl)<|gK9<|gF0<|gH9 rfl<|gA0<|hB8 rfl gC9<|gA0<|gA2<|gA1<| ?_;show W (gA4 prog _ 57 [.loc (S7.upd k (.dct [.str gE1,.str gU3,.str sW,.str gB5,.str gS1] [nmV gG1,.int 0,.lst [.int 1,.int 1,.int 1],rf (1+r) 0,.int 5])).n,.loc k,.bytes []] (St.new (S7.upd k (.dct [.str gE1,.str gU3,.str sW,.str gB5,.str gS1] [nmV gG1,.int 0,.lst [.int 1,.int 1,.int 1],rf (1+r) 0,.int 5])) _)) λv S'=>gD0 v=true/\Op (some (.loc (S7.upd k (.dct [.str gE1,.str gU3,.str sW,.str gB5,.str gS1] [nmV gG1,.int 0,.lst [.int 1,.int 1,.int 1],rf (1+r) 0,.int 5])).n)) λv=>iE5 p i S vals v S';have h8:(S7.upd k (.dct [.str gE1,.str gU3,.str sW,.str gB5,.str gS1] [nmV gG1,.int 0,.lst [.int 1,.int 1,.int 1],rf (1+r) 0,.int 5])).h k=some (.dct [.str gE1,.str gU3,.str sW,.str gB5,.str gS1] [nmV gG1,.int 0,.lst [.int 1,.int 1,.int 1],rf (1+r) 0,.int 5]):=gC9;have hp8:=gB9 (o:= .dct [.str gE1,.str gU3,.str sW,.str gB5,.str gS1] [nmV gG1,.int 0,.lst [.int 1,.int 1,.int 1],rf (1+r) 0,.int 5]) ne hp7;have k8:=k7.up (o:= .dct [.str gE1,.str gU3,.str sW,.str gB5,.str gS1] [nmV gG1,.int 0,.lst [.int 1,.int 1,.int 1],rf (1+r) 0,.int 5]) w lk h7;generalize S7.upd k (.dct [.str gE1,.str gU3,.str sW,.str gB5,.str gS1] [nmV gG1,.int 0,.lst [.int 1,.int 1,.int 1],rf (1+r) 0,.int 5])=S8 at h8 hp8 k8⊢;refine kk (iX4 (.inr ⟨k,_,rfl,h8,(λδ=>gH0 rfl)⟩) k8.wf rfl) (.i ?_);refine⟨⟨_,⟨cs4,c4,gH3 k8.wf hp8⟩,pb2⟩,k8.nw,vX (1+r),?_,.s gA6 (gH3 k8.wf h8) k8.le lk⟩;have:r=0\/r=1\/r=2:=rg3 hr;rcases this with rfl|rfl|rfl
  ·exact List.mem_of_getElem? (i:=16) rfl
  ·exact List.mem_of_getElem? (i:=17) rfl
  ·exact List.mem_of_getElem? (i:=18) rfl
 ·have fin:∀ {R':St}{s:List Nat}(kk:Kp [] S1 R') (q:R'.h (S1.n+3)=some (.ins 1 [23,47] [.loc (S1.n+2),.bytes []])) (q':R'.h (S1.n+2)=some (.dct [.str gE1,.str gU3] [nmV s,.int 0])) (hx:vS s∈vals),iE5 p i S vals (.loc (S1.n+3)) R':=λkk q q' hx=>⟨pk kk,k1.trans kk.nil,_,hx,.s q q' (by have:=k1.le;(exact Nat.le_trans this (Nat.le_add_right S1.n 3))) (by have:=k1.le;(exact Nat.le_trans this (Nat.le_add_right S1.n 2)))⟩
  rcases hr with rfl|rfl
  ·exact tB (D:=D0) (os:=[]) (F:=57) (xs:=[]) (us:=[]) (fl:= .rt (.loc 3)) (os':=[some (.lst [.str gG1,.str iS6,.str [88]]),some (.frz (nmV iS6)),some (.dct [.str gE1,.str gU3] [nmV iS6,.int 0]),some (.ins 1 [23,47] [.loc 2,.bytes []])]) (pl:= .z) (m:=Lo.set (λδ=>none) 22 (.int 5)) k1.wf trivial (LoR.z.set 22 (.int 5)) (by kernel_rfl) λm2 R' δ r kk=> .i (fin kk (r 3 _ rfl) (r 2 _ rfl) (List.mem_of_getElem? (i:=19) rfl))
  ·exact tB (D:=D0) (os:=[]) (F:=57) (xs:=[]) (us:=[]) (fl:= .rt (.loc 3)) (os':=[some (.lst [.str gG1,.str iS6,.str [88]]),some (.frz (nmV [88])),some (.dct [.str gE1,.str gU3] [nmV [88],.int 0]),some (.ins 1 [23,47] [.loc 2,.bytes []])]) (pl:= .z) (m:=Lo.set (λδ=>none) 22 (.int 6)) k1.wf trivial (LoR.z.set 22 (.int 6)) (by kernel_rfl) λm2 R' δ r kk=> .i (fin kk (r 3 _ rfl) (r 2 _ rfl) (List.mem_of_getElem? (i:=20) rfl))
theorem jV2{f:Nat}{s:MS}{r:List MS}{m:Lo}{S:St}{P Q:Fl->Lo->St->Prop}(h:X (exB prog (f+2) [s] m S) P)(k:∀fl m S,P fl m S->Nx (f+1) r Q fl m S):X (exB prog (f+2) (s::r) m S) Q:=by
 obtain⟨fl,m',S',e,p⟩:=h;have e:(exS prog (f+1) s m S).bind _=_:=e
 cases q:exS prog (f+1) s m S with
 |none=>rw[q]at e;cases e
 |some q'=>
  obtain⟨fl0,m0,Sz⟩:=q';rw[q]at e;have K:=k _ _ _ p;refine gJ3 ⟨fl0,m0,Sz,q,?_⟩;cases fl0<;>(cases e;exact K)
structure Mid(p k:Nat)(i0 c:Int)(S:St)(l:List (V×V))(S':St):Prop where
 pen:∃j,Pen S' p j/\i0<=j/\j<=i0+c
 dc:S'.h k=some (.dct (l.map (·.1)) (l.map (·.2)))
 kp:Kp [p] S S'
section
variable{S S1:St}{p k:Nat}{i0 c c':Int}{l l':List (V×V)}
theorem Mid.put(M:Mid p k i0 c S l S1)(w:Wf S)(lk:S.n<=k)(hc:c<=c'):Mid p k i0 c' S l' (S1.upd k (.dct (l'.map (·.1)) (l'.map (·.2)))):=by obtain⟨j,⟨cs,x,hp⟩,a,b⟩:=M.pen;have ne:p≠k:=jN5 hp M.dc (gH0 rfl);exact⟨⟨j,⟨cs,x,gB9 ne hp⟩,a,Int.le_trans b (Int.add_le_add_left hc _)⟩,gC9,M.kp.up w lk M.dc⟩
theorem Mid.wk(M:Mid p k i0 c S l S1)(h:c<=c'):Mid p k i0 c' S l S1:=by refine e13 (M.pen) λj a b d=> ?_;exact⟨⟨j,a,b,Int.le_trans d (Int.add_le_add_left h _)⟩,M.dc,M.kp⟩
theorem Mid.keep(M:Mid p k i0 c S l S1){S2:St}(q:Kp [] S1 S2):Mid p k i0 c S l S2:=by refine e13 (M.pen) λj h a b=> ?_;exact⟨⟨j,h.kp q,a,b⟩,q.z M.dc,M.kp.trans q.nil⟩
theorem Mid.np{Q:QP}(M:Mid p k i0 c S l S1)(h:Q (.loc p) S1):Nm S1 (.loc p) Q:=by obtain⟨j,⟨cs,x,hp⟩,_⟩:=M.pen;exact gY8 hp h
theorem Mid.nk{Q:QP}(M:Mid p k i0 c S l S1)(h:Q (.loc k) S1):Nm S1 (.loc k) Q:=gJ2 M.dc h
theorem Mid.draw{f:Nat}{many:Int}{Q:QP}(M:Mid p k i0 c S l S1)(hi:0<=i0/\i0+c<999990)(hm:0<many)(h:∀(r:Int) S2,0<=r/\r<many->Mid p k i0 (c+1) S l S2->Q (.int r) S2):W (gA4 prog (f+20) 1 [.loc p,.int many] S1) Q:=by refine e13 (M.pen) λj hj a b=> ?_;refine(gR3 M.kp.wf hj ⟨Int.le_trans hi.1 a,Int.lt_of_le_of_lt b (Int.lt_trans hi.2 (by decide))⟩ hm).imp λu S2 q=> ?_;obtain⟨r,rfl,hr,hp,kk⟩:=q;refine e21 hj λcs x hj=> ?_;exact h r S2 hr ⟨⟨_,hp,Int.le_trans a (Int.le_add_of_nonneg_right (by decide)),Int.le_trans (Int.add_le_add_right b 1) (Int.le_of_eq (Int.add_assoc ..))⟩,kk.one (jN5 M.dc hj (gH0 rfl)) M.dc,M.kp.trans kk⟩
end
noncomputable def okp(s:List Nat)(l:List (V×V)):Bool:=gA8 (.str s) (l.map (·.1))&&small l.length&&l.all λx=> !gB1 (.str s) x.1
theorem hY2{u v:V}:∀ {l:List (V×V)},(l.all λx=> !gB1 u x.1)=true->gJ5 u v (l.map (·.1)) (l.map (·.2))=((l++ [(u,v)]).map (·.1),(l++ [(u,v)]).map (·.2))
 | [],_=>rfl
 |x::l,h=>aN h λa b=>by show(if gB1 u x.1=true then _ else _)=_;rw[if_neg (by cases q:gB1 u x.1<;>simp[q]at a⊢),hY2 b];rfl
theorem Mid.putA{S S1:St}{p k:Nat}{i0 c:Int}{l:List (V×V)}{s:List Nat}{u:V}(M:Mid p k i0 c S l S1)(h:okp s l=true):gO7 S1 k (.str s) u=some (S1.upd k (.dct ((l++ [(V.str s,u)]).map (·.1)) ((l++ [(V.str s,u)]).map (·.2)))):=aN h λh c=>aN h λa b=>by have q:=gO6 (u:=u) M.dc (by rw[a,List.length_map];exact b);rw[hY2 c]at q;exact q
noncomputable def Md(p k:Nat)(i0 c:Int)(S:St)(m:Lo)(A:List (V×V)->Prop)(fl:Fl)(m':Lo)(S':St):Prop:=fl= .nx/\m'=m/\∃l,A l/\Mid p k i0 c S l S'
theorem Md.end{f p k:Nat}{i0 c:Int}{S S':St}{m:Lo}{A:List (V×V)->Prop}{l:List (V×V)}(a:A l)(M:Mid p k i0 c S l S'):Nx (f+1) [] (Md p k i0 c S m A) .nx m S':=⟨_,_,_,rfl,rfl,rfl,l,a,M⟩
theorem iQ1{f p:Nat}{i:Int}{S:St}(w:Wf S)(h:Pen S p i)(hi:0<=i/\i<999980):
  W (gA4 prog (f+60) 3 [.loc p] S) (iE5 p i S tras):=by
 refine gB8 (vs:=[.loc p]) rfl rfl ?_;refine gC0<|gW4<|gA1<|gC6<|And.intro rfl<| ?_;have M0:Mid p S.n i 0 S [] (S.new (.dct [] [])):=⟨⟨i,h.kp (.new w),Int.le_refl _,Int.le_of_eq (Int.add_zero i).symm⟩,gA6,.new w⟩
 show X (exB prog _ _ _ (S.new (.dct [] []))) _;generalize S.new (.dct [] [])=S1 at M0;refine jV2 (P:=Md p S.n i 2 S ((Lo.sets (λδ=>none) [3] [.loc p]).set 19 (.loc S.n)) λl=>∃x∈on (gK8 4),l=oI x) ?_ ?_
 ·refine gB6<|gC7<|gA3<|gA0<|gA7 rfl<| ?_;refine M0.np ?_;refine gA0<|gA2<|gA1<| ?_;refine M0.draw (many:=2) (by(exact il3 hi rfl)) (by decide) λr S2 hr M2=> ?_;refine gA2<| .i<| ?_;refine If.s (λδ=> ?_) λδ=>gB0 (Md.end ⟨none,mS,rfl⟩ (M2.wk (by decide)));refine gJ4<|gA3<|gA0<|gA7 rfl<| ?_;refine M2.np ?_;refine gA0<|gA2<|gA1<| ?_;refine M2.draw (many:=4) (by(exact il3 hi rfl)) (by decide) λr S2 hr M2=> ?_;refine gA7 rfl<| ?_;refine M2.nk ?_;refine .i<|gA2<|z_v rfl<| ?_;refine Op.e (gO6 M2.dc rfl) (gB0 (Md.end ⟨some r,mO _ (List.mem_map.mpr ⟨r,hG0 hr.1 hr.2,rfl⟩),rfl⟩ (M2.put w (Nat.le_refl _) (by decide))))
 ·intro fl m' S2 h;obtain⟨rfl,rfl,l,⟨x,hx,rfl⟩,M⟩:=h;refine Nx.nx (jV2 (P:=Md p S.n i 4 S ((Lo.sets (λδ=>none) [3] [.loc p]).set 19 (.loc S.n)) λl=>∃r∈on [1,2,3],l=oI x++oRt r) ?_ ?_)
  ·refine gB6<|gC7<|gA3<|gA0<|gA7 rfl<| ?_;refine M.np ?_;refine gA0<|gA2<|gA1<| ?_;refine M.draw (many:=3) (by(exact il3 hi rfl)) (by decide) λr S2 hr M2=> ?_;refine gA2<| .i<| ?_;refine If.s (λδ=> ?_) λδ=>gB0 (Md.end ⟨none,mS,(List.append_nil _).symm⟩ (M2.wk (by decide)));refine gJ4<|gH9 rfl<|gA0<|gI6<|gA2<|gA3<|gA0<|gA7 rfl<| ?_;refine M2.np ?_;refine gA0<|gA2<|gA1<| ?_;refine M2.draw (many:=3) (by(exact il3 hi rfl)) (by decide) λr S2 hr M2=> ?_;refine .i<|gA0<|gA2<|gA1<|kk (iX5 rfl rfl)<|gA7 rfl<| ?_;have M3:=M2.keep (Kp.nw (o:= .ins 2 [7,8] [.int (1+r),.int 0]) (.refl M2.kp.wf));refine M3.nk ?_;have M4:=M2.keep (Kp.up (o:= .frz (rf (1+r) 0)) (Kp.nw (o:= .ins 2 [7,8] [.int (1+r),.int 0]) (.refl M2.kp.wf)) M2.kp.wf (Nat.le_refl _) gA6);refine .i<|gA2<|iE2 gA6 rfl<|gI4 rfl<|gI4 rfl<|gC6<| .e (gG7 gA6)<| ?_;show Op (gO7 (St.upd _ _ (.frz (rf (1+r) 0))) _ (.str gB5) (rf (1+r) 0)) _;generalize (S2.new (.ins 2 [7,8] [.int (1+r),.int 0])).upd S2.n (.frz (rf (1+r) 0))=S5 at M4;refine Op.e (M4.putA (by cases x<;>rfl)) (gB0 (Md.end ⟨some (1+r),?_,rfl⟩ (M4.put (c':=4) w (Nat.le_refl _) (by decide))));have:r=0\/r=1\/r=2:=rg3 hr;rcases this with rfl|rfl|rfl<;>simp[on]
  ·intro fl m' S2 h;obtain⟨rfl,rfl,l,⟨y,hy,rfl⟩,M⟩:=h;refine Nx.nx (jV2 (P:=Md p S.n i 5 S ((Lo.sets (λδ=>none) [3] [.loc p]).set 19 (.loc S.n)) λl=>∃b,l=oI x++oRt y++oS b) ?_ ?_)
   ·refine gB6<|gC7<|gA3<|gA0<|gA7 rfl<| ?_;refine M.np ?_;refine gA0<|gA2<|gA1<| ?_;refine M.draw (many:=3) (by(exact il3 hi rfl)) (by decide) λr S2 hr M2=> ?_;refine gA2<| .i<| ?_;refine If.s (λδ=> ?_) λδ=>gB0 (Md.end ⟨false,(List.append_nil _).symm⟩ (M2.wk (by decide)));refine gJ4<|gA2<|gA7 rfl<| ?_;refine M2.nk ?_;refine .i<|gA2<|z_v rfl<| ?_;refine Op.e (M2.putA (s:=iG9) (by cases x<;>cases y<;>rfl)) ?_;have M3:=M2.put (l':=oI x++oRt y++ [(.str iG9,.int 9)]) (c':=5) w (Nat.le_refl _) (by decide);generalize S2.upd S.n _=S3 at M3⊢;refine gJ4<|gA2<|gA7 rfl<| ?_;refine M3.nk ?_;refine .i<|gA2<|z_v rfl<| ?_;refine Op.e (M3.putA (s:=gS1) (by cases x<;>cases y<;>rfl)) (gB0 (Md.end ⟨true,(List.append_assoc _ [_] [_]).symm▸rfl⟩ (M3.put w (Nat.le_refl _) (by decide))))
   ·intro fl m' S2 h;obtain⟨rfl,rfl,l,⟨b,rfl⟩,M⟩:=h;refine Nx.nx ?_;refine gF0<|gA7 rfl<| ?_;refine M.nk (.i ?_);refine e13 (M.pen) λj hj h1 h2=> ?_;refine⟨⟨j,hj,h1,Int.le_trans h2 (Int.add_le_add_left (by decide) _)⟩,M.kp,vT x y b,?_,.d M.dc (Nat.le_refl _)⟩;exact List.mem_flatMap.mpr ⟨x,hx,List.mem_flatMap.mpr ⟨y,hy,by cases b<;>simp⟩⟩
structure Row where
 o:Bool
 n:Int
 g:Int
 v:V
noncomputable abbrev jI7:List Nat:=[111,98,106,101,99,116]
noncomputable abbrev jC6:List Nat:=[116,114,97,105,108,101,114]
noncomputable def Row.w(r:Row):List Nat:=match r.o with|true=>jI7|false=>jC6
noncomputable def Row.V(r:Row):V:= .tup [.str r.w,.int r.n,.int r.g,r.v]
noncomputable def gI5(v:V):List Nat:=(yOf (iV1 4 v)).getD []
noncomputable def dg(i:Int):List Nat:=[48+i.toNat]
noncomputable def Row.part(r:Row):List Nat:=match r.o with
 |true=>dg r.n++ [32]++dg r.g++ [32,111,98,106,32]++gI5 r.v++ [32,101,110,100,111,98,106]
 |false=> [116,114,97,105,108,101,114,32]++gI5 r.v
structure Row.ok(r:Row):Prop where
 obj:r.o=true->(r.n=0\/r.n=1\/r.n=2\/r.n=3)/\(r.g=0\/r.g=1)/\r.v∈vals
 tra:r.o=false->r.n=0/\r.g=0/\r.v∈tras
noncomputable def kY5(v:V):Bool:=(kOf v).isNone&&(ok1 4 v&&(yOf (iV1 4 v)).any λl=>decide (l.length<500))
theorem iF8:(vals++tras).all kY5=true:=by decide+kernel
theorem gO1{v:V}(h:v∈vals++tras):kOf v=none:=aN (List.all_eq_true.mp iF8 v h) λa δ=>Option.isNone_iff_eq_none.mp a
theorem gU5{v:V}(h:v∈vals++tras):ok1 4 v=true/\iV1 4 v= .bytes (gI5 v)/\(gI5 v).length<500:=
 aN (List.all_eq_true.mp iF8 v h) λδ h=>aN h λa b=>aY b λl e q=>by
  have o:gI5 v=l:=by unfold gI5;rw[e];rfl
  exact⟨a,o.symm▸gD6 e,o.symm▸oX q⟩
theorem kO4{f:Nat}{v:V}{R:St}{Q:QP}(h:v∈vals++tras)(w:Wf R)(k:∀R',Kp [] R R'->Q (.bytes (gI5 v)) R'):W (gA4 prog (f+80) 4 [v] R) Q:=(iQ0 (gU5 h).1 w f).imp λu R' q=>by rw[q.1,(gU5 h).2.1];exact k R' q.2
theorem jX6{f x:Nat}{i:Int}{m:Lo}{S:St}{Q:QP}(e:m x=some (.int i))(hi:i=0\/i=1\/i=2\/i=3)(h:Q (.bytes (dg i)) S):W (evE prog (f+10) (.callBM (.callB .str [.var x]) .encode [.lit (.str [97,115,99,105,105])]) m S) Q:=by rcases hi with rfl|rfl|rfl|rfl<;>exact gC3<|gG3<|gN0 e rfl<|gA1<|cb rfl<|⟨rfl,gA0<|gA2<|gA1<|cm rfl h⟩
theorem iQ4{f:Nat}{m:Lo}{S:St}:∀(l:List Int) (acc:List Int),acc.length+l.length<1000->W (gD8 prog (f+l.length+20) (.bin .mod (.callB .int [(.var 2)]) (.lit (.int 1000003))) (.mk (.one 2) (.ex (.slc (.var 0) (.lit .none) (.lit (.int 60)))) []) [] (l.map .int) m (acc.map .int) S) λz S'=>S'=S/\z=((acc++l.map (·.fmod 1000003)).map .int)
 | [],acc,_=>jO6 ⟨rfl,by simp⟩
 |i::l,acc,h=>by
  refine jE1 rfl (gO2 ⟨λδ=> ?_,nofun⟩);refine gI6<|gG3<|gN0 rfl rfl<|gA1<|cb rfl<|gA2<| .i<|z_v rfl<| ?_;refine⟨by rw[List.length_map];exact dT (by have:=h;simp only[List.length_cons]at this;(exact nl3 (nl9 this) rfl)),?_⟩;have ih:=iQ4 (f:=f) (m:=m) (S:=S) l (acc++ [i.fmod 1000003]) (by have:=h;simp only[List.length_cons,List.length_append,List.length_nil]at this⊢;(exact nl3 (nl5 this) rfl));rw[List.map_append]at ih;refine ih.imp λz S' q=>⟨q.1,?_⟩
  rw[q.2,List.append_assoc];rfl
theorem hR3{n0:Nat}{S2 S3:St}(le:n0<=S2.n)(w:Wf S2)(kf:∀(T:List Nat) (Sz:St),Sz.n<=n0->Wf Sz->Kp T Sz S2->Kp T Sz S3):Wf S3/\∀k o,k<n0->S2.h k=some o->S3.h k=some o:=by
 have K:=kf [] ⟨λk=>if k<n0 then S2.h k else none,n0⟩ (Nat.le_refl _) (λj (h:n0<=j)=>if_neg (by(exact Nat.not_lt.mpr h))) ⟨le,w,λk o e δ=>by
  have e:(if k<n0 then S2.h k else none)=some o:=e
  by_cases q:k<n0
  ·rw[if_pos q]at e;exact e
  ·rw[if_neg q]at e;cases e⟩
 exact⟨K.wf,λk o h e=>K.kp k o ((if_pos h).trans e) List.not_mem_nil⟩
theorem hT8{l:List V}{x:V}:jK0 (l++ [x]) (-1)=some x:=by show List.getLast? (l++ [x])=_;simp
structure Rws(p kr kq:Nat)(n:Nat)(rs:List Row)(m:Lo)(S:St):Prop where
 mp:m 3=some (.loc p)
 mr:m 4=some (.loc kr)
 mq:m 5=some (.loc kq)
 pen:∃j,Pen S p j/\0<=j/\j<=1+12*n
 hr:S.h kr=some (.lst (rs.map Row.V))
 hq:S.h kq=some (.lst (rs.map λr=> .bytes r.part))
 wf:Wf S
 ok:∀r,r∈rs->r.ok
 len:rs.length=n
theorem Rws.fin{p kr kq n:Nat}{rs:List Row}{m:Lo}{S:St}{r:Row}{j:Int}(mp:m 3=some (.loc p))(mr:m 4=some (.loc kr))(mq:m 5=some (.loc kq))(hp:Pen S p j)(j0:0<=j/\j<=1+12*((n:Int)+1))(hr:S.h kr=some (.lst (rs.map Row.V++ [r.V])))(hq:S.h kq=some (.lst ((rs.map λr=>V.bytes r.part)++ [.bytes r.part])))(wf:Wf S)(ok:∀r,r∈rs->r.ok)(h:r.ok)(ln:rs.length=n):Rws p kr kq (n+1) (rs++ [r]) m S:=⟨mp,mr,mq,⟨j,hp,j0.1,by have:=j0.2;(exact this)⟩,by rw[List.map_append];exact hr,by rw[List.map_append];exact hq,wf,λx hx=>(List.mem_append.mp hx).elim (ok x) λe=>(List.mem_singleton.mp e)▸h,by rw[List.length_append,ln];rfl⟩
theorem iC0{x y:List Nat}(h:x.length+y.length<1000000):hI0 .add (.bytes x) (.bytes y)=some (.bytes (x++y)):=ik (dT h) rfl
theorem tr1{j:Int}{n:Nat}(hn:n<100)(j0:0<=j)(j1:j<=1+12*n):0<=j/\j<1202:=by lia
theorem kN9{f p kr kq n:Nat}{rs:List Row}{m:Lo}{S:St}{t:Tg}{it:It}{b:List MS}(hb:fn0.body[3]?=some (.fr t it b))(I:Rws p kr kq n rs m S)(hn:n<100)(n1:p≠kr)(n2:p≠kq)(n3:kr≠kq):
  X (exB prog (f+120) b m S) λfl m' S'=>fl= .nx/\∃r,Rws p kr kq (n+1) (rs++ [r]) m' S':=by
 cases hb;obtain⟨e3,e4,e5,⟨j,hp,j0,j1⟩,hr,hq,w,ok,ln⟩:=I;have jb:=tr1 hn j0 j1;have rl:rs.length<100:=Nat.lt_of_le_of_lt (Nat.le_of_eq ln) hn;have jc:0<=j+1/\j+1<1203:=il2 jb rfl;have jd:0<=j+1+1/\j+1+1<1204:=il2 jc rfl;have hp':=hp;refine e21 hp' λcs c hp'=> ?_;refine gB6<|gC7<|gA3<|gA0<|gR7 e3 hp'<|gA0<|gA2<|gA1<| ?_;refine(gR3 w hp (il1 jb rfl) (by decide)).imp λu S1 h=> ?_;obtain⟨r,rfl,hr0,hp1,k1⟩:=h;have hr1:=k1.one n1.symm hr;have hq1:=k1.one n2.symm hq;have lp:=Nat.lt_of_lt_of_le (Wf.lt w hp') k1.le;clear hp hp' hr hq;refine gA2<| .i<| ?_;refine If.s (λδ=> ?_) λδ=> ?_
 ·refine hI8<|gC3<|gR7 e4 hr1<|And.intro (gR1 hr1)<|gA0<|gJ7<|gA0<|gA2<|gA0<|gA2<|gA0<|gA2<|gA0<|gA3<|gA0<|gA7 e3<|Pen.n hp1<|gA1<| ?_;refine(iQ1 k1.wf hp1 (il2 jb rfl)).imp λu S2 h=> ?_;obtain⟨⟨j2,hp2,a2,b2⟩,k2,v,hv,fz⟩:=h;have hr2:=k2.one n1.symm hr1;have hq2:=k2.one n2.symm hq1;refine gA1<|gI4 rfl<|gI4 rfl<|gI4 rfl<|gD1<| ?_;refine(fz _).imp λy S3 h=> ?_;obtain⟨rfl,kf⟩:=h;refine e02 (hR3 k2.le k2.wf kf) λw3 kf=> ?_;have lr:=Wf.lt k1.wf hr1;have lq:=Wf.lt k1.wf hq1;have hr3:=kf _ _ lr hr2;have hq3:=kf _ _ lq hq2;have hp3:Pen S3 p j2:=by refine e21 hp2 λcs c h=> ?_;exact⟨cs,c,kf _ _ lp h⟩
  clear hr2 hq2 hp2 kf;refine gC6<|gA1<| ?_;have sm:small (rs.map Row.V).length=true:=by rw[List.length_map];exact dT (nl3 rl rfl)
  refine hA0 hr3 sm rfl ?_;have hr4:(S3.upd kr (.lst (rs.map Row.V++ [Row.V ⟨false,0,0,y⟩]))).h kr=_:=gC9;have hq4:=gB9 (o:= .lst (rs.map Row.V++ [Row.V ⟨false,0,0,y⟩])) n3.symm hq3;have hp4:Pen (S3.upd kr (.lst (rs.map Row.V++ [Row.V ⟨false,0,0,y⟩]))) p j2:=by refine e21 hp3 λcs c h=> ?_;exact⟨cs,c,gB9 n1 h⟩
  have w4:Wf (S3.upd kr (.lst (rs.map Row.V++ [Row.V ⟨false,0,0,y⟩]))):=Wf.upd w3 hr3;show X (exB prog _ _ _ (S3.upd kr (.lst (rs.map Row.V++ [Row.V ⟨false,0,0,y⟩])))) _;generalize S3.upd kr (.lst (rs.map Row.V++ [Row.V ⟨false,0,0,y⟩]))=S4 at hr4 hq4 hp4 w4;clear hr3 hq3 hp3;refine hI8<|gC3<|gR7 e5 hq4<|And.intro (gR1 hq4)<|gA0<|gI6<|gA2<|gA3<|gA0<|gE6<|gE6<|gR7 e4 hr4<|gA2<| ?_;refine Op.e (gO3 hr4 hT8) ?_;refine m_v rfl<|gA2<| .i<| ?_;refine m_v (gO1 (mb hv)) ?_;refine gA1<| ?_;refine kO4 (mb hv) w4 λS5 k5=> ?_;have hr5:=k5.z hr4;have hq5:=k5.z hq4;have hp5:=hp4.kp k5;clear hr4 hq4 hp4 w4;have ol:=(gU5 (mb hv)).2.2;refine Op.e (iC0 (Nat.lt_of_lt_of_le (Nat.add_lt_add_left ol _) (by decide))) ?_;refine gA1<| ?_;have sm:small (rs.map λr=>V.bytes r.part).length=true:=by rw[List.length_map];exact dT (nl3 rl rfl)
  refine hA0 hq5 sm rfl (gB0 (Nx.nx (gB0 ⟨rfl,⟨false,0,0,y⟩,?_⟩)));refine Rws.fin e3 e4 e5 (j:=j2) ?_ ⟨Int.le_trans jc.1 a2,by lia⟩ (gB9 n3 hr5) gC9 (Wf.upd k5.wf hq5) ok ⟨nofun,λδ=>⟨rfl,rfl,hv⟩⟩ ln;refine e21 hp5 λcs c h=> ?_;exact⟨cs,c,gB9 n2 h⟩
 ·refine hZ4<|gA0<|gA3<|gA0<|gA7 e3<|Pen.n hp1<|gA0<|gA2<|gA1<| ?_;refine(gR3 k1.wf hp1 (il2 jb rfl) (by decide)).imp λu S2 h=> ?_;obtain⟨a,rfl,ha,hp2,k2⟩:=h;have hr2:=k2.one n1.symm hr1;have hq2:=k2.one n2.symm hq1;clear hr1 hq1 hp1;refine gA0<|gG3<|gA0<|gC7<|gA3<|gA0<|gA7 e3<|Pen.n hp2<|gA0<|gA2<|gA1<| ?_;refine(gR3 k2.wf hp2 (il2 jc rfl) (by decide)).imp λu S3 h=> ?_;obtain⟨b,rfl,hb,hp3,k3⟩:=h;have hr3:=k3.one n1.symm hr2;have hq3:=k3.one n2.symm hq2;clear hr2 hq2 hp2;refine gA2<| .i<|gA1<|cb rfl<|gA1<|And.intro rfl<|hI8<|gC3<|gR7 e4 hr3<|And.intro (gR1 hr3)<|gA0<|gJ7<|gA0<|gA2<|gN0 rfl rfl<|gN0 rfl rfl<|gA0<|gA3<|gA0<|gA7 e3<|Pen.n hp3<|gA1<| ?_;have hg:(if(b==4)=true then(1:Int)else 0)=0\/(if(b==4)=true then(1:Int)else 0)=1:=by by_cases q:(b==4)=true<;>simp[q]
  generalize (if(b==4)=true then(1:Int)else 0)=g at hg⊢;have e7:(m.sets [7,8] [.int a,.int g]) 7=some (.int a):=rfl;have e8:(m.sets [7,8] [.int a,.int g]) 8=some (.int g):=rfl;have e3:(m.sets [7,8] [.int a,.int g]) 3=some (.loc p):=e3;have e4:(m.sets [7,8] [.int a,.int g]) 4=some (.loc kr):=e4;have e5:(m.sets [7,8] [.int a,.int g]) 5=some (.loc kq):=e5;generalize m.sets [7,8] [.int a,.int g]=m at e3 e4 e5 e7 e8⊢;have lr:=Wf.lt k3.wf hr3;have lq:=Wf.lt k3.wf hq3;have lp:p<S3.n:=Nat.lt_of_lt_of_le (Nat.lt_of_lt_of_le lp k2.le) k3.le;refine(jU5 k3.wf hp3 (il2 jd rfl)).imp λu S4 h=> ?_;obtain⟨⟨j4,hp4,a4,b4⟩,k4,v,hv,fz⟩:=h;have hr4:=k4.one n1.symm hr3;have hq4:=k4.one n2.symm hq3;clear hr3 hq3 hp3;refine gA1<|gI4 rfl<|gI4 rfl<|gI4 rfl<|gD1<| ?_;refine(fz _).imp λy S5 h=> ?_;obtain⟨rfl,kf⟩:=h;refine e02 (hR3 k4.le k4.wf kf) λw5 kf=> ?_;have hr5:=kf _ _ lr hr4;have hq5:=kf _ _ lq hq4;have hp5:Pen S5 p j4:=by refine e21 hp4 λcs c h=> ?_;exact⟨cs,c,kf _ _ lp h⟩
  clear hr4 hq4 hp4 kf;refine gC6<|gA1<| ?_;have sm:small (rs.map Row.V).length=true:=by rw[List.length_map];exact dT (nl3 rl rfl)
  refine hA0 hr5 sm rfl ?_;have hr6:(S5.upd kr (.lst (rs.map Row.V++ [Row.V ⟨true,a,g,y⟩]))).h kr=_:=gC9;have hq6:=gB9 (o:= .lst (rs.map Row.V++ [Row.V ⟨true,a,g,y⟩])) n3.symm hq5;have hp6:Pen (S5.upd kr (.lst (rs.map Row.V++ [Row.V ⟨true,a,g,y⟩]))) p j4:=by refine e21 hp5 λcs c h=> ?_;exact⟨cs,c,gB9 n1 h⟩
  have w6:Wf (S5.upd kr (.lst (rs.map Row.V++ [Row.V ⟨true,a,g,y⟩]))):=Wf.upd w5 hr5;show X (exB prog _ _ _ (S5.upd kr (.lst (rs.map Row.V++ [Row.V ⟨true,a,g,y⟩])))) _;generalize S5.upd kr (.lst (rs.map Row.V++ [Row.V ⟨true,a,g,y⟩]))=S6 at hr6 hq6 hp6 w6;clear hr5 hq5 hp5 w5;refine hI8<|gC3<|gR7 e5 hq6<|And.intro (gR1 hq6)<|gA0<|gI6<|gI6<|gI6<| ?_;refine gI6 (gI6 (jX6 e7 (by lia) (gA2 (.e (iC0 (show 1+1<1000000 by decide)) (jX6 e8 (by lia) (.e (iC0 (show 2+1<1000000 by decide)) (gA2 (.e (iC0 (show 3+5<1000000 by decide)) ?_))))))));refine gA3<|gA0<|gE6<|gE6<|gR7 e4 hr6<|gA2<| ?_;refine Op.e (gO3 hr6 hT8) ?_;refine m_v rfl<|gA2<| .i<| ?_;refine m_v (gO1 (ma hv)) ?_;refine gA1<| ?_;refine kO4 (ma hv) w6 λS7 k7=> ?_;have hr7:=k7.z hr6;have hq7:=k7.z hq6;have hp7:=hp6.kp k7;clear hr6 hq6 hp6 w6;have ol:=(gU5 (ma hv)).2.2;refine Op.e (iC0 (show 8+(gI5 y).length<1000000 from kQ4 ol rfl)) ?_;refine gA2<| ?_;refine Op.e (iC0 ?_) ?_
  ·rw[List.length_append];exact lK4 (c:=8) (b:=7) ol rfl
  refine gA1<| ?_;have sm:small (rs.map λr=>V.bytes r.part).length=true:=by rw[List.length_map];exact dT (nl3 rl rfl)
  refine hA0 hq7 sm rfl (gB0 (Nx.nx (gB0 ⟨rfl,⟨true,a,g,y⟩,?_⟩)));refine Rws.fin e3 e4 e5 (j:=j4) ?_ (by lia) (gB9 n3 hr7) gC9 (Wf.upd k7.wf hq7) ok ⟨λδ=>⟨by show a=0\/a=1\/a=2\/a=3;lia,hg,hv⟩,nofun⟩ ln;refine e21 hp7 λcs c h=> ?_;exact⟨cs,c,gB9 n2 h⟩
theorem jH9{f p kr kq:Nat}{t:Tg}{it:It}{b:List MS}(hb:fn0.body[3]?=some (.fr t it b))(n1:p≠kr)(n2:p≠kq)(n3:kr≠kq):∀(l:List V){n:Nat}{rs:List Row}{m:Lo}{S:St},n+l.length<100->Rws p kr kq n rs m S->
  X (exF prog (f+120+l.length) (.one 6) l b m S) λfl m' S'=>fl= .nx/\∃rs',Rws p kr kq (n+l.length) rs' m' S'
 | [],n,rs,m,S,_,I=>iZ1 (f:=f+119) ⟨rfl,rs,I⟩
 |v::l,n,rs,m,S,h,I=>by
  have h:n+(l.length+1)<100:=h;have I':Rws p kr kq n rs (m.set 6 v) S:=⟨I.mp,I.mr,I.mq,I.pen,I.hr,I.hq,I.wf,I.ok,I.len⟩
  refine hE2 (f:=f+120+l.length) rfl ?_;have T:=kN9 (f:=f+l.length) hb I' (by(exact nl3 (nl9 h) rfl)) n1 n2 n3;rw[show f+l.length+120=f+120+l.length from Nat.add_right_comm ..]at T;refine T.imp λfl m' S' q=> ?_;obtain⟨rfl,r,J⟩:=q;refine(jH9 hb n1 n2 n3 l (by(exact nl3 (nl5 h) rfl)) J).imp λfl m' S' q=> ?_;have e:n+(v::l).length=n+1+l.length:=(Nat.add_right_comm n 1 l.length).symm;rw[e];exact q
theorem iV2{r:Int}(h:0<=r/\r<5):∃l,hC7 [.int (1+r)]=some l/\l.length<=5:=by
 have:r=0\/r=1\/r=2\/r=3\/r=4:=by lia
 rcases this with rfl|rfl|rfl|rfl|rfl<;>exact⟨_,rfl,by decide⟩
theorem iU3{l:List Int}{v:V}(h:l.length<1000):∃s,kB0 ((l.map (·.fmod 1000003)).map .int)=some (.int s):=by
 have e:∀l:List Int,gQ3 (l.map .int)=some l:=λl=>by
  induction l with
  |nil=>rfl
  |cons i l ih=>exact show(iOf (.int i)).bind (λi=>(hO3 iOf (l.map .int)).bind λq=>some (i::q))=_ from bk rfl (bk ih rfl)
 refine⟨_,bk (e _) (ik ?_ rfl)⟩;rw[List.length_map,Bool.and_eq_true];refine⟨dT (by(exact Nat.le_trans h (Nat.le_add_left 1000 999000))),List.all_eq_true.mpr λi hi=> ?_⟩;obtain⟨j,_,rfl⟩:=List.mem_map.mp hi;have a:=Int.fmod_nonneg_of_pos j (b:=1000003) (by decide);have b:=Int.fmod_lt_of_pos j (b:=1000003) (by decide);exact dT (by show(j.fmod 1000003).natAbs<_;lia)
theorem kN4{S:St}{Q:QP}{k:Nat}{l:List V}{u:V}(e:S.h k=some (.lst l))(a:kB0 l=some u)(h:Q u S):W (callB S .sum [.loc k]) Q:=⟨_,_,show((gD4 S (.loc k)).bind λl=>(kB0 l).bind λu=>some (u,S))=_ from bk (gV5 e) (bk a rfl),h⟩
noncomputable def lG6:List MS:=fn0.body.drop 4
theorem kO6{f:Nat}{l:List Int}(hl:l.length<=63)(h:∀ {f p kr kq n:Nat}{rs:List Row}{m:Lo}{S:St},Rws p kr kq n rs m S->n<=5->kr≠kq->X (exB prog (f+500) lG6 m S) λfl δ δ=>fl= .rt (.bool true)):
  W (gA4 prog 600 0 [.lst (l.map .int)] ⟨λδ=>none,0⟩) λv δ=>v= .bool true:=by
 refine gB8 (vs:=[.lst (l.map .int)]) rfl rfl ?_;refine gC0<|gE8<|iC5<|kS8<|gF1 rfl rfl<|gA2<|gA2<| ?_;refine⟨_,_,rfl,?_⟩;have w0:Wf ⟨λδ=>none,0⟩:=λδ δ=>rfl;refine iK6 gA6 ?_;show W (gD8 prog _ _ _ _ ((l.map V.int).take 60) _ ([].map .int) ((St.new ⟨λδ=>none,0⟩ (.lst ((l.map V.int).take 60))).upd 0 (.frz (.lst ((l.map V.int).take 60))))) _;have w1:Wf ((St.new ⟨λδ=>none,0⟩ (.lst ((l.map V.int).take 60))).upd 0 (.frz (.lst ((l.map V.int).take 60)))):=(Wf.new w0).upd gA6;generalize (St.new ⟨λδ=>none,0⟩ (.lst ((l.map V.int).take 60))).upd 0 (.frz (.lst ((l.map V.int).take 60)))=S1 at w1;rw[←List.map_take];have lt:(l.take 60).length<=60:=List.length_take_le ..;have C:=iQ4 (f:=576-(l.take 60).length) (m:=(Lo.sets (λδ=>none) [0] [.lst (l.map .int)]).del [2]) (S:=S1) (l.take 60) [] (by show 0+_<1000;(exact hO6 (nl2 lt rfl)));rw[show 576-(l.take 60).length+(l.take 60).length+20=596 from lF8 lt rfl]at C;refine C.imp λz S q=> ?_;obtain⟨rfl,rfl⟩:=q;rw[List.nil_append];have hs:=iU3 (v:= .none) (l:=l.take 60) (by(exact Nat.lt_of_le_of_lt lt (Nat.le_add_left (Nat.succ 60) 939)));generalize (l.take 60).map (λx:Int=>x.fmod 1000003)=cs at hs⊢;refine e11 hs λs hs=> ?_;have h2:(S.new (.lst (cs.map .int))).h S.n=_:=gA6;have w2:Wf (S.new (.lst (cs.map .int))):= .new w1;show X _ _;generalize S.new (.lst (cs.map .int))=S2 at h2 w2⊢;generalize S.n=k1 at h2⊢;refine gC0<|iT3<|gA0<|gR7 rfl h2<|gA0<|gA2<|gA0<|gI6<|gG3<|gA0<|gR7 rfl h2<|gA1<| ?_;refine kN4 h2 hs ?_;refine gA2<| .i<|gA1<|gD1<|jI5 h2<|gI4 rfl<|gI4 rfl<|gC6<|hZ4<|gA0<|iT3<|gA1<|gC6<|gA0<|iT3<|gA1<|gC6<|gA1<|And.intro rfl<|hS4<|hR1<|gA0<|gI6<|gA2<|gA3<|gA0<|gA7 rfl<| ?_;have w3:Wf (((S2.upd k1 (.frz (.lst (cs.map .int)))).new (.lst [.lst (cs.map .int),.int 0,.int (s.fmod 997)]))):=(Wf.upd w2 h2).new;have h3:((S2.upd k1 (.frz (.lst (cs.map .int)))).new (.lst [.lst (cs.map .int),.int 0,.int (s.fmod 997)])).h S2.n=_:=gA6;have h5:=gH3 (o:= .lst []) w3.new (gH3 (o:= .lst []) w3 h3);have hr5:=gH3 (o:= .lst []) w3.new (gA6 (S:=(S2.upd k1 (.frz (.lst (cs.map .int)))).new (.lst [.lst (cs.map .int),.int 0,.int (s.fmod 997)])) (o:= .lst []));have hq5:=gA6 (S:=((S2.upd k1 (.frz (.lst (cs.map .int)))).new (.lst [.lst (cs.map .int),.int 0,.int (s.fmod 997)])).new (.lst [])) (o:= .lst []);have w5:=(Wf.new (o:= .lst []) w3).new (o:= .lst [])
 show Nm (((S2.upd k1 (.frz (.lst (cs.map .int)))).new (.lst [.lst (cs.map .int),.int 0,.int (s.fmod 997)])|>.new (.lst [])).new (.lst [])) (.loc S2.n) λx S=>
  W (gG4 prog 589 [.lit (.int 5)] ((((Lo.sets (λδ=>none) [0] [.lst (l.map .int)]).set 1 (.loc k1)).set 3 (.loc S2.n)).sets [4,5] [.loc (S2.n+1),.loc (S2.n+2)]) S) _
 generalize (((S2.upd k1 (.frz (.lst (cs.map .int)))).new (.lst [.lst (cs.map .int),.int 0,.int (s.fmod 997)])).new (.lst [])).new (.lst [])=S5 at h5 hr5 hq5 w5⊢;have hp5:Pen S5 S2.n 0:=⟨_,_,h5⟩
 have hr5:S5.h (S2.n+1)=some (.lst []):=hr5;have hq5:S5.h (S2.n+2)=some (.lst []):=hq5;have n1:S2.n≠S2.n+1:=by(exact Nat.ne_of_lt (Nat.le_refl S2.n.succ))
 have n2:S2.n≠S2.n+2:=by(exact Nat.ne_of_lt (Nat.le_of_lt (Nat.le_refl S2.n.succ.succ)))
 have n3:S2.n+1≠S2.n+2:=by(exact Nat.ne_of_lt (Nat.le_refl (S2.n+1).succ))
 refine gY8 h5<|gA0<|gA2<|gA1<| ?_;refine(gR3 w5 hp5 (by decide) (by decide)).imp λu S6 q=> ?_;obtain⟨r,rfl,hr,hp6,k6⟩:=q;have hr6:=k6.one n1.symm hr5;have hq6:=k6.one n2.symm hq5;refine .i<|gA1<| ?_;refine e12 (iV2 hr) λli el ll=> ?_;refine Op.e el ?_;have I:Rws S2.n (S2.n+1) (S2.n+2) 0 [] ((((Lo.sets (λδ=>none) [0] [.lst (l.map .int)]).set 1 (.loc k1)).set 3 (.loc S2.n)).sets [4,5] [.loc (S2.n+1),.loc (S2.n+2)]) S6:=⟨rfl,rfl,rfl,⟨_,hp6,by decide,by decide⟩,hr6,hq6,k6.wf,gC4,rfl⟩
 have C:=jH9 (f:=474-li.length) (hb:=rfl) n1 n2 n3 li (by(exact hO6 (nl2 ll rfl))) I;rw[show 474-li.length+120+li.length=594 from lL1 ll rfl]at C;refine C.imp λfl m' S' q=> ?_;obtain⟨rfl,rs,J⟩:=q;refine Nx.nx ?_;have e:0+li.length<=5:=Nat.le_trans (Nat.le_of_eq (Nat.zero_add _)) ll;exact(h (f:=95) J e n3).imp λfl m S e=>by rw[e];exact .i rfl
section
variable{α:Type}{K:Nat}{enc:α->V}
structure EQ(e:V)(J:St->Prop)(x:V)(S:St):Prop where
 a:x=e
 b:kOf x=none
 c:J S
structure TQ(f:Nat)(elt:ME)(mA:Lo)(u:Bool)(e:V)(J:St->Prop)(b:Bool)(S':St):Prop where
 h1:b=u
 h2:b=false->J S'
 h3:b=true->W (evE prog f elt mA S') (EQ e J)
theorem gE3{elt:ME}{g:Gn}{m:Lo}{u:α->Bool}{e:α->V}{J:St->Prop}:∀(l:List α) (acc:List V){S:St},acc.length+l.length<1000->
  (∀a,a∈l->∀f S,J S->∃mA,g.tg.put (enc a) m=some mA/\W (gC8 prog (f+K) g.ifs mA S) (TQ (f+K) elt mA (u a) (e a) J))->
  J S->∀F,l.length+K<F->W (gD8 prog F elt g [] (l.map enc) m acc S) λz S'=>z=acc++(l.filter u).map e/\J S'
 |_,_,_,_,_,_,0,lt=>absurd lt (Nat.not_lt_zero _)
 | [],acc,S,_,_,j,F+1,_=>jO6 ⟨(List.append_nil _).symm,j⟩
 |a::l,acc,S,h,st,j,F+1,lt=>by
  have h:acc.length+(l.length+1)<1000:=h;have lt:l.length+1+K<F+1:=lt;refine e12 (st a (mS) (F-K) S j) λmA e1 T=> ?_;rw[show F-K+K=F from kQ5 lt]at T;refine jE1 e1 (T.imp λb S' q=> ?_);obtain⟨rfl,q0,q1⟩:=q;refine⟨λhu=>(q1 hu).imp λx S'' q=> ?_,λhu=> ?_⟩
  ·obtain⟨rfl,kn,j'⟩:=q;refine z_v kn ⟨dT (by(exact nl3 (nl9 h) rfl)),?_⟩;refine(gE3 l _ (by rw[List.length_append];show acc.length+1+l.length<1000;(exact nl3 (nl5 h) rfl)) (λa h=>st a (mO _ h)) j' F (jN4 lt)).imp λz S3 q=>⟨?_,q.2⟩
   rw[q.1,List.filter_cons,if_pos hu,List.append_assoc];rfl
  ·refine(gE3 l _ (by(exact hD4 (Nat.le_of_lt h) rfl)) (λa h=>st a (mO _ h)) (q0 hu) F (jN4 lt)).imp λz S3 q=>⟨?_,q.2⟩
   rw[q.1,List.filter_cons,if_neg (by rw[hu];nofun)]
theorem gS3{full pre post:List α}{a:α}(h:full=pre++a::post):a∈full:=by rw[h];exact List.mem_append_right _ (mS)
theorem gS4{full pre post:List α}{a:α}(h:full=pre++a::post):pre.length<full.length:=by rw[h,List.length_append];show _<_+(_+1);(exact Nat.succ_le_succ (Nat.le_add_right pre.length post.length))
theorem gL6{t:Tg}{b:List MS}{full:List α}{I:List α->Lo->St->Prop}
  (st:∀pre a post,full=pre++a::post->∀f m S,I pre m S->∃mA,t.put (enc a) m=some mA/\X (exB prog (f+K) b mA S) λfl m' S'=>fl= .nx/\I (pre++ [a]) m' S'):∀(l pre:List α){m:Lo}{S:St},
  full=pre++l->I pre m S->∀F,l.length+K<F->X (exF prog F t (l.map enc) b m S) λfl m' S'=>fl= .nx/\I full m' S'
 |_,_,_,_,_,_,0,lt=>absurd lt (Nat.not_lt_zero _)
 | [],pre,m,S,e,j,F+1,_=>iZ1 ⟨rfl,by rw[e,List.append_nil];exact j⟩
 |a::l,pre,m,S,e,j,F+1,lt=>by have lt:l.length+1+K<F+1:=lt;refine e12 (st pre a l e (F-K) m S j) λmA e1 T=> ?_;rw[show F-K+K=F from kQ5 lt]at T;refine hE2 e1 (T.imp λfl m' S' q=> ?_);obtain⟨rfl,q⟩:=q;exact gL6 st l (pre++ [a]) (by rw[e,List.append_assoc];rfl) q F (jN4 lt)
end
section
variable{κ β:Type}[DecidableEq κ]
noncomputable def gJ6(n:κ)(x:β):List (κ×β)->List (κ×β)
 | []=> [(n,x)]
 |y::r=>if n=y.1 then(y.1,x)::r else y::gJ6 n x r
noncomputable def gC2(n:κ):List (κ×β)->Option β
 | []=>none
 |y::r=>if n=y.1 then some y.2 else gC2 n r
variable{ek:κ->V}{eb:β->V}
theorem hY3(hk:∀a b,gB1 (ek a) (ek b)=decide (a=b)){n:κ}{x:β}:∀ {d:List (κ×β)},gJ5 (ek n) (eb x) (d.map λy=>ek y.1) (d.map λy=>eb y.2)=((gJ6 n x d).map λy=>ek y.1,(gJ6 n x d).map λy=>eb y.2)
 | []=>rfl
 |y::r=>by
  show(if gB1 (ek n) (ek y.1)=true then _ else(_,_))=((if n=y.1 then _ else _:List (κ×β)).map _,(if n=y.1 then _ else _:List (κ×β)).map _);rw[hk,hY3 hk]
  by_cases q:n=y.1
  ·rw[if_pos (dT q),if_pos q];rfl
  ·rw[if_neg (by rw[decide_eq_false q];nofun),if_neg q];rfl
theorem gN6(hk:∀a b,gB1 (ek a) (ek b)=decide (a=b)){n:κ}:∀ {d:List (κ×β)},gK2 (ek n) (d.map λy=>ek y.1) (d.map λy=>eb y.2)=(gC2 n d).map eb
 | []=>rfl
 |y::r=>by
  show(if gB1 (ek n) (ek y.1)=true then _ else _)=(if n=y.1 then _ else _:Option β).map _;rw[hk,gN6 hk]
  by_cases q:n=y.1
  ·rw[if_pos (dT q),if_pos q];rfl
  ·rw[if_neg (by rw[decide_eq_false q];nofun),if_neg q]
end
theorem iE1(a b:Int):gB1 (.int a) (.int b)=decide (a=b):=by
 show((some b:Option Int)==some a)=_
 by_cases q:a=b
 ·subst q;simp
 ·simp[q,Ne.symm q]
theorem kR0(a b:List Nat):gB1 (.str a) (.str b)=decide (a=b):=by
 show((some b:Option (List Nat))==some a)=_
 by_cases q:a=b
 ·subst q;simp
 ·simp[q,Ne.symm q]
theorem gY9{β:Type}{n:Int}{d:List (Int×β)}:gA8 (.int n) (d.map λy=> .int y.1)=true:=List.all_eq_true.mpr λv h=>by obtain⟨y,_,rfl⟩:=List.mem_map.mp h;rfl
theorem iX3{β:Type}{n:List Nat}{d:List (List Nat×β)}:gA8 (.str n) (d.map λy=> .str y.1)=true:=List.all_eq_true.mpr λv h=>by obtain⟨y,_,rfl⟩:=List.mem_map.mp h;rfl
structure LR where
 r:Row
 b:Int
 e:Int
noncomputable def pcV(x:LR):V:= .ob 3 [7,8,38,56,15] [.int x.r.n,.int x.r.g,.int x.b,.int x.e,x.r.v]
noncomputable def trV(x:LR):V:= .tup [.int x.b,x.r.v]
noncomputable def pcs(L:List LR):List V:=(L.filter (·.r.o)).map pcV
noncomputable def trs(L:List LR):List V:=(L.filter (!·.r.o)).map trV
noncomputable def gL2:Nat->List Row->List LR
 |_,[]=> []
 |i,r::rs=>⟨r,i,i+1⟩::gL2 (i+1) rs
noncomputable def enV(x:LR):V:= .tup [.int x.b,x.r.V]
theorem gW2:∀(i:Nat) (rs:List Row),hB6 i (rs.map Row.V)=(gL2 i rs).map enV
 |_,[]=>rfl
 |i,r::rs=>congrArg (_:: ·) (gW2 (i+1) rs)
theorem hF7:∀(i:Nat) (rs:List Row),(gL2 i rs).length=rs.length
 |_,[]=>rfl
 |i,r::rs=>congrArg (· +1) (hF7 (i+1) rs)
theorem iI2:∀(i:Nat) (rs:List Row) (x:LR),x∈gL2 i rs->x.e=x.b+1/\x.r∈rs
 |_,[],_,h=>gQ0 h
 |i,r::rs,x,h=>(mC h).elim (λe=>e▸⟨rfl,mS⟩) λh=>⟨(iI2 _ rs x h).1,mO _ (iI2 _ rs x h).2⟩
theorem kW0{L:List LR}{x:LR}(h:x.r.o=true):pcs (L++ [x])=pcs L++ [pcV x]/\trs (L++ [x])=trs L:=by unfold pcs trs;rw[List.filter_append,List.filter_append,List.map_append,List.map_append];simp[List.filter,h]
theorem kW1{L:List LR}{x:LR}(h:x.r.o=false):pcs (L++ [x])=pcs L/\trs (L++ [x])=trs L++ [trV x]:=by unfold pcs trs;rw[List.filter_append,List.filter_append,List.map_append,List.map_append];simp[List.filter,h]
theorem iH9(L:List LR):(pcs L).length<=L.length:=by unfold pcs;rw[List.length_map];exact List.length_filter_le ..
theorem iE8(L:List LR):(trs L).length<=L.length:=by unfold trs;rw[List.length_map];exact List.length_filter_le ..
theorem iP1{S:St}{k:Nat}{l:List V}{v:V}{Q:QP}(z:W (frz 9 v S) λy S1=>S1.h k=some (.lst l)/\small l.length=true/\Q .none (S1.upd k (.lst (l++ [y])))):W (callBM S .append (.loc k) [v]) Q:=
 show W ((frz 9 v S).bind λp=>(gV3 p.2 k).bind λl=>if small l.length then some (V.none,p.2.upd k (.lst (l++ [p.1])))else none) Q from
 Wb (z.imp λy S1 h=>Wo (o:=gV3 S1 k) (bk h.1 rfl) (Wi h.2.1 (Ws h.2.2)))
structure Wk(w lp lt:Nat)(L:List LR)(Sz S:St):Prop where
 hw:S.h w=some (.ins 5 [11,17] [.loc lp,.loc lt])
 hp:S.h lp=some (.lst (pcs L))
 ht:S.h lt=some (.lst (trs L))
 kp:Kp [] Sz S
 lw:Sz.n<=w/\Sz.n<=lp/\Sz.n<=lt/\w≠lp/\w≠lt/\lp≠lt
theorem Wk.put_p{w lp lt:Nat}{L:List LR}{Sz S:St}{x:LR}(I:Wk w lp lt L Sz S)(w0:Wf Sz)(h:x.r.o=true):Wk w lp lt (L++ [x]) Sz (S.upd lp (.lst (pcs L++ [pcV x]))):=by obtain⟨e1,e2,e3,kp,l1,l2,l3,n1,n2,n3⟩:=I;obtain⟨a,b⟩:=kW0 (L:=L) h;exact⟨gB9 n1 e1,a.symm▸gC9,b.symm▸gB9 n3.symm e3,kp.up w0 l2 e2,l1,l2,l3,n1,n2,n3⟩
theorem Wk.put_t{w lp lt:Nat}{L:List LR}{Sz S:St}{x:LR}(I:Wk w lp lt L Sz S)(w0:Wf Sz)(h:x.r.o=false):Wk w lp lt (L++ [x]) Sz (S.upd lt (.lst (trs L++ [trV x]))):=by obtain⟨e1,e2,e3,kp,l1,l2,l3,n1,n2,n3⟩:=I;obtain⟨a,b⟩:=kW1 (L:=L) h;exact⟨gB9 n2 e1,a.symm▸gB9 n3 e2,b.symm▸gC9,kp.up w0 l3 e3,l1,l2,l3,n1,n2,n3⟩
theorem Wk.keep{w lp lt:Nat}{L:List LR}{Sz S S':St}(I:Wk w lp lt L Sz S)(k:Kp [] S S'):Wk w lp lt L Sz S':=⟨k.z I.hw,k.z I.hp,k.z I.ht,I.kp.trans k,I.lw⟩
theorem Kp.updu{S R:St}{k:Nat}{o o':O}(a:Kp [] S R)(e:R.h k=some o'):Kp [] (S.upd k o) (R.upd k o):=⟨a.le,Wf.upd a.wf e,λj x h δ=>by
 by_cases q:j=k
 ·rw[q]at h⊢;exact(show(S.upd k o).h k=some o from gC9).symm.trans h▸gC9
 ·exact gB9 q (a.z ((if_neg q).symm.trans h))⟩
theorem Row.ok.kv{r:Row}(h:r.ok):kOf r.v=none:=by
 cases e:r.o with
 |true=>exact gO1 (ma (h.obj e).2.2)
 |false=>exact gO1 (mb (h.tra e).2.2)
theorem iE3{x:LR}{f k:Nat}{S:St}{Q:QP}(hv:kOf x.r.v=none)(e:S.h k=some (.ins 3 [7,8,38,56,15] [.int x.r.n,.int x.r.g,.int x.b,.int x.e,x.r.v]))(h:Q (pcV x) (S.upd k (.frz (pcV x)))):W (frz (f+8) (.loc k) S) Q:=by
 have ob:iI5 S (3,[7,8,38,56,15],[.int x.r.n,.int x.r.g,.int x.b,.int x.e,x.r.v])=pcV x:=by show V.ob 3 _ [_,_,_,_,norm S x.r.v]=_;rw[n_v hv];rfl
 refine iE2 e rfl (gD1 (z_v rfl (gD1 (z_v rfl (gD1 (z_v rfl (gD1 (z_v rfl (gD1 (z_v hv (gC6 (.e (gG7 e) ?_))))))))))))
 delta lG7;rw[ob];exact h
theorem iT2(r:Row):(r.w==jI7)=r.o:=by unfold Row.w;cases r.o<;>rfl
theorem kS7(r:Row):(r.w==jC6)= !r.o:=by unfold Row.w;cases r.o<;>rfl
theorem kN8{f kr:Nat}{rs:List Row}{S:St}(w:Wf S)(hr:S.h kr=some (.lst (rs.map Row.V)))(ok:∀r,r∈rs->r.ok)(hl:rs.length<=5):
  W (gA4 prog (f+90) 7 [.loc kr] S) λu S'=>∃w lp lt S1,u= .loc w/\Kp [kr] S S1/\S1.h kr=some (.frz (.lst (rs.map Row.V)))/\Wk w lp lt (gL2 0 rs) S1 S':=by
 refine gB8 (vs:=[.loc kr]) rfl rfl ?_;refine gC0 (tE (D:=D0) (os:=[]) (F:=40) (v:= .loc 0) (os':=[some (.ins 5 [11,17] [.loc 1,.loc 2]),some (.lst []),some (.lst [])]) (pl:= .z) (m:=λδ=>none) w trivial LoR.z (by kernel_rfl) λR1 r1 q1=> ?_);have hw:R1.h S.n=some (.ins 5 [11,17] [.loc (S.n+1),.loc (S.n+2)]):=r1 0 _ rfl;have hp:R1.h (S.n+1)=some (.lst []):=r1 1 _ rfl;have ht:R1.h (S.n+2)=some (.lst []):=r1 2 _ rfl;have hr1:=q1.z hr;have lr:=Wf.lt w hr;refine hS4 (iL9 (gA7 rfl (gY8 hr1 (jI5 hr1 (.i ?_)))))
 delta kR1;rw[gW2]
 have w0:Wf (S.upd kr (.frz (.lst (rs.map Row.V)))):=Wf.upd w hr;have I0:Wk S.n (S.n+1) (S.n+2) [] (S.upd kr (.frz (.lst (rs.map Row.V)))) (R1.upd kr (.frz (.lst (rs.map Row.V)))):=⟨gB9 (by(exact Nat.ne_of_gt lr)) hw,gB9 (Nat.ne_of_gt (Nat.lt_succ_of_lt lr)) hp,gB9 (Nat.ne_of_gt (Nat.lt_succ_of_lt (Nat.lt_succ_of_lt lr))) ht,q1.updu hr1,Nat.le_refl _,Nat.le_succ _,Nat.le_add_right ..,by(exact Nat.ne_of_lt (Nat.le_refl S.n.succ)),by(exact Nat.ne_of_lt (Nat.le_of_lt (Nat.le_refl S.n.succ.succ))),by(exact Nat.ne_of_lt (Nat.le_refl (S.n+1).succ))⟩
 generalize R1.upd kr (.frz (.lst (rs.map Row.V)))=R2 at I0;have fin:∀ {S':St}{u:V},u= .loc S.n->Wk S.n (S.n+1) (S.n+2) (gL2 0 rs) (S.upd kr (.frz (.lst (rs.map Row.V)))) S'->∃w lp lt S1,u= .loc w/\Kp [kr] S S1/\S1.h kr=some (.frz (.lst (rs.map Row.V)))/\Wk w lp lt (gL2 0 rs) S1 S':=λe I=>⟨_,_,_,_,e,.upd w hr,gC9,I⟩
 refine(gL6 (K:=60) (full:=gL2 0 rs) (I:=λpre m S'=>m 22=some (.loc S.n)/\Wk S.n (S.n+1) (S.n+2) pre (S.upd kr (.frz (.lst (rs.map Row.V)))) S') (λpre x post hs f m S' j=> ?_) _ [] rfl ⟨rfl,I0⟩ _ (by rw[hF7];(exact nl1 hl rfl))).imp λfl m' S' q=> ?_
 ·obtain⟨e22,I⟩:=j;refine⟨_,rfl,?_⟩;obtain⟨he,hx⟩:=iI2 0 rs x (gS3 hs);obtain⟨x,b,e⟩:=x;have he:e=b+1:=he;subst he;have ln:=gS4 hs;rw[hF7]at ln;have hv:=(ok _ hx).kv;have e1:=I.hw;have e2:=I.hp;have e3:=I.ht;have sp:small (pcs pre).length=true:=dT (nl2 (Nat.le_trans (iH9 pre) (Nat.le_trans (Nat.le_of_lt ln) hl)) rfl);have sq:small (trs pre).length=true:=dT (nl2 (Nat.le_trans (iE8 pre) (Nat.le_trans (Nat.le_of_lt ln) hl)) rfl);refine gB6<|gC7<|hA7 rfl rfl rfl<|m_v rfl<|gA2<| .i<| ?_;rw[iT2];refine If.s (λho=> ?_) λho=> ?_
  ·refine hI8<|gC3<|gV8 e22 e1 rfl<|gY8 e2<|And.intro (gR1 e2)<|gA0<|gH9 rfl<|gA0<|hA7 rfl rfl rfl<|m_v rfl<|gA0<|hA7 rfl rfl rfl<|m_v rfl<|gN0 rfl rfl<|gA0<|gI6<|gF1 rfl rfl<|gA2<| .i<|gA0<|hA7 rfl rfl rfl<|m_v hv<|gA1<| ?_;refine kk (iK3 rfl rfl rfl rfl hv) ?_;have I3:=I.keep (Kp.up (o:= .frz (pcV ⟨x,b,b+1⟩)) (Kp.nw (o:= .ins 3 [7,8,38,56,15] [.int x.n,.int x.g,.int b,.int (b+1),x.v]) (.refl I.kp.wf)) I.kp.wf (Nat.le_refl _) gA6);refine gA1<| ?_;exact iP1 (l:=pcs pre) (iE3 (x:=⟨x,b,b+1⟩) hv gA6 ⟨I3.hp,sp,gB0 (Nx.nx (gB0 ⟨rfl,e22,I3.put_p w0 ho⟩))⟩)
  ·refine hI8<|gC3<|gV8 e22 e1 rfl<|gY8 e3<|And.intro (gR1 e3)<|gA0<|gJ7<|gN0 rfl rfl<|gA0<|hA7 rfl rfl rfl<|m_v hv<|gA1<|gI4 rfl<|gD1<|z_v hv<|gC6<|gA1<| ?_;exact hA0 e3 sq rfl (gB0 (Nx.nx (gB0 ⟨rfl,e22,I.put_t w0 ho⟩)))
 ·obtain⟨rfl,e22,I⟩:=q;refine Nx.nx ?_;have e1:=I.hw;refine gF0<|gR8 e22 e1<| .i<| ?_;exact fin rfl I
noncomputable def tbF(d:List (Int×(Int×V)))(r:Row):List (Int×(Int×V)):=if r.o=true/\0<r.n then gJ6 r.n (r.g,r.v) d else d
noncomputable def tb(rs:List Row):List (Int×(Int×V)):=rs.foldl tbF []
noncomputable abbrev eT(y:Int×V):V:= .tup [.int y.1,y.2]
noncomputable def tbO(d:List (Int×(Int×V))):O:= .dct (d.map λy=> .int y.1) (d.map λy=>eT y.2)
theorem gX1:∀(L:List LR) (d:List (Int×(Int×V))),(L.map (·.r)).foldl tbF d=((L.filter (·.r.o)).map (·.r)).foldl tbF d
 | [],_=>rfl
 |x::L,d=>by
  rw[List.filter_cons]
  by_cases h:x.r.o=true
  ·rw[if_pos h];exact gX1 L _
  ·rw[if_neg h];show(L.map (·.r)).foldl tbF (tbF d x.r)=_;rw[show tbF d x.r=d from if_neg λq=>h q.1];exact gX1 L d
theorem hI1{κ β:Type}[DecidableEq κ]{n:κ}{x:β}:∀ {d:List (κ×β)},(gJ6 n x d).length<=d.length+1
 | []=>Nat.le_refl _
 |y::r=>by
  show(if n=y.1 then _ else _:List (κ×β)).length<=_
  by_cases q:n=y.1
  ·rw[if_pos q];exact Nat.le_succ _
  ·rw[if_neg q];exact Nat.succ_le_succ (hI1 (d:=r))
theorem hJ6:∀(rs:List Row) (d:List (Int×(Int×V))),(rs.foldl tbF d).length<=d.length+rs.length
 | [],_=>Nat.le_refl _
 |r::rs,d=>by
  have a:=hJ6 rs (tbF d r)
  have b:(tbF d r).length<=d.length+1:=by
   unfold tbF
   by_cases q:r.o=true/\0<r.n
   ·rw[if_pos q];exact hI1
   ·rw[if_neg q];exact Nat.le_succ _
  show(rs.foldl tbF (tbF d r)).length<=d.length+(rs.length+1)
  (exact lF9 a b)
theorem jD3{S:St}{k:Nat}{d:List (Int×(Int×V))}{n:Int}{y:Int×V}(e:S.h k=some (tbO d))(h:d.length<1000000):gO7 S k (.int n) (eT y)=some (S.upd k (tbO (gJ6 n y d))):=by have q:=gO6 (i:= .int n) (u:=eT y) e (by rw[gY9,List.length_map];exact dT h);rw[q,hY3 (ek:= .int) (eb:=eT) iE1];rfl
theorem iM2{S:St}{k:Nat}{d:List (Int×(Int×V))}{n:Int}(e:S.h k=some (tbO d)):hB1 S (.loc k) (.int n)=(gC2 n d).map eT:=by show(match gD4 S (.loc k)with|some l=>_|none=>(getD S (.loc k)).bind λp=>if gA8 (.int n) p.1 then gK2 (.int n) p.1 p.2 else none)=_;rw[gQ5 e,show gD4 S (.loc k)=none by show(S.h k).bind iW7=none;rw[e];rfl];show(if gA8 (.int n) (d.map λy=>V.int y.1)=true then _ else none)=_;rw[if_pos gY9];exact gN6 (ek:= .int) iE1
noncomputable def Its(T:List Nat)(S:St)(u:V)(l:List V):Prop:=∀S1,Kp [] S S1->norm S1 u=u/\W (gG2 S1 u) λl' S'=>l'=l/\Kp T S1 S'/\∀t,t∈T->S'.h t=some (.frz (.lst l))
theorem Its.L{S:St}{l:List V}:Its [] S (.lst l) l:=λS1 k=>⟨rfl,jW3 ⟨rfl,.refl k.wf,gC4⟩⟩
theorem Its.l{S:St}{l:List V}{k:Nat}(e:S.h k=some (.lst l)):Its [k] S (.loc k) l:=λS1 q=>⟨iW4 (q.z e),iK6 (q.z e) ⟨rfl,.upd q.wf (q.z e),λt h=>(List.mem_singleton.mp h)▸gC9⟩⟩
theorem iQ3{f:Nat}{u:V}{L:List LR}{T:List Nat}{S:St}(w:Wf S)(it:Its T S u (pcs L))(hT:∀t,t∈T->t<S.n)(ok:∀x,x∈L->x.r.ok)(hl:L.length<=5):
  W (gA4 prog (f+90) 9 [u] S) λv S'=>∃k,v= .loc k/\S.n<=k/\S'.h k=some (tbO (tb (L.map (·.r))))/\Kp T S S'/\∀t,t∈T->S'.h t=some (.frz (.lst (pcs L))):=by
 refine gB8 (vs:=[u]) rfl rfl ?_;refine gC0<|gW4<|gA1<|gC6<|And.intro rfl<| ?_;refine e02 (it (S.new (.dct [] [])) (.new w)) λnu it=> ?_;refine hS4 (hB5 (gA7 rfl ⟨u,nu,it.imp λl S1 q=> ?_⟩));obtain⟨rfl,q,qf⟩:=q;have h1:S1.h S.n=some (tbO []):=q.kp _ _ gA6 λh=>Nat.lt_irrefl _ (hT _ h);have k1:Kp T S S1:=(Kp.new w).trans q;have len:(L.filter (·.r.o)).length<=5:=Nat.le_trans (List.length_filter_le ..) hl;refine(gL6 (enc:=pcV) (K:=60) (full:=L.filter (·.r.o)) (I:=λpre m S'=>m 37=some (.loc S.n)/\S'.h S.n=some (tbO (tb (pre.map (·.r))))/\Kp [S.n] S1 S') (λpre x post hs f m S' j=> ?_) _ [] rfl ⟨rfl,h1,.refl q.wf⟩ _ (by(exact nl1 len rfl))).imp λfl m' S' q=> ?_
 ·refine e03 j λe37 hk kp=> ?_;refine⟨_,rfl,?_⟩;have hm:=List.mem_filter.mp (gS3 hs);have hv:=(ok x hm.1).kv;have ln:=gS4 hs;refine gB6<|gC7<|hB9 rfl rfl rfl rfl<|m_v rfl<|gA2<| .i<| ?_;have sn:tb ((pre++ [x]).map (·.r))=tbF (tb (pre.map (·.r))) x.r:=by unfold tb;rw[List.map_append,List.foldl_append];rfl
  have tl:=hJ6 (pre.map (·.r)) [];rw[List.length_map]at tl;have tl:(tb (pre.map (·.r))).length<=0+pre.length:=tl;rw[sn];refine If.d (λhn=> ?_) λhn=>gB0 (Nx.nx (gB0 ⟨rfl,e37,?_,kp⟩))
  ·refine gJ4<|gJ7<|gA0<|hB9 rfl rfl rfl rfl<|m_v rfl<|gA0<|hB9 rfl rfl rfl rfl<|m_v hv<|gA1<|gI4 rfl<|gD1<|z_v hv<|gC6<|hB8 e37 hk<| .i<|hB9 rfl rfl rfl rfl<|m_v rfl<|z_v rfl<| ?_;refine Op.e (jD3 (y:=(x.r.g,x.r.v)) hk (by(exact kQ6 tl (nl3 (Nat.lt_of_lt_of_le ln len) rfl)))) (gB0 (Nx.nx (gB0 ⟨rfl,e37,?_,kp.trans (.upd kp.wf hk)⟩)));rw[show tbF (tb (pre.map (·.r))) x.r=gJ6 x.r.n (x.r.g,x.r.v) (tb (pre.map (·.r)))from if_pos ⟨hm.2,hn⟩];exact gC9
  ·rw[show tbF (tb (pre.map (·.r))) x.r=tb (pre.map (·.r))from if_neg λq=>hn q.2];exact hk
 ·obtain⟨rfl,e37,hk,kp⟩:=q;refine Nx.nx ?_;refine gF0<|hB8 e37 hk<| .i<| ?_;refine⟨_,rfl,Nat.le_refl _,?_,k1.fr w (Nat.le_refl _) kp,λt h=>kp.one (Nat.ne_of_lt (hT t h)) (qf t h)⟩;rw[hk];unfold tb;rw[gX1 L]
section
variable{D:Par}{ps:List Nat}{os:List (Option O)}{R:St}
theorem tCb{f F g:Nat}{args rargs:List V}{p:V->List (Option O)->Bool}{pl:Pl ps R.n}{Q:QP}(w:Wf R)(h:Hs (pm D pl).hm R ps os)(ea:ths (pm D pl).hm args=rargs)
  (e:((gA4 (tpl (tPr D.td D.fin noO)) F g args (Sof os)).any λq=>p q.1 (iI3 q.2))=true)(k:∀v os',p v os'=true->∀R',Has (pm D pl).hm os' R'->Kp (kn ps os) R R'->Q (th (pm D pl).hm v) R'):W (gA4 prog (f+F) g rargs R) Q:=by
 refine aY e λq a b=> ?_;exact tC (os':=iI3 q.2) (v:=q.1) w h ea (by rw[a];rfl) (k _ _ b)
end
structure Sh(sh t j:Nat)(S:St):Prop where
 hs:S.h sh=some (.ins 6 [37,19] [.loc t,.loc j])
 ht:∃o,S.h t=some o/\∀v,o≠ .frz v
 hj:∃o,S.h j=some o/\∀v,o≠ .frz v
 ne:sh≠t/\sh≠j/\t≠j
theorem Sh.pl{sh t j:Nat}{S:St}(h:Sh sh t j S)(w:Wf S):Pl [sh,t,j] S.n:=by
 obtain⟨hs,⟨a,ha,_⟩,⟨b,hb,_⟩,n1,n2,n3⟩:=h;refine⟨by simp[n1,n2,n3],λx e=> ?_⟩;rcases mC e with rfl|e
 ·exact w.lt hs
 rcases mC e with rfl|e
 ·exact w.lt ha
 exact(List.mem_singleton.mp e)▸w.lt hb
noncomputable abbrev SHo:List (Option O):=[some (.ins 6 [37,19] [.loc 1,.loc 2]),none,none]
noncomputable def kR3(o:Option O):Bool:=match o with
 |some (.ins c ns vs)=>c==6&&(ns==[37,19]&&vs.map kOf==[some 1,some 2])
 |_=>false
theorem jP9{o:Option O}(h:kR3 o=true):o=some (.ins 6 [37,19] [.loc 1,.loc 2]):=by
 cases o with
 |none=>exact ff h
 |some o=>
  cases o with
  |ins c ns vs=>
   refine aN h λa h1=>aN h1 λb h2=> ?_;have a:=bE a;have b:=bE b;have h3:=bE h2;clear h h1 h2;subst a;subst b
   cases vs with
   |nil=>cases h3
   |cons x vs=>
    cases vs with
    |nil=>injection h3 with _ h;cases h
    |cons y vs=>
     cases vs with
     |nil=>
      injection h3 with h1 h2
      injection h2 with h2 _
      rw[gL5 h1,gL5 h2]
     |cons _ _=>injection h3 with _ h;injection h with _ h;cases h
  |_=>exact ff h
noncomputable def jM7(g:Nat)(args:List V)(b:Bool):Bool:=pls args&&(gA4 Tz 60 g (.loc 0::args) (Sof SHo)).any λq=>(bOf q.1==some b)&&kR3 (q.2.h 0)&&decide (1<=q.2.n)
theorem hV0{f g sh t j:Nat}{args:List V}{b:Bool}{S:St}(h:jM7 g args b=true)(s:Sh sh t j S)(w:Wf S):W (gA4 prog (f+60) g (.loc sh::args) S) λu S'=>u= .bool b/\Kp [] S S':=by
 refine aN h λpa h=> ?_;refine tCb (D:=D0) (F:=60) (args:= .loc 0::args) (pl:=s.pl w) (os:=SHo) (p:=λv os=>(bOf v==some b)&&kR3 (os[0]?).join) w ⟨s.hs,s.ht,s.hj,trivial⟩ (by show V.loc sh::ths _ args=_;rw[gD3 pa]) ?_ ?_
 ·refine aY h λq e h=> ?_;rw[show(gA4 (tpl (tPr D0.td D0.fin noO)) 60 g (.loc 0::args) (Sof SHo))=some q from e];refine aN h λh l=> ?_;have l:=oX l;show((bOf q.1==some b)&&kR3 ((iI3 q.2)[0]?).join)=true
  rw[show(iI3 q.2)[0]?=some (q.2.h 0)by
   show((List.range q.2.n).map q.2.h)[0]?=_
   rw[List.getElem?_map,List.getElem?_range (by(exact l))];rfl]
  exact h
 ·intro v os' h R' hs kp;refine aN h λa c=> ?_;have a:=gM1 (bE a);have c:=jP9 c;have c:=hs 0 _ (Option.join_eq_some_iff.mp c);subst a;refine⟨rfl,kp.le,kp.wf,λk o e δ=> ?_⟩
  by_cases q:k=sh
  ·subst q;rw[s.hs]at e;cases e;exact c
  ·exact kp.kp k o e λh=>q (List.mem_singleton.mp h)
noncomputable def kindOf(v:V):List Nat:=(sOf (iV1 5 v)).getD []
noncomputable def isX(v:V):Bool:=kindOf v==gG1
noncomputable def isO(v:V):Bool:=kindOf v==iS6
noncomputable def isC(v:V):Bool:=kindOf v==iS7
noncomputable def iL2(v:V):Bool:=(hA9 Sz v (.cls 1)).getD false
noncomputable def hW3(v:V):Bool:=(hA9 Sz v .dict).getD false
noncomputable def gG9(v:V):V:=iV1 19 v
noncomputable def okK(v:V):Bool:=ok1 5 v&&((sOf (iV1 5 v)).isSome&&((hA9 Sz v (.cls 1)).isSome&&((hA9 Sz v .dict).isSome&&(ok1 19 v&&same 60 (gG9 v) (gG9 v)))))
noncomputable def okV(v:V):Bool:=jM7 12 [v] (isX v)&&(jM7 17 [v] (isO v)&&((!hW3 v||jM7 15 [v,.str iS7] (isC v))&&((!isX v||iL2 v)&&(!isO v||iL2 v))))
theorem kT7:(vals++tras).all okK=true:=by decide+kernel
theorem kT4:vals.all okV=true:=by decide+kernel
theorem kS6{v:V}(h:v∈vals)(x:isX v=true):v=vX 1\/v=vX 2\/v=vX 3:=by
 have:∀l:List V,(l.all λv=> !isX v)=true->v∈l->False:=λl a m=>by have:=List.all_eq_true.mp a v m;rw[x]at this;exact ff this
 have e:vals=vals.take 16++ [vX 1,vX 2,vX 3]++vals.drop 19:=by kernel_rfl
 rw[e]at h;rcases List.mem_append.mp h with h|h
 ·rcases List.mem_append.mp h with h|h
  ·exact(this _ (by decide+kernel) h).elim
  ·rcases mC h with h|h
   ·exact .inl h
   rcases mC h with h|h
   ·exact .inr (.inl h)
   ·exact .inr (.inr (List.mem_singleton.mp h))
 ·exact(this _ (by decide+kernel) h).elim
structure KV(v:V):Prop where
 kind:ok1 5 v=true/\iV1 5 v= .str (kindOf v)
 s:∀S,hA9 S v (.cls 1)=some (iL2 v)
 d:∀S,hA9 S v .dict=some (hW3 v)
 told:ok1 19 v=true/\same 60 (gG9 v) (gG9 v)=true
theorem jP8{v:V}{k:Kd}(h:kOf v=none)(S:St):hA9 S v k=hA9 Sz v k:=by cases v<;>first|rfl|exact nn h.symm
theorem iG6{α:Type}{o:Option α}{d:α}(h:o.isSome=true):o=some (o.getD d):=by cases o with|none=>exact ff h|some a=>rfl
theorem kv{v:V}(h:v∈vals++tras):KV v:=aN (List.all_eq_true.mp kT7 v h) λa h1=>aN h1 λb h1=>aN h1 λc h1=>aN h1 λd e=>aN e λe e'=>
 ⟨⟨a,gK6 (iG6 b)⟩,λS=>(jP8 (gO1 h) S).trans (iG6 c),λS=>(jP8 (gO1 h) S).trans (iG6 d),e,e'⟩
theorem vv{v:V}(h:v∈vals):jM7 12 [v] (isX v)=true/\jM7 17 [v] (isO v)=true/\(hW3 v=true->jM7 15 [v,.str iS7] (isC v)=true)/\(isX v=true->iL2 v=true)/\(isO v=true->iL2 v=true):=aN (List.all_eq_true.mp kT4 v h) λa h1=>aN h1 λb h1=>aN h1 λc h1=>aN h1 λd e=>⟨a,b,λq=>by rw[q]at c;exact c,λq=>by rw[q]at d;exact d,λq=>by rw[q]at e;exact e⟩
noncomputable abbrev KL:=List (List Nat×V)
noncomputable def jO(J:KL):O:= .dct (J.map λy=> .str y.1) (J.map λy=>y.2)
noncomputable def hdV(J:KL):V:= .dct (J.map λy=> .str y.1) (J.map λy=>y.2)
structure Hd(l:KL):Prop where
 g:∀p,p∈l->gC2 p.1 l=some p.2
 k:∀p,p∈l->kOf p.2=none
 n:l.length<=5
noncomputable def nin(bad:List (List Nat))(k:List Nat):Bool:= !(bad.map V.str).any (isS k)
noncomputable def hN9(J:KL)(p:List Nat×V):KL:=gJ6 p.1 p.2 J
noncomputable def gH4(bad:List (List Nat))(J l:KL):KL:=(l.filter λp=>nin bad p.1).foldl hN9 J
theorem jL3{S:St}{k:Nat}{d:KL}{n:List Nat}{y:V}(e:S.h k=some (jO d))(h:d.length<1000000):gO7 S k (.str n) y=some (S.upd k (jO (gJ6 n y d))):=by have q:=gO6 (i:= .str n) (u:=y) e (by rw[iX3,List.length_map];exact dT h);rw[q,hY3 (ek:= .str) (eb:=λv=>v) kR0];rfl
theorem get_hd{S:St}{l:KL}{n:List Nat}:hB1 S (hdV l) (.str n)=gC2 n l:=by show(if gA8 (.str n) (l.map λy=>V.str y.1)=true then _ else none)=_;rw[if_pos iX3];refine(gN6 (ek:= .str) (eb:=λv=>v) kR0).trans ?_;cases gC2 n l<;>rfl
theorem kW7{S:St}{bad:List (List Nat)}{k:List Nat}:gK3 S .notIn (.str k) (.tup (bad.map .str))=some (nin bad k):=by show((if(bad.map V.str).all gB4=true then some ((bad.map V.str).any (isS k))else none).bind λr=>some (!r))=_;rw[if_pos (List.all_eq_true.mpr λv h=>by obtain⟨x,_,rfl⟩:=List.mem_map.mp h;rfl)];rfl
theorem iR5(l J:KL):(l.foldl hN9 J).length<=J.length+l.length:=by
 induction l generalizing J with
 |nil=>exact Nat.le_refl _
 |cons p l ih=>
  have a:=ih (hN9 J p);have b:(hN9 J p).length<=J.length+1:=hI1;show(l.foldl hN9 (hN9 J p)).length<=J.length+(l.length+1)
  exact lF9 a b
theorem gW0{bad:List (List Nat)}{J l:KL}:(gH4 bad J l).length<=J.length+l.length:=Nat.le_trans (iR5 _ _) (Nat.add_le_add_left (List.length_filter_le ..) _)
theorem hG1{d hh k:Nat}{te:ME}{bad:List (List Nat)}{l J:KL}{m:Lo}{S:St}(hte:∀f m S,evE prog (f+20) te m S=some (.tup (bad.map .str),S))(w:Wf S)(md:m d=some (.loc k))(mh:m hh=some (hdV l))(nd:d≠26)(nh:hh≠26)
  (h:Hd l)(e:S.h k=some (jO J))(hJ:J.length<500)(F:Nat)(hF:60<F):
  X (exF prog F (.one 26) (l.map λp=> .str p.1) [.ite (.cmp .notIn (.var 26) te) [.asgS (.var d) (.var 26) (.sub (.var hh) (.var 26))] []] m S) λfl m' S'=>fl= .nx/\(∀x,x≠26->m' x=m x)/\S'.h k=some (jO (gH4 bad J l))/\Kp [k] S S':=by
 refine(gL6 (enc:=λp:List Nat×V=>V.str p.1) (K:=50) (full:=l) (I:=λpre m' S'=>(∀x,x≠26->m' x=m x)/\S'.h k=some (jO (gH4 bad J pre))/\Kp [k] S S') (λpre p post hs f m' S' j=> ?_) l [] rfl ⟨λδ δ=>rfl,e,.refl w⟩ _ (lK5 h.n hF rfl)).imp λfl m' S' q=>⟨q.1,q.2⟩
 refine e03 j λem ek kp=> ?_;refine⟨_,rfl,?_⟩;have hp:=gS3 hs;have ln:=gS4 hs;have hn:=h.n;have e26:(m'.set 26 (.str p.1)) 26=some (.str p.1):=rfl;have em':∀x,x≠26->(m'.set 26 (.str p.1)) x=m x:=λx n=>(if_neg n).trans (em x n);generalize m'.set 26 (.str p.1)=m1 at e26 em';have ed:=(em' d nd).trans md;have eh:=(em' hh nh).trans mh;have jl:=gW0 (bad:=bad) (J:=J) (l:=pre);have hk:=h.k p hp;refine gB6 (gC7 (gA7 e26 (m_v rfl ⟨_,_,hte _ _ _,.e kW7 ?_⟩)));refine If.s (λhu=> ?_) λhu=>gB0 (Nx.nx (gB0 ⟨rfl,em',?_,kp⟩))
 ·refine gJ4 (gE6 (gA7 eh (m_v rfl (gA7 e26 (m_v rfl (.e (get_hd.trans (h.g p hp)) (m_v hk (gA7 ed (gJ2 ek (.i (gA7 e26 (m_v rfl (z_v hk (.e (jL3 ek (lL3 jl hJ ln hn rfl)) (gB0 (Nx.nx (gB0 ⟨rfl,em',?_,kp.trans (.upd kp.wf ek)⟩)))))))))))))))));have:gH4 bad J (pre++ [p])=gJ6 p.1 p.2 (gH4 bad J pre):=by unfold gH4;rw[List.filter_append,List.foldl_append];simp[List.filter,hu,hN9]
  rw[this];exact gC9
 ·have:gH4 bad J (pre++ [p])=gH4 bad J pre:=by unfold gH4;rw[List.filter_append,List.foldl_append];simp[List.filter,hu]
  rw[this];exact ek
noncomputable abbrev own:List (List Nat):=[gU3,[70,105,108,116,101,114],[68,101,99,111,100,101,80,97,114,109,115],sW,[73,110,100,101,120],gE1]
noncomputable abbrev gE9:List (List Nat):=[iG9,gS1,[88,82,101,102,83,116,109]]
theorem kO0{f:Nat}{l:KL}{S:St}(w:Wf S)(h:Hd l):W (gA4 prog (f+90) 13 [hdV l] S) λv S'=>v= .loc S.n/\S'.h S.n=some (jO (gH4 own [] l))/\Kp [] S S':=by refine gB8 (vs:=[hdV l]) rfl rfl ?_;refine gC0<|gW4<|gA1<|gC6<|And.intro rfl<| ?_;refine hS4 (hB5 (gA7 rfl (m_v rfl (kR2 ?_))));refine(hG1 (J:=[]) (l:=l) (bad:=own) (λδ δ δ=>rfl) (Wf.new w) rfl rfl (by decide) (by decide) h gA6 (by decide) _ (by(exact Nat.le_trans (Nat.le_refl (Nat.succ 60)) (Nat.le_add_left (Nat.succ 60) (f+25))))).imp λfl m' S' q=> ?_;obtain⟨rfl,em,ek,kp⟩:=q;have e13:=(em 13 (by decide)).trans (show((Lo.sets (λδ=>none) [23] [hdV l]).set 13 (.loc S.n)) 13=some (.loc S.n)from rfl);refine Nx.nx (gF0 (gA7 e13 (gJ2 ek (.i ⟨rfl,ek,(Kp.new w).fr w (Nat.le_refl _) kp⟩))))
theorem jB0{f:Nat}{u:V}{ds:List KL}{T:List Nat}{S:St}(w:Wf S)(it:Its T S u (ds.map hdV))(hT:∀t,t∈T->t<S.n)(h:∀l,l∈ds->Hd l)(hl:ds.length<=5):
  W (gA4 prog (f+120) 10 [u] S) λv S'=>v= .loc S.n/\S'.h S.n=some (jO (ds.foldl (gH4 gE9) []))/\Kp T S S':=by
 refine gB8 (vs:=[u]) rfl rfl ?_;refine gC0<|gW4<|gA1<|gC6<|And.intro rfl<| ?_;refine e02 (it (S.new (.dct [] [])) (.new w)) λnu it=> ?_;refine hS4 (hB5 (gA7 rfl ⟨u,nu,it.imp λl S1 q=> ?_⟩));obtain⟨rfl,q,_⟩:=q;have h1:S1.h S.n=some (jO []):=q.kp _ _ gA6 λh=>Nat.lt_irrefl _ (hT _ h);have k1:Kp T S S1:=(Kp.new w).trans q;refine(gL6 (enc:=hdV) (K:=80) (full:=ds) (I:=λpre m S'=>m 13=some (.loc S.n)/\S'.h S.n=some (jO (pre.foldl (gH4 gE9) []))/\(pre.foldl (gH4 gE9) []).length<=5*pre.length/\Kp T S S') (λpre d post hs f m S' j=> ?_) _ [] rfl ⟨rfl,h1,Nat.le_refl _,k1⟩ _ (by(exact nl1 hl rfl))).imp λfl m' S' q=> ?_
 ·refine e04 j λe13 hk jl kp=> ?_;refine⟨_,rfl,?_⟩;have hd:=h d (gS3 hs);have ln:=gS4 hs;refine hS4 (hB5 (gA7 rfl (m_v rfl (kR2 ?_))));refine(hG1 (m:=m.set 19 (hdV d)) (d:=13) (hh:=19) (l:=d) (bad:=gE9) (λδ δ δ=>rfl) kp.wf e13 rfl (by decide) (by decide) hd hk (by(exact kQ7 jl (Nat.le_of_lt (Nat.lt_of_lt_of_le ln hl)) rfl)) _ (by(exact Nat.le_trans (Nat.le_refl (Nat.succ 60)) (Nat.le_add_left (Nat.succ 60) (f+17))))).imp λfl m2 S2 q=> ?_;obtain⟨rfl,em,ek,kq⟩:=q;refine Nx.nx (gB0 ⟨rfl,(em 13 (by decide)).trans e13,?_,?_,kp.fr w (Nat.le_refl _) kq⟩)
  ·rw[List.foldl_append];exact ek
  ·rw[List.foldl_append,List.length_append];have a:=gW0 (bad:=gE9) (J:=pre.foldl (gH4 gE9) []) (l:=d);have b:=hd.n;show(gH4 gE9 (pre.foldl (gH4 gE9) []) d).length<=5*(pre.length+1);exact Nat.le_trans a (Nat.add_le_add j.2.2.1 b)
 ·obtain⟨rfl,e13,hk,_,kp⟩:=q;exact Nx.nx (gF0 (gA7 e13 (gJ2 hk (.i ⟨rfl,hk,kp⟩))))
theorem hL9(a b:Int):∀l:List Int,gZ4 a (gZ4 b l)=gZ4 b (gZ4 a l)
 | []=>by
  show(if a<=b then [a,b]else b::[a])=(if b<=a then [b,a]else a::[b])
  by_cases h:a<=b<;>by_cases h':b<=a<;>simp[h,h']
  ·have:a=b:=Int.le_antisymm h h';exact⟨this,this.symm⟩
  ·exact(h' (Int.le_of_lt (Int.not_le.mp h))).elim
 |y::l=>by
  have ih:=hL9 a b l;simp only[hM0]
  by_cases h:a<=y<;>by_cases h':b<=y<;>by_cases h2:a<=b<;>by_cases h3:b<=a<;>simp only[hM0,h,h',h2,h3,if_true,if_false]<;>first
   |rfl
   |exact(h3 (Int.le_of_lt (Int.not_le.mp h2))).elim
   |exact(h (Int.le_trans h2 h')).elim
   |exact(h' (Int.le_trans h3 h)).elim
   |exact(h' (Int.le_trans (Int.le_of_lt (Int.not_le.mp h2)) h)).elim
   |exact(h (Int.le_trans (Int.le_of_lt (Int.not_le.mp h3)) h')).elim
   |(have:a=b:=Int.le_antisymm h2 h3);subst this;rfl
   |rw[ih]
theorem hC5{l l':List Int}(p:l.Perm l'):gA5 l=gA5 l':=by
 induction p with
 |nil=>rfl
 |cons x _ ih=>show gZ4 x _=gZ4 x _;rw[ih]
 |swap x y l=>exact hL9 _ _ _
 |trans _ _ h h'=>exact h.trans h'
theorem gX7:∀ {l:List Int},l.Pairwise (· < ·)->gA5 l=l
 | [],_=>rfl
 |x::l,h=>by
  refine e02 (List.pairwise_cons.mp h) λa b=> ?_;show gZ4 x (gA5 l)=_;rw[gX7 b]
  cases l with
  |nil=>rfl
  |cons y l=>exact if_pos (Int.le_of_lt (a y (mS)))
noncomputable def Row.has(r:Row):Bool:=match r.o with|false=>true|true=>isX r.v
noncomputable def FL(L:List LR):List LR:=L.filter (λx=> !x.r.o)++(L.filter λx=>x.r.o).filter λx=>isX x.r.v
theorem hS5(L:List LR):(FL L).Perm (L.filter λx=>x.r.has):=by
 have h:=List.filter_append_perm (λx:LR=> !x.r.o) (L.filter λx=>x.r.has);rw[List.filter_filter,List.filter_filter]at h;have e1:L.filter (λx=> !x.r.o&&x.r.has)=L.filter λx=> !x.r.o:=List.filter_congr λx δ=>by unfold Row.has;cases x.r.o<;>rfl
 have e2:L.filter (λx=>(!(!x.r.o))&&x.r.has)=(L.filter λx=>x.r.o).filter λx=>isX x.r.v:=by rw[List.filter_filter];exact List.filter_congr λx δ=>by unfold Row.has;cases x.r.o<;>cases isX x.r.v<;>rfl
 rw[e1,e2]at h;exact h
theorem kF0{M:List LR}(h:M.Pairwise λx y=>x.b<y.b){y:LR}(hy:y∈M):M.filter (λx=>x.b==y.b)=[y]:=by
 induction M with
 |nil=>cases hy
 |cons x M ih=>
  refine e02 (List.pairwise_cons.mp h) λa b=> ?_;rw[List.filter_cons];rcases mC hy with rfl|hy
  ·rw[if_pos (beq_self_eq_true _)]
   congr 1
   exact List.filter_eq_nil_iff.mpr λz hz q=>by exact absurd (a z hz) (by rw[bE q];exact Int.lt_irrefl _)
  ·rw[if_neg (λq=>absurd (a y hy) (by rw[bE q];exact Int.lt_irrefl _))];exact ih b hy
theorem jQ2{L:List LR}(h:L.Pairwise λx y=>x.b<y.b):(gA5 ((FL L).map (·.b))).flatMap (λp=>(FL L).filter λx=>x.b==p)=L.filter λx=>x.r.has:=by
 have hM:=h.filter (p:=λx:LR=>x.r.has);rw[hC5 ((hS5 L).map (·.b)),gX7 (List.pairwise_map.mpr hM)];rw[List.flatMap_map]
 have:∀M':List LR,(∀y,y∈M'->y∈L.filter λx=>x.r.has)->(M'.flatMap λy=>(FL L).filter λx=>x.b==y.b)=M':=λM'=>by
  induction M' with
  |nil=>intro _;rfl
  |cons y M' ih=>
   intro hm;have hy:=hm y (mS);have p:=(hS5 L).filter λx=>x.b==y.b;rw[kF0 hM hy]at p;rw[List.flatMap_cons,List.perm_singleton.mp p,ih λz hz=>hm z (mO _ hz)];rfl
 exact this _ λδ h=>h
theorem kP7(L:List LR):(FL L).length<=L.length:=(hS5 L).length_eq▸List.length_filter_le ..
noncomputable def gP1(v:V):V:=match v with| .ob _ _ vs=>vs.headD .none|v=>v
noncomputable def gV9(v:V):KL:=match v with| .dct ks vs=>(ks.zip vs).map λp=>((sOf p.1).getD [],p.2)|_=> []
noncomputable def dk(r:Row):KL:=match r.o with|false=>gV9 r.v|true=>gH4 own [] (gV9 (gP1 r.v))
theorem jC7{v:V}(h:v∈tras):∃i r s,v=vT i r s:=by
 refine e12 (List.mem_flatMap.mp h) λi δ h=> ?_;refine e12 (List.mem_flatMap.mp h) λr δ h=> ?_;rcases mC h with e|h
 ·exact⟨_,_,_,e⟩
 ·exact⟨_,_,_,List.mem_singleton.mp h⟩
noncomputable def hdB(l:KL):Bool:=l.all (λp=>(kOf p.2).isNone)&&(decide ((l.map (·.1)).Nodup)&&decide (l.length<=5))
theorem jV8{l:KL}{p:List Nat×V}(hp:p∈l)(b:(l.map (·.1)).Nodup):gC2 p.1 l=some p.2:=by
 induction l with
 |nil=>cases hp
 |cons x l ih=>
  refine e02 (List.nodup_cons.mp b) λn1 n2=> ?_;show(if p.1=x.1 then some x.2 else gC2 p.1 l)=_;rcases mC hp with rfl|hp
  ·exact if_pos rfl
  ·have ne:p.1≠x.1:=λe=>n1 (List.mem_map.mpr ⟨p,hp,e⟩);rw[if_neg ne];exact ih hp n2
theorem Hd.of{l:KL}(h:hdB l=true):Hd l:=aN3 h λa b c=>by exact⟨λp hp=>jV8 hp (oX b),λp hp=>Option.isNone_iff_eq_none.mp (List.all_eq_true.mp a p hp),oX c⟩
theorem hS9{v:V}(h:v∈tras):v=hdV (gV9 v)/\Hd (gV9 v):=by obtain⟨i,r,s,rfl⟩:=jC7 h;cases i<;>cases r<;>cases s<;>exact⟨rfl,.of (by rfl)⟩
theorem kP8{v:V}(h:v∈vals)(x:isX v=true):v= .ob 1 [23,47] [gP1 v,.bytes []]/\gP1 v=hdV (gV9 (gP1 v))/\Hd (gV9 (gP1 v))/\Hd (gH4 own [] (gV9 (gP1 v))):=by rcases kS6 h x with rfl|rfl|rfl<;>exact⟨rfl,rfl,.of (by rfl),.of (by decide+kernel)⟩
theorem Row.ok.hd{r:Row}(h:r.ok)(a:r.has=true):Hd (dk r):=by
 unfold Row.has at a;unfold dk
 cases o:r.o with
 |false=>exact(hS9 (h.tra o).2.2).2
 |true=>rw[o]at a;exact(kP8 (h.obj o).2.2 a).2.2.2
noncomputable def enT(x:LR):V:= .tup [.int x.b,hdV (dk x.r)]
theorem jY2{L:List LR}(ok:∀x,x∈L->x.r.ok):trs L=(L.filter λx=> !x.r.o).map enT:=List.map_congr_left λx hx=>by
 refine e02 (List.mem_filter.mp hx) λa b=> ?_;have o:x.r.o=false:=by cases q:x.r.o with|false=>rfl|true=>rw[q]at b;exact ff b
 unfold trV enT dk;rw[o];show V.tup [_,x.r.v]=V.tup [_,hdV (gV9 x.r.v)];rw[←(hS9 ((ok x a).tra o).2.2).1]
theorem hN3{α:Type}{K:Nat}{enc:α->V}{elt:ME}{g g':Gn}{m:Lo}{e:α->List V}{J:St->Prop}(he:∀a,(e a).length<=5):∀(l:List α) (acc:List V){S:St},acc.length+5*l.length<900->
  (∀a,a∈l->∀f S acc,J S->acc.length<900->∃mA,g.tg.put (enc a) m=some mA/\W (gC8 prog (f+K) g.ifs mA S) λu S'=>u=true/\W (itE prog (f+K) g' mA S') λq S'=>W (gD8 prog (f+K) elt g' [] q mA acc S') λz S'=>z=acc++e a/\J S')->
  J S->∀F,l.length+K<F->W (gD8 prog F elt g [g'] (l.map enc) m acc S) λz S'=>z=acc++l.flatMap e/\J S'
 |_,_,_,_,_,_,0,lt=>absurd lt (Nat.not_lt_zero _)
 | [],acc,S,_,_,j,F+1,_=>jO6 ⟨(List.append_nil _).symm,j⟩
 |a::l,acc,S,h,st,j,F+1,lt=>by
  have h:acc.length+5*(l.length+1)<900:=h;have lt:l.length+1+K<F+1:=lt;refine e12 (st a (mS) (F-K) S acc j (by(exact nl3 (nl9 h) rfl))) λmA e1 T=> ?_;rw[show F-K+K=F from kQ5 lt]at T;refine kG4 e1 (T.imp λu S' q=> ?_);obtain⟨rfl,q⟩:=q;refine⟨λδ=>q.imp λq S' r=>r.imp λz S' r=> ?_,nofun⟩;obtain⟨rfl,j'⟩:=r;have:=he a;refine(hN3 he l _ (by rw[List.length_append];exact lL2 h this) (λa h=>st a (mO _ h)) j' F (jN4 lt)).imp λz S3 q=>⟨?_,q.2⟩
  rw[q.1,List.append_assoc];rfl
theorem jU1{S:St}{u:V}{l:List V}{Q:QP}(e:gD4 S u=some l)(h:Q (.loc S.n) (S.new (.lst l))):W (callB S .list [u]) Q:=⟨_,_,show((gD4 S u).bind λl=>some (iS8 S l))=_ from bk e rfl,h⟩
theorem hR0:∀l:List Int,gQ3 (l.map .int)=some l
 | []=>rfl
 |i::l=>show(iOf (.int i)).bind (λi=>(hO3 iOf (l.map .int)).bind λq=>some (i::q))=_ from bk rfl (bk (hR0 l) rfl)
theorem iP8{S:St}{k:Nat}{l:List Int}{Q:QP}(e:S.h k=some (.lst (l.map .int)))(n:l.length<64)(h:Q (.loc S.n) (S.new (.lst ((gA5 l).map .int)))):W (callB S .sorted [.loc k]) Q:=by refine⟨_,_,?_,h⟩;show((match gD4 S (.loc k)with|some l=>gK5 l|none=>_).bind λl=>some (iS8 S l))=_;rw[gV5 e];show((gQ3 (l.map .int)).bind _).bind _=_;rw[hR0];show(if l.length<64 then _ else none).bind _=_;rw[if_pos n];rfl
theorem Sh.keep{sh t j:Nat}{S S':St}(s:Sh sh t j S)(k:Kp [] S S'):Sh sh t j S':=by obtain⟨a,⟨o,h1,h2⟩,⟨o',h3,h4⟩,n⟩:=s;exact⟨k.z a,⟨o,k.z h1,h2⟩,⟨o',k.z h3,h4⟩,n⟩
theorem hW4(x:Int):∀l:List Int,(gZ4 x l).length=l.length+1
 | []=>rfl
 |y::l=>by
  show(if x<=y then x::y::l else y::gZ4 x l).length=_
  by_cases h:x<=y
  ·rw[if_pos h];rfl
  ·rw[if_neg h];exact congrArg (· +1) (hW4 x l)
theorem gD2:∀l:List Int,(gA5 l).length=l.length
 | []=>rfl
 |x::l=>(hW4 x _).trans (congrArg (· +1) (gD2 l))
theorem jU6{f:Nat}{l:KL}{u:V}{S:St}(hu:u=hdV l)(w:Wf S)(h:Hd l):W (gA4 prog (f+90) 13 [u] S) λv S'=>v= .loc S.n/\S'.h S.n=some (jO (gH4 own [] l))/\Kp [] S S':=by subst hu;exact kO0 w h
theorem iD3{f sh t j wk lp lt:Nat}{L:List LR}{S:St}(w:Wf S)(s:Sh sh t j S)(hw:S.h wk=some (.ins 5 [11,17] [.loc lp,.loc lt]))(hp:S.h lp=some (.frz (.lst (pcs L))))
  (ht:S.h lt=some (.lst (trs L))\/S.h lt=some (.frz (.lst (trs L))))(ok:∀x,x∈L->x.r.ok)(hl:L.length<=5)(inc:L.Pairwise λx y=>x.b<y.b):
  W (gA4 prog (f+150) 11 [.loc sh,.loc wk] S) λv S'=>∃k,v= .loc k/\S.n<=k/\S'.h k=some (.lst ((L.filter λx=>x.r.has).map λx=>hdV (dk x.r)))/\Kp [] S S':=by
 obtain⟨u,hu,hg⟩:∃u,norm S (.loc lt)=u/\gD4 S u=some (trs L):=by
  rcases ht with h|h
  ·exact⟨_,iW4 h,gV5 h⟩
  ·exact⟨_,iW5 h,rfl⟩
 refine W.cps λQ K=> ?_;refine gB8 (vs:=[.loc sh,.loc wk]) rfl rfl (gC0 (gG3 (gA0 (gT7 (gA7 rfl (iJ0 hw (.e (gT0 hw) (.i ⟨u,hu,gA1 (jU1 hg ?_)⟩))))))));have k1:Kp [] S (S.new (.lst (trs L))):= .new w;have h1:(S.new (.lst (trs L))).h S.n=_:=gA6;generalize S.new (.lst (trs L))=S1 at k1 h1;rw[jY2 ok]at h1;have hw1:=k1.z hw;refine hS4 (hB5 (gT7 (gA7 rfl (iJ0 hw1 (.e (gT0 hw1) (.i (hK9 (k1.z hp) (jW3 ?_))))))));have len:(L.filter (·.r.o)).length<=5:=Nat.le_trans (List.length_filter_le ..) hl;refine(gL6 (enc:=pcV) (K:=110) (full:=L.filter (·.r.o)) (I:=λpre m S'=>m 13=some (.loc S.n)/\m 36=some (.loc sh)/\S'.h S.n=some (.lst ((L.filter (λx=> !x.r.o)++pre.filter λx=>isX x.r.v).map enT))/\Kp [] S S') (λpre x post hs f m S' j=> ?_) _ [] rfl ⟨rfl,rfl,by rw[h1,List.filter_nil,List.append_nil],k1⟩ _ (by(exact nl1 len rfl))).imp λfl m' S' q=> ?_
 ·refine e04 j λe13 e36 hk kp=> ?_;refine e02 (List.mem_filter.mp (gS3 hs)) λhx ho=> ?_;have okx:=ok x hx;have hv:=okx.kv;have hvv:=(okx.obj ho).2.2;have s':=s.keep kp;refine⟨_,rfl,?_⟩;have e14:(m.set 14 (pcV x)) 14=some (pcV x):=rfl;have e13:(m.set 14 (pcV x)) 13=some (.loc S.n):=e13;have e36:(m.set 14 (pcV x)) 36=some (.loc sh):=e36;generalize m.set 14 (pcV x)=m at e14 e13 e36;refine gB6 (gA3 (gA0 (gA7 e36 (iJ0 s'.hs (gA0 (gT7 (gA7 e14 (m_v rfl (.i (.i (m_v hv (gA1 ((hV0 (vv hvv).1 s' kp.wf).imp λu S2 q=> ?_)))))))))))));obtain⟨rfl,k2⟩:=q;have kp2:=kp.trans k2;have hk2:=k2.z hk;refine If.s (λhX=> ?_) λhX=>gB0 (Nx.nx (gB0 ⟨rfl,e13,e36,?_,kp2⟩))
  ·refine e04 (kP8 hvv hX) λxe hde hd δ=> ?_;have gv:∀S,hM2 S x.r.v=some (1,[23,47],[gP1 x.r.v,.bytes []]):=λS=>by rw[xe];rfl
   have hk3:kOf (gP1 x.r.v)=none:=by rw[hde];rfl
   refine hI8<|gC3<|gA7 e13<|gY8 hk2 ⟨gR1 hk2,?_⟩;refine gA0<|gJ7<|gA0<|hB9 e14 rfl rfl rfl<|m_v rfl ?_;refine gA0<|gA3<|gA0<|gT7<|hB9 e14 rfl rfl rfl<|m_v hv<| .e (gv _)<| .i<|m_v hk3<|gA1<|(jU6 hde kp2.wf hd).k2 λS3 h3 k3=> ?_;have hk3:=k3.z hk2;have ne:S.n≠S2.n:=Wf.ne k2.wf hk2;have ex:V.tup [.int x.b,hdV (gH4 own [] (gV9 (gP1 x.r.v)))]=enT x:=by unfold enT dk;rw[ho]
   have hk4:=gB9 (o:= .frz (hdV (gH4 own [] (gV9 (gP1 x.r.v))))) ne hk3;have kp4:=(kp2.trans k3).up (o:= .frz (hdV (gH4 own [] (gV9 (gP1 x.r.v))))) w kp2.le h3;have ln:=gS4 hs
   have sm:small ((L.filter (λx=> !x.r.o)++pre.filter λx=>isX x.r.v).map enT).length=true:=dT (by
    rw[List.length_map,List.length_append];have a:=List.length_filter_le (λx:LR=> !x.r.o) L;have b:=List.length_filter_le (λx:LR=>isX x.r.v) pre
    lia)
   refine gA1<|gI4 rfl<|gD1<|iE4 h3<|gC6<|gA1<|hA0 hk4 sm rfl<|gK9<|gB0 ⟨rfl,e13,e36,?_,kp4.up w (Nat.le_refl _) hk4⟩;rw[gC9,List.filter_append,show([x]:List LR).filter (λx=>isX x.r.v)=[x]from List.filter_cons_of_pos hX,←List.append_assoc];show some (O.lst (_++ [V.tup [.int x.b,hdV _]]))=_;rw[ex];exact congrArg (λz=>some (O.lst z)) (List.map_append (l₂:=[x])).symm
  ·rw[List.filter_append,show([x]:List LR).filter (λx=>isX x.r.v)=[]from List.filter_eq_nil_iff.mpr λz hz q=>by rw[List.mem_singleton.mp hz,hX]at q;exact ff q,List.append_nil];exact hk2
 ·obtain⟨rfl,e13,e36,hk,kp⟩:=q;have fl5:=kP7 L;refine Nx.nx<|gC0<|gG3<|gA0<|gE8<|iC5<|gR7 e13 hk<|iK6 hk ?_;have kp5:=kp.up (o:= .frz (.lst ((FL L).map enT))) w (Nat.le_refl _) hk;have hk5:(S'.upd S.n (.frz (.lst ((FL L).map enT)))).h S.n=_:=gC9;show W (gD8 prog _ _ _ _ ((FL L).map enT) _ _ (S'.upd S.n (.frz (.lst ((FL L).map enT))))) _;generalize S'.upd S.n (.frz (.lst ((FL L).map enT)))=S5 at kp5 hk5;refine(gE3 (K:=20) (enc:=enT) (u:=λδ=>true) (e:=λx=> .int x.b) (J:=λS'=>Kp [] S5 S') (FL L) [] (by show 0+_<1000;(exact hO6 (nl2 (Nat.le_trans fl5 hl) rfl))) (λx δ f S' j=>⟨_,rfl,gO2 ⟨rfl,nofun,λδ=>gA7 rfl (m_v rfl ⟨rfl,rfl,j⟩)⟩⟩) (.refl kp5.wf) _ (by(exact nl1 (Nat.le_trans fl5 hl) rfl))).imp λz S6 q=> ?_;obtain⟨rfl,k6⟩:=q;rw[List.nil_append,List.filter_eq_self.mpr λδ δ=>rfl];have h7:(S6.new (.lst ((FL L).map λx=> .int x.b))).h S6.n=some (.lst (((FL L).map (·.b)).map .int)):=by rw[List.map_map];exact gA6
  have k7:=k6.nw (o:= .lst ((FL L).map λx=> .int x.b));refine gA1<|iP8 h7 (by rw[List.length_map];(exact nl2 (Nat.le_trans fl5 hl) rfl)) ?_;have k8:=k7.nw (o:= .lst ((gA5 ((FL L).map (·.b))).map .int));have h8:((S6.new (.lst ((FL L).map λx=> .int x.b))).new (.lst ((gA5 ((FL L).map (·.b))).map .int))).h (S6.n+1)=_:=gA6;have l8:S5.n<=S6.n+1:=Nat.le_succ_of_le k6.le;show X (exB prog _ _ (m'.set 29 (.loc (S6.n+1))) _) _;generalize (S6.new (.lst ((FL L).map λx=> .int x.b))).new (.lst ((gA5 ((FL L).map (·.b))).map .int))=S8 at k8 h8;generalize S6.n+1=k at h8 l8;refine gF0<|gE8<|iC5<|gR7 rfl h8<|iK6 h8 ?_;have k9:=k8.up (o:= .frz (.lst ((gA5 ((FL L).map (·.b))).map .int))) kp5.wf l8 h8;generalize S8.upd k (.frz (.lst ((gA5 ((FL L).map (·.b))).map .int)))=S9 at k9;have e13:((m'.set 29 (.loc k)).del [39,18,19]) 13=some (.loc S.n):=e13;show W _ _;generalize (m'.set 29 (.loc k)).del [39,18,19]=m at e13;refine(hN3 (K:=60) (enc:= .int) (e:=λp=>((FL L).filter λx=>x.b==p).map λx=>hdV (dk x.r)) (J:=λS'=>Kp [] S9 S') (λp=> ?_) (gA5 ((FL L).map (·.b))) [] ?_ (λp δ f S' acc j ha=> ?_) (.refl k9.wf) _ ?_).imp λz S10 q=> ?_
  ·rw[List.length_map];exact Nat.le_trans (List.length_filter_le ..) (by(exact hD4 (Nat.le_trans fl5 hl) rfl))
  ·rw[gD2,List.length_map];show 0+_<900;(exact hO6 (lG3 (Nat.le_trans fl5 hl) rfl))
  ·refine⟨_,rfl,gO2 ⟨rfl,iC5<|gA7 e13<|hK9 (j.z (k9.z hk5))<|jW3 ?_⟩⟩;refine(gE3 (K:=20) (enc:=enT) (u:=λx=>x.b==p) (e:=λx=>hdV (dk x.r)) (J:=λS'=>Kp [] S9 S') (FL L) acc (by(exact lG4 ha (Nat.le_trans fl5 hl) rfl)) (λx δ f S' j=>⟨_,rfl,?_⟩) j _ (by(exact nl1 (Nat.le_trans fl5 hl) rfl))).imp λz S6 q=>q;refine gT9<|gC7<|gF1 rfl rfl<|gF1 rfl rfl<| .i<|If.s (λh=>gO2 ?_) λh=> ?_
   ·exact⟨h.symm,nofun,λδ=>gA7 rfl (m_v rfl ⟨rfl,rfl,j⟩)⟩
   ·exact⟨h.symm,λδ=>j,nofun⟩
  ·rw[gD2,List.length_map];(exact nl1 (Nat.le_trans fl5 hl) rfl)
  ·obtain⟨rfl,k10⟩:=q;refine .i<|K _ _ ⟨_,rfl,?_,?_,((kp5.trans k9).trans k10).nw⟩
   ·exact(kp5.trans k9).trans k10|>.le
   ·rw[gA6,←jQ2 inc,List.map_flatMap];rfl
theorem kI9{f sh:Nat}{v:V}{S:St}{Q:QP}(hv:kOf v=none)(h:hA9 S v (.cls 2)=some false)(q:Q v S):W (gA4 prog (f+50) 62 [.loc sh,v] S) Q:=by refine gB8 (vs:=[.loc sh,v]) rfl rfl<|gC0<|gF1 rfl hv<|hS4<|hR1<|gA0<|lF1 rfl<|gA1<| .i<|hE2 rfl<|gB6<|hO9<|gN9<|gF1 rfl hv<| .e h<| .i<|If.t<|gF0<|gA7 rfl<|m_v hv ?_;exact .i q
theorem iO9{S:St}{k:Nat}{l r:List V}{i d:V}{Q:QP}(e:S.h k=some (.dct l r))(hk:gA8 i l=true)(h:Q ((gK2 i l r).getD d) S):W (callBM S .get2 (.loc k) [i,d]) Q:=⟨_,_,show((getD S (.loc k)).bind λp=>if gA8 i p.1 then some ((gK2 i p.1 p.2).getD d)else none).bind _=_ from bk (bk (gQ5 e) (if_pos hk)) rfl,h⟩
theorem iP0{S:St}{k:Nat}{l r:List V}{i:V}{Q:QP}(e:S.h k=some (.dct l r))(hk:gA8 i l=true)(h:Q ((gK2 i l r).getD .none) S):W (callBM S .get1 (.loc k) [i]) Q:=⟨_,_,show((getD S (.loc k)).bind λp=>if gA8 i p.1 then some ((gK2 i p.1 p.2).getD .none)else none).bind _=_ from bk (bk (gQ5 e) (if_pos hk)) rfl,h⟩
noncomputable def fet(d:List (Int×(Int×V)))(n:Int):V:=match gC2 n d with
 |none=> .none
 |some y=>if y.1=0 then y.2 else .none
noncomputable def okR(v:V):Bool:=(hA9 Sz v (.cls 2)==some false)&&(!hW3 v||(match v with| .dct ks _=> !ks.isEmpty|_=>false))
theorem jZ6:vals.all okR=true:=by decide+kernel
theorem kD0{v:V}(h:v∈vals)(S:St):hA9 S v (.cls 2)=some false:=aN (List.all_eq_true.mp jZ6 v h) λa δ=>(jP8 (gO1 (ma h)) S).trans (bE a)
theorem lB1{v:V}(h:v∈vals)(a:hW3 v=true):∃ks vs,v= .dct ks vs/\ks.isEmpty=false:=aN (List.all_eq_true.mp jZ6 v h) λδ b=>by
 rw[a]at b
 cases v with
 |dct ks vs=>
  refine⟨ks,vs,rfl,?_⟩
  cases ks with
  |nil=>exact ff b
  |cons _ _=>rfl
 |_=>exact ff b
structure Dv(d:List (Int×(Int×V))):Prop where
 v:∀n y,gC2 n d=some y->y.2∈vals
theorem kI8{f sh t j:Nat}{d:List (Int×(Int×V))}{n:Int}{S:St}{Q:QP}(hs:S.h sh=some (.ins 6 [37,19] [.loc t,.loc j]))(ht:S.h t=some (tbO d))(hd:Dv d)(q:Q (fet d n) S):W (gA4 prog (f+50) 62 [.loc sh,rf n 0] S) Q:=by
 refine gB8 (vs:=[.loc sh,rf n 0]) rfl rfl<|gC0<|gF1 rfl rfl<|hS4<|hR1<|gA0<|lF1 rfl<|gA1<| .i<|hE2 rfl<|gB6<|hO9<|gN9<|gF1 rfl rfl<| .i<| .i<|If.f<|gB0<|Nx.nx ?_;have G:(gK2 (.int n) (d.map λy=> .int y.1) (d.map λy=>eT y.2)).getD (.tup [.int (-1),.none])=(match gC2 n d with|none=> .tup [.int (-1),.none]|some y=>eT y):=by rw[gN6 (ek:= .int) (eb:=eT) iE1];cases gC2 n d<;>rfl
 refine hZ3<|gC3<|gV8 rfl hs rfl<|gJ2 ht ⟨iP4 ht,?_⟩;refine gA0<|hB9 rfl rfl rfl rfl<|m_v rfl<|gA0<|gJ7<|gA0<|gA2<|gA0<|gA2<|gA1<|gI4 rfl<|gI4 rfl<|gC6<|gA1<|iO9 ht gY9 ?_;rw[G];unfold fet at q
 cases e:gC2 n d with
 |none=>
  rw[e]at q;refine .i ⟨rfl,gB6<|gC7<|gF1 rfl rfl<|hB9 rfl rfl rfl rfl<|m_v rfl<| .i<|If.t<|gF0<|gA2 ?_⟩
  exact .i q
 |some y=>
  rw[e]at q;have hy:=hd.v n y e;have hk:=gO1 (ma hy);refine .i ⟨rfl,gB6<|gC7<|gF1 rfl rfl<|hB9 rfl rfl rfl rfl<|m_v rfl<| .i<|If.s (λh=> ?_) λh=> ?_⟩
  ·refine gF0<|gA2 ?_;have ne:¬y.1=0:=λz=>by rw[z]at h;exact ff h
   have q:Q (if y.1=0 then y.2 else .none) S:=q;rw[if_neg ne]at q;exact .i q
  ·have e0:y.1=0:=by
    by_cases z:y.1=0
    ·exact z
    ·have:(!(y.1==0))=false:=h;simp[z]at this
   refine gK9<|gC0<|gF1 rfl hk<|gB0 ?_;refine hE2 rfl<|gB6<|hO9<|gN9<|gF1 rfl hk<| .e (kD0 hy _)<| .i<|If.t<|gF0<|gA7 rfl<|m_v hk ?_;have q:Q (if y.1=0 then y.2 else .none) S:=q;rw[if_pos e0]at q;exact .i q
noncomputable def rN(r:V):Int:=match r with| .ob _ _ l=>(iOf (l.headD .none)).getD 0|_=>0
noncomputable def rb(d:List (Int×(Int×V)))(J:KL):Bool:=match gC2 gB5 J with
 |none=>true
 |some r=> !hW3 (fet d (rN r))
structure Jv(J:KL):Prop where
 r:∀r,gC2 gB5 J=some r->∃n,r=rf n 0
theorem lC9{f sh t j:Nat}{d:List (Int×(Int×V))}{J:KL}{S:St}{Q:QP}(hs:S.h sh=some (.ins 6 [37,19] [.loc t,.loc j]))(ht:S.h t=some (tbO d))(hj:S.h j=some (jO J))(hd:Dv d)(jv:Jv J)
  (q:Q (match gC2 gB5 J with|none=> .none|some r=>fet d (rN r)) S):W (gA4 prog (f+70) 63 [.loc sh,.loc j,.str gB5] S) Q:=by
 have G:(gK2 (.str gB5) (J.map λy=> .str y.1) (J.map λy=>y.2)).getD .none=(gC2 gB5 J).getD .none:=by rw[show gK2 (.str gB5) (J.map λy=> .str y.1) (J.map λy=>y.2)=(gC2 gB5 J).map (λv=>v)from gN6 (ek:= .str) (eb:=λv=>v) kR0];cases gC2 gB5 J<;>rfl
 refine gB8 (vs:=[.loc sh,.loc j,.str gB5]) rfl rfl<|gF0<|gH8<|gR8 rfl hs<| .e (gT0 hs) ⟨nofun,.i ?_⟩;refine gA0<|gC3<|gA7 rfl<|gJ2 hj ⟨iP5 hj,gN0 rfl rfl<|gA1<|iP0 hj iX3 ?_⟩;rw[G]
 cases e:gC2 gB5 J with
 |none=>
  rw[e]at q
  exact gA1<|kI9 rfl rfl<| .i q
 |some r=>
  rw[e]at q;obtain⟨n,rfl⟩:=jv.r r e;exact gA1<|kI8 hs ht hd<| .i q
theorem kO2{f sh t j:Nat}{d:List (Int×(Int×V))}{J:KL}{S:St}(w:Wf S)(hs:S.h sh=some (.ins 6 [37,19] [.loc t,.loc j]))(ht:S.h t=some (tbO d))(hj:S.h j=some (jO J))(hd:Dv d)(jv:Jv J):
  W (gA4 prog (f+90) 66 [.loc sh] S) λu S'=>Kp [] S S'/\∃ks vs,getD S' u=some (ks,vs)/\ks.isEmpty=rb d J/\gD4 S' u=none:=by
 refine gB8 (vs:=[.loc sh]) rfl rfl<|gC0<|gH8<|gR8 rfl hs<| .e (gT0 hs) ⟨nofun,.i ?_⟩;refine gA0<|gV8 rfl hs rfl<|gJ2 hj<|gA0<|gA2<|gA1<|lC9 hs ht hj hd jv ?_
 have new:∀ {S:St}{m:Lo}{f:Nat},Wf S->rb d J=true->W (evE prog (f+3) (.dctE [] []) m S) λv S'=>Kp [] S S'/\∃ks vs,getD S' v=some (ks,vs)/\ks.isEmpty=rb d J/\gD4 S' v=none:=λw h=>
  gW4<|gA1<|gC6 ⟨rfl,.new w,[],[],gQ5 gA6,h.symm,by show((St.new _ _).h _).bind iW7=none;rw[gA6];rfl⟩
 have none_:∀ {v:V}{S:St}{m:Lo}{f:Nat},hA9 S v .dict=some false->kOf v=none->m 13=some v->rb d J=true->Wf S->W (evE prog (f+13) (.ite (.isi (.var 13) .dict) (.var 13) (.dctE [] [])) m S) λv S'=>Kp [] S S'/\∃ks vs,getD S' v=some (ks,vs)/\ks.isEmpty=rb d J/\gD4 S' v=none:=λh hk e r w=>
  hB0<|gN9<|gF1 e hk<| .e h<|If.f<|new w r
 cases e:gC2 gB5 J with
 |none=>
  exact gF0<|(none_ (v:= .none) rfl rfl rfl (by unfold rb;rw[e]) w).imp λδ δ h=> .i h
 |some r=>
  have er:rb d J= !hW3 (fet d (rN r)):=by unfold rb;rw[e]
  cases q:hW3 (fet d (rN r))with
  |false=>
   have F:kOf (fet d (rN r))=none/\hA9 S (fet d (rN r)) .dict=some false:=by
    unfold fet at q⊢
    cases y:gC2 (rN r) d with
    |none=>exact⟨rfl,rfl⟩
    |some y'=>
     rw[y]at q;have hy:=hd.v _ _ y;show kOf (if y'.1=0 then y'.2 else .none)=none/\hA9 S (if y'.1=0 then y'.2 else .none) .dict=_;have q:hW3 (if y'.1=0 then y'.2 else .none)=false:=q
     by_cases z:y'.1=0
     ·rw[if_pos z]at q⊢;exact⟨gO1 (ma hy),q▸(kv (ma hy)).d S⟩
     ·rw[if_neg z];exact⟨rfl,rfl⟩
   exact gF0<|(none_ F.2 F.1 rfl (by rw[er,q];rfl) w).imp λδ δ h=> .i h
  |true=>
   obtain⟨ks,vs,ev,ne⟩:∃ks vs,fet d (rN r)= .dct ks vs/\ks.isEmpty=false:=by
    unfold fet at q⊢
    cases y:gC2 (rN r) d with
    |none=>rw[y]at q;exact ff q
    |some y'=>
     rw[y]at q;show∃ks vs,(if y'.1=0 then y'.2 else .none)= .dct ks vs/\_;have q:hW3 (if y'.1=0 then y'.2 else .none)=true:=q
     by_cases z:y'.1=0
     ·rw[if_pos z]at q⊢;exact lB1 (hd.v _ _ y) q
     ·rw[if_neg z]at q;exact ff q
   show X (exB prog _ _ (Lo.set _ 13 (fet d (rN r))) S) _;rw[ev];exact gF0<|hB0<|gN9<|gF1 rfl rfl<| .i<|If.t<|gF1 rfl rfl<| .i ⟨.refl w,ks,vs,rfl,by rw[er,q,ne];rfl,rfl⟩
noncomputable abbrev Tb:=List (Int×(Int×V))
noncomputable def Row.cat(r:Row):Bool:=hW3 r.v&&isC r.v
noncomputable def lc(d:Tb):List Int->List LR->Option LR
 |_,[]=>none
 |seen,x::r=>if d.any (λy=>decide (x.r.n=y.1))=true/\seen.any (λy=>decide (x.r.n=y))=false then(if x.r.cat=true then some x else lc d (seen++ [x.r.n]) r)else lc d seen r
theorem kQ9(d:Tb)(s:List Int)(x:LR)(r:List LR):lc d s (x::r)=if d.any (λy=>decide (x.r.n=y.1))=true/\s.any (λy=>decide (x.r.n=y))=false then(if x.r.cat=true then some x else lc d (s++ [x.r.n]) r)else lc d s r:=rfl
theorem kY6{S:St}{k:Nat}{ks vs:List V}{n:Int}(e:S.h k=some (.dct ks vs))(hk:gA8 (.int n) ks=true):gK3 S .inn (.int n) (.loc k)=some (ks.any (gB1 (.int n))):=by show(match getD S (.loc k)with|some p=>if gA8 (.int n) p.1 then some (p.1.any (gB1 (.int n)))else none|none=>_)=_;rw[gQ5 e];exact if_pos hk
theorem kP3{β:Type}{n:Int}{d:List (Int×β)}:(d.map λy=>V.int y.1).any (gB1 (.int n))=d.any λy=>decide (n=y.1):=by rw[List.any_map];congr 1;funext y;exact iE1 n y.1
noncomputable def snO(l:List Int):O:= .dct (l.map .int) (l.map λδ=> .bool true)
theorem lD9{n:Int}{l:List Int}:(l.map V.int).any (gB1 (.int n))=l.any λy=>decide (n=y):=by rw[List.any_map];congr 1;funext y;exact iE1 n y
theorem jE3{n:Int}{l:List Int}:gA8 (.int n) (l.map V.int)=true:=List.all_eq_true.mpr λv h=>by obtain⟨y,_,rfl⟩:=List.mem_map.mp h;rfl
theorem jH3{n:Int}:∀ {l:List Int},(l.any λy=>decide (n=y))=false->gJ5 (.int n) (.bool true) (l.map .int) (l.map λδ=> .bool true)=((l++ [n]).map .int,(l++ [n]).map λδ=> .bool true)
 | [],_=>rfl
 |y::l,h=>by have h:(decide (n=y)||l.any λy=>decide (n=y))=false:=h;rw[Bool.or_eq_false_iff]at h;show(if gB1 (.int n) (.int y)=true then _ else(_,_))=_;rw[iE1,if_neg (by rw[h.1];nofun),jH3 h.2];rfl
theorem lL5{S:St}{k:Nat}{ks vs:List V}{n:Int}(e:S.h k=some (.dct ks vs))(hk:gA8 (.int n) ks=true):gK3 S .notIn (.int n) (.loc k)=some (!ks.any (gB1 (.int n))):=by show(inV S (.int n) (.loc k)).bind _=_;rw[show inV S (.int n) (.loc k)=some (ks.any (gB1 (.int n)))from kY6 e hk];rfl
noncomputable def LcQ(Sz:St)(o:Option LR)(fl:Fl)(S':St):Prop:=Kp [] Sz S'/\match o with
 |none=>fl= .nx
 |some x=>∃k,fl= .rt (.loc k)/\Sz.n<=k/\S'.h k=some (.ins 2 [7,8] [.int x.r.n,.int x.r.g])
noncomputable def kI4:List MS:=match fn14.body[1]? with|some (MS.fr _ _ b)=>b|_=> []
theorem iJ8{sh t j k:Nat}{d:Tb}{Sz:St}{b:List MS}{t0:Tg}{it:It}(hb:fn14.body[1]?=some (.fr t0 it b))(w:Wf Sz)(s0:Sh sh t j Sz)(ht0:Sz.h t=some (tbO d))(lk:Sz.n<=k):∀(l:List LR) (seen:List Int){m:Lo}{S:St},(∀x,x∈l->x.r.o=true/\x.r.ok)->seen.length+l.length<100->
  m 36=some (.loc sh)->m 42=some (.loc k)->S.h k=some (snO seen)->Kp [] Sz S->∀F,l.length+100<F->X (exF prog F (.one 14) (l.map pcV) b m S) λfl m' S'=>LcQ Sz (lc d seen l) fl S'
 |_,_,_,_,_,_,_,_,_,_,0,lt=>absurd lt (Nat.not_lt_zero _)
 | [],seen,m,S,_,_,_,_,_,kp,F+1,_=>iZ1 ⟨kp,rfl⟩
 |x::l,seen,m,S,ok,hn,e36,e42,hk,kp,F+1,lt=>by
  have ih:=iJ8 hb w s0 ht0 lk l;cases hb;have lt:l.length+1+100<F+1:=lt;have hn:seen.length+(l.length+1)<100:=hn;obtain⟨ho,okx⟩:=ok x (mS);have ok':∀x,x∈l->x.r.o=true/\x.r.ok:=λy h=>ok y (mO _ h);have hv:=okx.kv;have hvv:=(okx.obj ho).2.2;have s:=s0.keep kp;have ht:=kp.z ht0;obtain⟨f,rfl⟩:∃f,F=f+100:=⟨F-100,by(exact Eq.symm (kQ5 lt))⟩
  have e14:(m.set 14 (pcV x)) 14=some (pcV x):=rfl;have e36:(m.set 14 (pcV x)) 36=some (.loc sh):=e36;have e42:(m.set 14 (pcV x)) 42=some (.loc k):=e42;refine hE2 rfl ?_;generalize m.set 14 (pcV x)=m at e14 e36 e42;show X _ λfl m' S'=>_;rw[kQ9];refine gB6<|gO0<|gC7<|hB9 e14 rfl rfl rfl<|m_v rfl<|gV8 e36 s.hs rfl<|gJ2 ht<| .e (kY6 ht gY9) ?_;rw[kP3];have skip:∀ {m:Lo},m 36=some (.loc sh)->m 42=some (.loc k)->¬(d.any (λy=>decide (x.r.n=y.1))=true/\seen.any (λy=>decide (x.r.n=y))=false)->X (exF prog (f+100) (.one 14) (l.map pcV) kI4 m S) λfl m' S'=>LcQ Sz (if d.any (λy=>decide (x.r.n=y.1))=true/\seen.any (λy=>decide (x.r.n=y))=false then(if x.r.cat=true then some x else lc d (seen++ [x.r.n]) l)else lc d seen l) fl S':=λe36 e42 h=>by rw[if_neg h];exact ih seen ok' (by(exact hD4 (Nat.le_of_lt hn) rfl)) e36 e42 hk kp (f+100) (jN4 lt)
  refine If.s (λhA=> ?_) λhA=>If.f<|gK9<|gB0<|skip e36 e42 λh=>by rw[h.1]at hA;cases hA
  refine gN3<|gC7<|hB9 e14 rfl rfl rfl<|m_v rfl<|hB8 e42 hk<| .e (lL5 hk jE3) ?_;rw[lD9];refine If.s (λhB=> ?_) λhB=>gK9<|gB0<|skip e36 e42 λh=>by rw[h.2]at hB;cases hB
  have hB:seen.any (λy=>decide (x.r.n=y))=false:=by cases q:seen.any (λy=>decide (x.r.n=y))with|false=>rfl|true=>rw[q]at hB;cases hB
  rw[if_pos ⟨hA,hB⟩];have P:=gO6 (i:= .int x.r.n) (u:= .bool true) hk (by rw[jE3,List.length_map];exact dT (by(exact nl3 (nl9 hn) rfl)));rw[jH3 hB]at P;refine gJ4<|gA2<|hB8 e42 hk<| .i<|hB9 e14 rfl rfl rfl<|m_v rfl<|z_v rfl<| .e P ?_;have hk1:(S.upd k (snO (seen++ [x.r.n]))).h k=_:=gC9;have kp1:=kp.up (o:=snO (seen++ [x.r.n])) w lk hk;show X (exB prog _ _ _ (S.upd k (snO (seen++ [x.r.n])))) _;generalize S.upd k (snO (seen++ [x.r.n]))=S1 at hk1 kp1;have s:=s0.keep kp1;have next:∀ {S2:St},Kp [] S1 S2->x.r.cat=false->X (exF prog (f+100) (.one 14) (l.map pcV) kI4 m S2) λfl m' S'=>LcQ Sz (if x.r.cat=true then some x else lc d (seen++ [x.r.n]) l) fl S':=λk2 h=>by rw[if_neg (by rw[h];nofun)];exact ih _ ok' (by rw[List.length_append];show seen.length+1+l.length<100;(exact nl3 (nl5 hn) rfl)) e36 e42 (k2.z hk1) (kp1.trans k2) (f+100) (jN4 lt)
  refine gB6<|gO0<|gN9<|hB9 e14 rfl rfl rfl<|m_v hv<| .e ((kv (ma hvv)).d _)<|If.s (λhD=> ?_) λhD=>If.f<|gK9<|gK9<|gB0<|next (.refl kp1.wf) (by unfold Row.cat;rw[hD];rfl)
  refine gN3<|gA3<|hI6 e36 s.hs<|gA0<|hB9 e14 rfl rfl rfl<|m_v hv<|gA0<|gA2<|gA1<|(hV0 ((vv hvv).2.2.1 hD) s kp1.wf).k1 λS2 k2=> ?_;refine If.s (λhC=> ?_) λhC=>gK9<|gK9<|gB0<|next k2 (by unfold Row.cat;rw[hC,Bool.and_false])
  rw[if_pos (by unfold Row.cat;rw[hC,hD];rfl)];refine gF0<|gH9 rfl<|gA0<|hB9 e14 rfl rfl rfl<|m_v rfl<|gA0<|hB9 e14 rfl rfl rfl<|m_v rfl<|gA1<|kk (iX5 rfl rfl) ?_;have k3:=(kp1.trans k2).nw (o:= .ins 2 [7,8] [.int x.r.n,.int x.r.g]);exact⟨k3,_,rfl,(kp1.trans k2).le,gA6⟩
theorem kO7{f sh t j:Nat}{d:Tb}{L:List LR}{S:St}(w:Wf S)(s:Sh sh t j S)(ht:S.h t=some (tbO d))(ok:∀x,x∈L->x.r.ok)(hl:L.length<=5):
  W (gA4 prog (f+130) 14 [.loc sh,.lst (pcs L)] S) λu S'=>Kp [] S S'/\match lc d [] (L.filter (·.r.o)).reverse with
   |none=>u= .none
   |some x=>∃k,u= .loc k/\S.n<=k/\S'.h k=some (.ins 2 [7,8] [.int x.r.n,.int x.r.g]):=by
 have len:(L.filter (·.r.o)).length<=5:=Nat.le_trans (List.length_filter_le ..) hl;have k1:Kp [] S (S.new (snO [])):= .new w;refine gB8 (vs:=[.loc sh,.lst (pcs L)]) rfl rfl<|gC0<|gW4<|gA1<|gC6 ⟨rfl,hS4<|kH7<|gF1 rfl rfl<|z_v rfl<| .i ?_⟩
 delta lG8
 rw[show(pcs L).reverse=(L.filter (·.r.o)).reverse.map pcV from List.map_reverse.symm];refine(iJ8 (m:=(Lo.sets (λδ=>none) [36,11] [.loc sh,.lst (pcs L)]).set 42 (.loc S.n)) (hb:=rfl) w s ht (Nat.le_refl _) (L.filter (·.r.o)).reverse [] (λx hx=> ?_) (by rw[List.length_reverse];show 0+_<100;(exact hO6 (nl2 len rfl))) rfl rfl gA6 k1 _ ?_).imp λfl m' S' q=> ?_
 ·have:=List.mem_filter.mp (List.mem_reverse.mp hx);exact⟨this.2,ok x this.1⟩
 ·rw[List.length_reverse];(exact nl1 len rfl)
 ·obtain⟨kp,q⟩:=q
  cases e:lc d [] (L.filter (·.r.o)).reverse with
  |none=>
   rw[e]at q;obtain rfl:fl= .nx:=q
   exact Nx.nx<|gF0<|gA2<| .i ⟨kp,rfl⟩
  |some x=>
   rw[e]at q;obtain⟨k,rfl,l,h⟩:=q;exact Op.i ⟨kp,k,rfl,l,h⟩
noncomputable def bad(v:V):Bool:=isO v||isX v
noncomputable def hO5{κ β:Type}[DecidableEq κ](n:κ):List (κ×β)->List (κ×β)
 | []=> []
 |y::r=>if n=y.1 then r else y::hO5 n r
noncomputable def gF5(d:Tb)(n:Int):Tb:=match gC2 n d with
 |some y=>if bad y.2=true then hO5 n d else d
 |none=>d
theorem jH4{n:Int}:∀ {d:Tb},hO8 (.int n) (d.map λy=> .int y.1) (d.map λy=>eT y.2)=((hO5 n d).map λy=> .int y.1,(hO5 n d).map λy=>eT y.2)
 | []=>rfl
 |y::r=>by
  show(if gB1 (.int n) (.int y.1)=true then _ else(_,_))=((if n=y.1 then _ else _:Tb).map _,(if n=y.1 then _ else _:Tb).map _);rw[iE1,jH4]
  by_cases q:n=y.1
  ·rw[if_pos (dT q),if_pos q]
  ·rw[if_neg (by rw[decide_eq_false q];nofun),if_neg q];rfl
theorem iS0{n:Int}{y:Int×V}:∀ {d:Tb},gC2 n d=some y->d.any (λy=>decide (n=y.1))=true
 | [],h=>by cases h
 |x::r,h=>by
  have h:(if n=x.1 then some x.2 else gC2 n r)=some y:=h;show(decide (n=x.1)||r.any λy=>decide (n=y.1))=true
  by_cases q:n=x.1
  ·rw[dT q];rfl
  ·rw[if_neg q]at h;rw[iS0 h,Bool.or_true]
theorem kM8{S:St}{k:Nat}{l r:List V}(e:S.h k=some (.dct l r)):iT0 S .pop1 (.loc k)=true:=by show(getD S (.loc k)).isSome=true;rw[gQ5 e];rfl
theorem kM6{S:St}{k:Nat}{d:Tb}{n:Int}{y:Int×V}{Q:QP}(e:S.h k=some (tbO d))(a:gC2 n d=some y)(h:Q (eT y) (S.upd k (tbO (hO5 n d)))):W (callBM S .pop1 (.loc k) [.int n]) Q:=by refine⟨_,_,?_,h⟩;show((iC9 S k).bind λp=>if gA8 (.int n) p.1 then(gK2 (.int n) p.1 p.2).bind λv=>some (v,S.upd k (.dct (hO8 (.int n) p.1 p.2).1 (hO8 (.int n) p.1 p.2).2))else none)=_;refine bk (a:=(d.map λy=> .int y.1,d.map λy=>eT y.2)) (bk e rfl) ?_;show(if gA8 (.int n) (d.map λy=>V.int y.1)=true then(gK2 (.int n) (d.map λy=> .int y.1) (d.map λy=>eT y.2)).bind _ else none)=_;rw[if_pos gY9,gN6 (ek:= .int) (eb:=eT) iE1,a,jH4];rfl
theorem hU3{S:St}{k:Nat}{d:Tb}{Q:QP}(e:S.h k=some (tbO d))(n:d.length<64)(h:Q (.loc S.n) (S.new (.lst ((gA5 (d.map (·.1))).map .int)))):W (callB S .sorted [.loc k]) Q:=by refine⟨_,_,?_,h⟩;show((match gD4 S (.loc k)with|some l=>gK5 l|none=>(getD S (.loc k)).bind λp=>if p.1.all gC5 then gK5 p.1 else gU2 p.1).bind λl=>some (iS8 S l))=_;rw[show gD4 S (.loc k)=none by show(S.h k).bind iW7=none;rw[e];rfl,gQ5 e];show(if(d.map λy=>V.int y.1).all gC5=true then gK5 (d.map λy=> .int y.1)else _).bind _=_;rw[if_pos (show(d.map λy=>V.int y.1).all gC5=true from gY9 (n:=0)),show(d.map λy=>V.int y.1)=(d.map (·.1)).map .int by rw[List.map_map];rfl];show((gQ3 ((d.map (·.1)).map .int)).bind _).bind _=_;rw[hR0];show(if(d.map (·.1)).length<64 then _ else none).bind _=_;rw[if_pos (by rw[List.length_map];exact n)];rfl
theorem hN6{f sh t j:Nat}{d:Tb}{S:St}{Q:QP}(hs:S.h sh=some (.ins 6 [37,19] [.loc t,.loc j]))(ht:S.h t=some (tbO d))(n:d.length<64)(h:Q (.loc S.n) (S.new (.lst ((gA5 (d.map (·.1))).map .int)))):W (gA4 prog (f+10) 65 [.loc sh] S) Q:=gB8 (vs:=[.loc sh]) rfl rfl<|gF0<|gG3<|gA0<|gV8 rfl hs rfl<|gJ2 ht<|gA1<|hU3 ht n<| .i h
structure DI(sh t j:Nat)(J:KL)(Sz:St)(d:Tb)(m:Lo)(S:St):Prop where
 e:m 36=some (.loc sh)
 hs:S.h sh=some (.ins 6 [37,19] [.loc t,.loc j])
 ht:S.h t=some (tbO d)
 hj:S.h j=some (jO J)
 kp:Kp [t] Sz S
theorem DI.keep{sh t j:Nat}{J:KL}{Sz S S':St}{d:Tb}{m m':Lo}(I:DI sh t j J Sz d m S)(k:Kp [] S S')(e:m' 36=m 36):DI sh t j J Sz d m' S':=⟨e.trans I.e,k.z I.hs,k.z I.ht,k.z I.hj,I.kp.trans k.nil⟩
theorem kP0{f sh t j:Nat}{d:Tb}{J:KL}{S:St}(w:Wf S)(ne:sh≠t/\sh≠j/\t≠j)(hs:S.h sh=some (.ins 6 [37,19] [.loc t,.loc j]))(ht:S.h t=some (tbO d))(hj:S.h j=some (jO J))(hd:d.length<60)
  (H:∀pre n post,gA5 (d.map (·.1))=pre++n::post->∃y,gC2 n (pre.foldl gF5 d)=some y/\y.2∈vals):
  W (gA4 prog (f+200) 16 [.loc sh] S) λu S'=>S'.h sh=some (.ins 6 [37,19] [.loc t,.loc j])/\S'.h t=some (tbO ((gA5 (d.map (·.1))).foldl gF5 d))/\S'.h j=some (jO J)/\Kp [t] S S':=by
 have k1:Kp [t] S (S.new (.lst ((gA5 (d.map (·.1))).map .int))):= .new w;have n1:S.n≠sh:=(Wf.ne w hs).symm;have n2:S.n≠t:=(Wf.ne w ht).symm;have n3:S.n≠j:=(Wf.ne w hj).symm;have I0:DI sh t j J S d (Lo.sets (λδ=>none) [36] [.loc sh]) ((S.new (.lst ((gA5 (d.map (·.1))).map .int))).upd S.n (.frz (.lst ((gA5 (d.map (·.1))).map .int)))):=⟨rfl,gB9 n1.symm (gH3 w hs),gB9 n2.symm (gH3 w ht),gB9 n3.symm (gH3 w hj),k1.up w (Nat.le_refl _) gA6⟩
 refine gB8 (vs:=[.loc sh]) rfl rfl<|hS4<|hB5<|gH8<|gR8 rfl hs<| .e (gT0 hs) ⟨nofun,.i<|gA1<|hN6 hs ht (by(exact Nat.le_trans hd (Nat.le_add_left 60 4)))<|iK6 gA6 ?_⟩;generalize (S.new (.lst ((gA5 (d.map (·.1))).map .int))).upd S.n (.frz (.lst ((gA5 (d.map (·.1))).map .int)))=S1 at I0;refine(gL6 (enc:= .int) (K:=100) (full:=gA5 (d.map (·.1))) (I:=λpre m S'=>DI sh t j J S (pre.foldl gF5 d) m S') (λpre n post hf f m S' I=> ?_) _ [] rfl I0 _ ?_).imp λfl m' S' q=> ?_
 ·refine⟨_,rfl,?_⟩;refine e12 (H pre n post hf) λy hy hv=> ?_;have hk:=gO1 (ma hv);have sn:(pre++ [n]).foldl gF5 d=if bad y.2=true then hO5 n (pre.foldl gF5 d)else pre.foldl gF5 d:=by rw[List.foldl_append];show(match gC2 n (pre.foldl gF5 d)with|some y=>if bad y.2=true then hO5 n (pre.foldl gF5 d)else pre.foldl gF5 d|none=>pre.foldl gF5 d)=_;rw[hy]
  rw[sn];have e7:((m.set 7 (.int n)).set 15 y.2) 7=some (.int n):=rfl;have e15:((m.set 7 (.int n)).set 15 y.2) 15=some y.2:=rfl;have I1:=I.keep (m':=(m.set 7 (.int n)).set 15 y.2) (.refl I.kp.wf) rfl;have gy:hB1 S' (.loc t) (.int n)=some (eT y):=(iM2 I.ht).trans (by rw[hy];rfl);refine gC0<|gE6<|gE6<|gV8 (show(m.set 7 (.int n)) 36=_ from I.e) I.hs rfl<|gJ2 I.ht<|gF1 rfl rfl<| .e gy<|m_v rfl<|gA2<| .i<|m_v hk ?_;show X _ _;generalize (m.set 7 (.int n)).set 15 y.2=m1 at e7 e15 I1;clear I;have sh1:Sh sh t j S':=⟨I1.hs,⟨_,I1.ht,(λδ=>gH0 rfl)⟩,⟨_,I1.hj,(λδ=>gH0 rfl)⟩,ne⟩
  have drop:∀ {f:Nat}{S2:St},Kp [] S' S2->bad y.2=true->X (exB prog (f+50) [.ex (.callM (.var 36) 45 [.var 7])] m1 S2) (λfl m' S'=>fl= .nx/\DI sh t j J S (if bad y.2=true then hO5 n (pre.foldl gF5 d)else pre.foldl gF5 d) m' S'):=λk2 hb=>by have I2:=I1.keep (m':=m1) k2 rfl;rw[if_pos hb];refine hI8<|gH8<|gR8 I2.e I2.hs<| .e (gT0 I2.hs) ⟨nofun,.i<|gN0 e7 rfl<|gA1 ?_⟩;refine gB8 (vs:=[.loc sh,.int n]) rfl rfl<|gB6<|gC7<|gF1 rfl rfl<|gV8 rfl I2.hs rfl<|gJ2 I2.ht<| .e (kY6 I2.ht gY9) ?_;rw[kP3,iS0 hy];refine If.t<|hI8<|gC3<|gV8 rfl I2.hs rfl<|gJ2 I2.ht ⟨kM8 I2.ht,gN0 rfl rfl<|gA1<|kM6 I2.ht hy<|gK9<|gB0<| .i<|gB0 ⟨rfl,I2.e,gB9 ne.1 I2.hs,gC9,gB9 ne.2.2.symm I2.hj,?_⟩⟩;exact I2.kp.trans (.upd I2.kp.wf I2.ht)
  refine gB6<|kP9<|gA3<|hI6 I1.e I1.hs<|gN0 e15 hk<|gA1<|(hV0 (vv hv).2.1 sh1 I1.kp.wf).k1 λS2 k2=> ?_;refine If.s (λhO=>If.t<|(drop k2 (by unfold bad;rw[hO];rfl)).imp λfl m' S' q=>by obtain⟨rfl,q⟩:=q;exact Nx.nx<|gB0 ⟨rfl,q⟩) λhO=> ?_;have I2:=I1.keep (m':=m1) k2 rfl;refine jI6<|gA3<|hI6 I2.e I2.hs<|gN0 e15 hk<|gA1<|(hV0 (vv hv).1 (sh1.keep k2) k2.wf).k1 λS3 k3=> ?_;refine If.s (λhX=>(drop (k2.trans k3) (by unfold bad;rw[hX,Bool.or_true])).imp λfl m' S' q=>by obtain⟨rfl,q⟩:=q;exact Nx.nx<|gB0 ⟨rfl,q⟩) λhX=>gK9<|gB0 ⟨rfl,?_⟩;rw[if_neg (by unfold bad;rw[hO,hX];nofun)];exact I1.keep (k2.trans k3) rfl
 ·rw[gD2,List.length_map];(exact nl1 (Nat.le_of_lt hd) rfl)
 ·obtain⟨rfl,I⟩:=q;exact Nx.nx<|gB0<| .i ⟨I.hs,I.ht,I.hj,I.kp⟩
noncomputable def jl(b:Bool)(i:Option Int)(r:Option (Int×Int)):KL:=match b with
 |true=>(i.toList.map λi=>(iH0,V.int i))++r.toList.map λr=>(gB5,rf r.1 r.2)
 |false=>(r.toList.map λr=>(gB5,rf r.1 r.2))++i.toList.map λi=>(iH0,V.int i)
noncomputable def rts:List (Option (Int×Int)):=none::([1,2,3].flatMap λn=> [some (n,0),some (n,1)])
noncomputable def JS:List KL:=[true,false].flatMap λb=>(on (gK8 4)).flatMap λi=>rts.map (jl b i)
noncomputable def lF5(J:KL):Option (V×St):=gA4 Tz 80 19 [.loc 0] (Sof [some (jO J)])
noncomputable def tJ(J:KL):V:=match lF5 J with|some q=>q.1|none=> .none
noncomputable def okJ(J:KL):Bool:=pls (J.map λy=>y.2)&&(lF5 J).any λq=>pl q.1&&(same 60 q.1 q.1&&(kOf q.1).isNone)
theorem jZ7:JS.all okJ=true:=by decide+kernel
theorem iQ2{f j:Nat}{J:KL}{S:St}(h:J∈JS)(w:Wf S)(hj:S.h j=some (jO J)):W (gA4 prog (f+80) 19 [.loc j] S) λu S'=>u=tJ J/\Kp [j] S S':=by
 refine aN (List.all_eq_true.mp jZ7 J h) λhp h1=>aY h1 λq e h2=>aN h2 λhq δ=> ?_;have hk:∀H:Hm,ths H (J.map λy=>V.str y.1)=J.map λy=> .str y.1:=λH=>by rw[gD5,List.map_map];rfl
 refine tC (D:=D0) (F:=80) (ps:=[j]) (pl:= .o (Wf.lt w hj)) (os:=[some (jO J)]) (args:=[.loc 0]) (v:=q.1) (os':=iI3 q.2) w ⟨?_,trivial⟩ rfl (by rw[show gA4 (tpl (tPr D0.td D0.fin noO)) 80 19 [.loc 0] (Sof [some (jO J)])=some q from e];rfl) λR' δ kp=>⟨?_,kp⟩
 ·rw[hj];show some (O.dct _ _)=some (O.dct (ths _ _) (ths _ _));rw[hk,gD3 hp]
 ·rw[gY4 hq];unfold tJ;rw[e]
theorem hP3{J:KL}(h:J∈JS):same 60 (tJ J) (tJ J)=true/\kOf (tJ J)=none:=aN (List.all_eq_true.mp jZ7 J h) λδ h1=>aY h1 λq e h2=>aN3 h2 λδ a b=>by unfold tJ;rw[e];exact⟨a,Option.isNone_iff_eq_none.mp b⟩
noncomputable def gU4(d:Tb)(n:Int):V:=match gC2 n d with
 |some y=> .tup [.int n,.int y.1,gG9 y.2]
 |none=> .none
noncomputable def hC6(d:Tb)(J:KL):V:= .tup [.tup ((gA5 (d.map (·.1))).map (gU4 d)),tJ J]
theorem hE8{f:Nat}{v:V}{S:St}(h:v∈vals++tras)(w:Wf S):W (gA4 prog (f+80) 19 [v] S) λu S'=>u=gG9 v/\Kp [] S S':=iQ0 (kv h).told.1 w f
theorem gM2{v:V}(h:v∈vals++tras):kOf (gG9 v)=none:=by
 have:=(kv h).told.2
 cases e:gG9 v with
 |loc k=>rw[e]at this;exact ff this
 |_=>rfl
theorem hZ1{S:St}{k:Nat}{l:List V}{Q:QP}(e:S.h k=some (.lst l))(h:Q (.tup l) S):W (callB S .tuple [.loc k]) Q:=⟨_,_,show((gD4 S (.loc k)).bind λl=>some (V.tup l,S))=_ from bk (gV5 e) rfl,h⟩
theorem jU7{f sh t j:Nat}{d:Tb}{J:KL}{S:St}(w:Wf S)(hs:S.h sh=some (.ins 6 [37,19] [.loc t,.loc j]))(ht:S.h t=some (tbO d))(hj:S.h j=some (jO J))(hd:d.length<60)(hJ:J∈JS)
  (H:∀n,n∈gA5 (d.map (·.1))->∃y,gC2 n d=some y/\y.2∈vals):
  W (gA4 prog (f+200) 67 [.loc sh] S) λu S'=>u=hC6 d J/\Kp [j] S S':=by
 have k1:Kp [] S (S.new (.lst ((gA5 (d.map (·.1))).map .int))):= .new w;have k2:=k1.up (o:= .frz (.lst ((gA5 (d.map (·.1))).map .int))) w (Nat.le_refl _) gA6;refine gB8 (vs:=[.loc sh]) rfl rfl<|gC0<|gG3<|gA0<|gE8<|iC5<|gH8<|gR8 rfl hs<| .e (gT0 hs) ⟨nofun,.i<|gA1<|hN6 hs ht (by(exact Nat.le_trans hd (Nat.le_add_left 60 4)))<|iK6 gA6 ?_⟩;generalize (S.new (.lst ((gA5 (d.map (·.1))).map .int))).upd S.n (.frz (.lst ((gA5 (d.map (·.1))).map .int)))=S1 at k2;have e80:((Lo.sets (λδ=>none) [80] [.loc sh]).del [7]) 80=some (.loc sh):=rfl;show W _ _;generalize (Lo.sets (λδ=>none) [80] [.loc sh]).del [7]=m at e80;refine(gE3 (K:=120) (enc:= .int) (u:=λδ=>true) (e:=gU4 d) (J:=λS'=>Kp [] S S') (gA5 (d.map (·.1))) [] ?_ (λn hn f S' kp=> ?_) k2 _ ?_).imp λz S3 q=> ?_
 ·rw[gD2,List.length_map];show 0+_<1000;(exact hO6 (nl2 (Nat.le_of_lt hd) rfl))
 ·refine e12 (H n hn) λy hy hv=> ?_;have hs:=kp.z hs;have ht:=kp.z ht;have hk:=gO1 (ma hv);have gy:hB1 S' (.loc t) (.int n)=some (eT y):=(iM2 ht).trans (by rw[hy];rfl);refine⟨_,rfl,gO2 ⟨rfl,nofun,λδ=> ?_⟩⟩;have e7:(m.set 7 (.int n)) 7=some (.int n):=rfl;have e80:(m.set 7 (.int n)) 80=some (.loc sh):=e80;refine gJ7<|gN0 e7 rfl<|gA0<|gE6<|gE6<|gV8 e80 hs rfl<|gJ2 ht<|gF1 e7 rfl<| .e gy<|m_v rfl<|gA2<| .i<|m_v rfl<|gA0 ?_;refine gA3<|gA0<|gE6<|gE6<|gV8 e80 hs rfl<|gJ2 ht<|gF1 e7 rfl<| .e gy<|m_v rfl<|gA2<| .i<|m_v hk<|gA1<|(hE8 (ma hv) kp.wf).k1 λS4 k4=> ?_;refine gA1<|gI4 rfl<|gI4 rfl<|gD1<|z_v (gM2 (ma hv))<|gC6 ⟨?_,rfl,kp.trans k4⟩;unfold gU4;rw[hy]
 ·rw[gD2,List.length_map];(exact nl1 (Nat.le_of_lt hd) rfl)
 ·obtain⟨rfl,k3⟩:=q;rw[List.nil_append,List.filter_eq_self.mpr λδ δ=>rfl];have k4:=k3.nw (o:= .lst ((gA5 (d.map (·.1))).map (gU4 d)));have h4:(S3.new (.lst ((gA5 (d.map (·.1))).map (gU4 d)))).h S3.n=some (.lst ((gA5 (d.map (·.1))).map (gU4 d))):=gA6;refine gA1<|hZ1 h4<|gF0<|gJ7<|gN0 rfl rfl<|gA0<|gA3<|gA0<|gV8 rfl (k4.z hs) rfl<|gJ2 (k4.z hj)<|gA1<|(iQ2 hJ k4.wf (k4.z hj)).imp λu S5 q=> ?_;have kj:=(hP3 hJ).2;unfold hC6;rw[←q.1]at kj⊢;exact gA1<|gI4 rfl<|gD1<|z_v kj<|gC6<| .i ⟨rfl,k4.nil.trans q.2⟩
noncomputable def jn(L:List LR):KL:=((L.filter λx=>x.r.has).map λx=>dk x.r).foldl (gH4 gE9) []
noncomputable def tbL(L:List LR):Tb:=tb (L.map (·.r))
noncomputable def jF(L:List LR):KL:=if rb (tbL L) (jn L)=true then(match lc (tbL L) [] (L.filter (·.r.o)).reverse with
 |none=>jn L
 |some x=>gJ6 gB5 (rf x.r.n x.r.g) (jn L))else jn L
noncomputable def dF(d:Tb):Tb:=(gA5 (d.map (·.1))).foldl gF5 d
structure Pla(L:List LR):Prop where
 ok:∀x,x∈L->x.r.ok
 len:L.length<=5
 inc:L.Pairwise λx y=>x.b<y.b
 dv:Dv (tbL L)
 jv:Jv (jn L)
 js:jF L∈JS
 dr:∀pre n post,gA5 ((tbL L).map (·.1))=pre++n::post->∃y,gC2 n (pre.foldl gF5 (tbL L))=some y/\y.2∈vals
 to:∀n,n∈gA5 ((dF (tbL L)).map (·.1))->∃y,gC2 n (dF (tbL L))=some y/\y.2∈vals
theorem iA1{n:Int}:∀ {d:Tb},(hO5 n d).length<=d.length
 | []=>Nat.le_refl _
 |y::r=>by
  show(if n=y.1 then r else y::hO5 n r).length<=r.length+1
  by_cases q:n=y.1
  ·rw[if_pos q];exact Nat.le_succ _
  ·rw[if_neg q];exact Nat.succ_le_succ iA1
theorem iO2{d:Tb}{n:Int}:(gF5 d n).length<=d.length:=by
 unfold gF5
 cases gC2 n d with
 |none=>exact Nat.le_refl _
 |some y=>
  show(if bad y.2=true then _ else _:Tb).length<=_
  by_cases q:bad y.2=true
  ·rw[if_pos q];exact iA1
  ·rw[if_neg q];exact Nat.le_refl _
theorem hR8:∀(l:List Int) (d:Tb),(l.foldl gF5 d).length<=d.length
 | [],_=>Nat.le_refl _
 |n::l,d=>Nat.le_trans (hR8 l (gF5 d n)) iO2
theorem hP2(L:List LR):(tbL L).length<=L.length:=by have:=hJ6 (L.map (·.r)) [];rw[List.length_map]at this;exact Nat.le_trans this (Nat.le_of_eq (Nat.zero_add _))
theorem kG7(L:List LR)(ok:∀x,x∈L->x.r.ok):(jn L).length<=5*L.length:=by
 have:∀(ds:List KL) (J:KL),(∀l,l∈ds->l.length<=5)->(ds.foldl (gH4 gE9) J).length<=J.length+5*ds.length:=λds=>by
  induction ds with
  |nil=>intro J _;exact Nat.le_refl _
  |cons l ds ih=>
   intro J h;have a:=ih (gH4 gE9 J l) λx hx=>h x (mO _ hx);have b:=gW0 (bad:=gE9) (J:=J) (l:=l);have c:=h l (mS);show(ds.foldl (gH4 gE9) (gH4 gE9 J l)).length<=J.length+5*(ds.length+1);exact lG0 a b c
 have h:=this ((L.filter λx=>x.r.has).map λx=>dk x.r) [] λl hl=>by obtain⟨x,hx,rfl⟩:=List.mem_map.mp hl;refine e02 (List.mem_filter.mp hx) λa b=> ?_;exact((ok x a).hd b).n
 rw[List.length_map]at h;have:=List.length_filter_le (λx:LR=>x.r.has) L;unfold jn;exact Nat.le_trans h (Nat.le_trans (Nat.le_of_eq (Nat.zero_add _)) (Nat.mul_le_mul_left 5 this))
theorem jP4{f t j:Nat}{S:St}{o o':O}(w:Wf S)(ht:S.h t=some o)(hj:S.h j=some o')(n:∀v,o≠ .frz v)(n':∀v,o'≠ .frz v):mkk S 6 [37,19] [.loc t,.loc j] (gA4 prog (f+12) 61 [.loc S.n,.loc t,.loc j] (S.new (.ins 6 [] []))):=by
 have nt:∀ {S:St}{k:Nat}{o:O},S.h k=some o->(∀v,o≠ .frz v)->norm S (.loc k)= .loc k:=λe n=>by rw[iC1,e];rename_i o;cases o<;>first|rfl|exact absurd rfl (n _)
 have h:(S.new (.ins 6 [] [])).h S.n=_:=gA6;have nt1:=nt (gH3 (o:= .ins 6 [] []) w ht) n;have nj1:=nt (gH3 (o:= .ins 6 [] []) w hj) n';have h2:((S.new (.ins 6 [] [])).upd S.n (.ins 6 [37] [.loc t])).h S.n=_:=gC9;have nj2:=nt (gB9 (o:= .ins 6 [37] [.loc t]) (Wf.ne w hj) (gH3 (o:= .ins 6 [] []) w hj)) n';refine gB8 (vs:=[.loc S.n,.loc t,.loc j]) rfl rfl<|gM0<|hB0<|gC7<|gA7 rfl ⟨_,nt1,gA2<| .i<|If.f<|gA7 rfl ⟨_,nt1,gR8 rfl h<| .i<| .e (gG7 h) ⟨rfl,?_⟩⟩⟩;refine gM0<|hB0<|gC7<|gA7 rfl ⟨_,nj2,gA2<| .i<|If.f<|gA7 rfl ⟨_,nj2,gR8 rfl h2<| .i<| .e (gG7 h2) ⟨rfl,gB0<| .i ⟨rfl,?_⟩⟩⟩⟩;show _=_;rw[gY6];exact gY6
theorem iM5{S S':St}{u:V}{p:List V×List V}(k:Kp [] S S')(h:getD S u=some p):getD S' u=some p:=gG8 (G:=λu=>getD S' u=some p) h rfl λj e=>gQ5 (k.z e)
theorem iZ2{S:St}{u:V}{p:List V×List V}{k:Nat}(h:getD S u=some p)(e:S.h k=some (.dct [] [])):gK3 S .eq u (.loc k)=some p.1.isEmpty:=by
 refine gG8 (G:=λu=>gK3 S .eq u (.loc k)=some p.1.isEmpty) h ?_ λj e'=> ?_
 ·show eqD S (V.dct p.1 p.2) (.loc k)=_;exact bk (a:=p) rfl (bk (gQ5 e) rfl)
 ·show(match gD4 S (.loc j)with|some x=>_|none=>eqD S (.loc j) (.loc k))=_;rw[show gD4 S (.loc j)=none by show(S.h j).bind iW7=none;rw[e'];rfl];show(getD S (.loc j)).bind _=_;rw[gQ5 e'];show(getD S (.loc k)).bind _=_;rw[gQ5 e];rfl
theorem jX1{f k:Nat}{n g:Int}{S:St}{Q:QP}(e:S.h k=some (.ins 2 [7,8] [.int n,.int g]))(h:Q (rf n g) (S.upd k (.frz (rf n g)))):W (frz (f+6) (.loc k) S) Q:=iE2 e rfl<|gI4 rfl<|gI4 rfl<|gC6<| .e (gG7 e) h
theorem kO9{f sh0 t0 j0 wk lp lt:Nat}{L:List LR}{S:St}(w:Wf S)(s0:Sh sh0 t0 j0 S)(hw:S.h wk=some (.ins 5 [11,17] [.loc lp,.loc lt]))(hp:S.h lp=some (.frz (.lst (pcs L))))
  (ht:S.h lt=some (.lst (trs L))\/S.h lt=some (.frz (.lst (trs L))))(P:Pla L):
  W (gA4 prog (f+330) 8 [.loc sh0,.loc wk,.lst (pcs L)] S) λu S'=>∃sh t j,u= .loc sh/\S'.h sh=some (.ins 6 [37,19] [.loc t,.loc j])/\S'.h t=some (tbO (dF (tbL L)))/\S'.h j=some (jO (jF L))/\Kp [] S S'/\S.n<=j:=by
 have tl:=hP2 L;have jl:=kG7 L P.ok;have Ll:=P.len;have jlt:(jn L).length<1000000:=by(exact kQ7 jl Ll rfl)
 refine gB8 (vs:=[.loc sh0,.loc wk,.lst (pcs L)]) rfl rfl<|gC0<|gH9 rfl<|gA0<|gA3<|gN0 rfl rfl<|gA1<|(iQ3 w .L gC4 P.ok P.len).imp λu S1 q=> ?_;obtain⟨t,rfl,lt1,h1,k1,_⟩:=q;refine gA0<|gA3<|gA0<|gA3<|gA0<|gA7 rfl<|iJ0 (s0.keep k1).hs<|hI6 rfl (k1.z hw)<|gA1<|(iD3 k1.wf (s0.keep k1) (k1.z hw) (k1.z hp) (ht.imp k1.z k1.z) P.ok P.len P.inc).imp λu S2 q=> ?_;obtain⟨kl,rfl,l2,h2,k2⟩:=q;have h1':=k2.z h1;have tk:t≠kl:=Nat.ne_of_lt (Nat.lt_of_lt_of_le (Wf.lt k1.wf h1) l2);refine gA1<|(jB0 (ds:=(L.filter λx=>x.r.has).map λx=>dk x.r) (T:=[kl]) k2.wf (.l (by rw[List.map_map];exact h2)) (λt h=>(List.mem_singleton.mp h)▸Wf.lt k2.wf h2) (λl hl=> ?_) (by rw[List.length_map];exact Nat.le_trans (List.length_filter_le ..) Ll)).imp λu S3 q=> ?_
 ·obtain⟨x,hx,rfl⟩:=List.mem_map.mp hl;refine e02 (List.mem_filter.mp hx) λa b=> ?_;exact(P.ok x a).hd b
 obtain⟨rfl,h3,k3⟩:=q;have ht3:=k3.one tk h1';have k4:=((k1.trans k2).fr w (Nat.le_trans k1.le l2) k3).nw (o:= .ins 6 [37,19] [.loc t,.loc S2.n]);refine gA1<|kk (jP4 k3.wf ht3 h3 (λδ=>gH0 rfl) (λδ=>gH0 rfl)) ?_;have h4:(S3.new (.ins 6 [37,19] [.loc t,.loc S2.n])).h S3.n=_:=gA6;have ht4:=gH3 (o:= .ins 6 [37,19] [.loc t,.loc S2.n]) k3.wf ht3;have hj4:=gH3 (o:= .ins 6 [37,19] [.loc t,.loc S2.n]) k3.wf h3;have n1:S3.n≠t:=(Wf.ne k3.wf ht3).symm;have n2:S3.n≠S2.n:=(Wf.ne k3.wf h3).symm;have n3:t≠S2.n:=Wf.ne k2.wf h1';have lj:S.n<=S2.n:=Nat.le_trans k1.le k2.le;have lsh:S.n<=S3.n:=Nat.le_trans lj k3.le;generalize S3.new (.ins 6 [37,19] [.loc t,.loc S2.n])=S4 at h4 ht4 hj4 k4⊢;show X (exB prog _ _ (Lo.set _ 36 (.loc S3.n)) S4) _;generalize S2.n=j at h4 hj4 n2 n3 lj;generalize S3.n=sh at h4 n1 n2 lsh;have lt0:=lt1;clear h1' h1 h2 h3 ht3 k1 k2 k3;have tail:∀ {f:Nat}{m:Lo}{S':St},m 36=some (.loc sh)->S'.h sh=some (.ins 6 [37,19] [.loc t,.loc j])->S'.h t=some (tbO (tbL L))->S'.h j=some (jO (jF L))->Kp [] S S'->X (exB prog (f+250) [.ex (.callF 16 [.var 36]),.ret (.var 36)] m S') λfl δ S'=>Op (Fl.out fl) λu=>∃sh t j,u= .loc sh/\S'.h sh=some (.ins 6 [37,19] [.loc t,.loc j])/\S'.h t=some (tbO (dF (tbL L)))/\S'.h j=some (jO (jF L))/\Kp [] S S'/\S.n<=j:=λe a b c k=>by refine hI8<|iS5 e a<|(kP0 k.wf ⟨n1,n2,n3⟩ a b c (by(exact nl2 (Nat.le_trans tl Ll) rfl)) P.dr).imp λu S5 q=> ?_;refine e04 q λh5 h6 h7 k5=> ?_;exact gF0<|gR8 e h5<| .i ⟨sh,t,j,rfl,h5,h6,h7,k.fr w lt0 k5,lj⟩
 refine gB6<|gC7<|gH8<|gR8 rfl h4<| .e (gT0 h4) ⟨nofun,.i<|gA1<|(kO2 k4.wf h4 ht4 hj4 P.dv P.jv).imp λu S5 q=> ?_⟩;obtain⟨k5,ks,vs,gu,eb,_⟩:=q;have k6:=(Kp.refl k5.wf).nw (T:=[]) (o:= .dct [] []);refine gW4<|gA1<|gC6 ⟨rfl,.e (iZ2 (iM5 k6 gu) gA6) ?_⟩;have k7:=k5.trans k6;have h7:=k7.z h4;have ht7:=k7.z ht4;have hj7:=k7.z hj4;have k8:=k4.trans k7;show If (.bool ks.isEmpty) (X (exB prog _ _ _ (S5.new (.dct [] []))) _) (X (exB prog _ _ _ (S5.new (.dct [] []))) _);generalize S5.new (.dct [] [])=S6 at k7 h7 ht7 hj7 k8;rw[show ks.isEmpty=rb (tbL L) (jn L)from eb];refine If.s (λhb=> ?_) λhb=>gK9<|tail rfl h7 ht7 (by unfold jF;rw[if_neg (by rw[hb];nofun)];exact hj7) k8;have eF:jF L=(match lc (tbL L) [] (L.filter (·.r.o)).reverse with|none=>jn L|some x=>gJ6 gB5 (rf x.r.n x.r.g) (jn L)):=by unfold jF;rw[if_pos hb]
 refine gC0<|gA3<|hI6 rfl h7<|gN0 rfl rfl<|gA1<|(kO7 (d:=tbL L) k8.wf ⟨h7,⟨_,ht7,nofun⟩,⟨_,hj7,nofun⟩,n1,n2,n3⟩ ht7 P.ok P.len).imp λu S7 q=> ?_;refine e02 q λk9 q=> ?_;have h9:=k9.z h7;have ht9:=k9.z ht7;have hj9:=k9.z hj7
 cases e:lc (tbL L) [] (L.filter (·.r.o)).reverse with
 |none=>
  rw[e]at q eF;obtain rfl:u= .none:=q
  exact gB6<|hA8 rfl rfl rfl<|If.f<|gK9<|gK9<|tail rfl h9 ht9 (by rw[eF];exact hj9) (k8.trans k9)
 |some x=>
  rw[e]at q eF;obtain⟨k,rfl,lk,hk⟩:=q;have nk:j≠k:=Nat.ne_of_lt (Nat.lt_of_lt_of_le (Wf.lt k8.wf hj7) lk);have tk:t≠k:=Nat.ne_of_lt (Nat.lt_of_lt_of_le (Wf.lt k8.wf ht7) lk);have sk:sh≠k:=Nat.ne_of_lt (Nat.lt_of_lt_of_le (Wf.lt k8.wf h7) lk);have ka:=(k8.trans k9).up (o:= .frz (rf x.r.n x.r.g)) w (Nat.le_trans k8.le lk) hk;have kb:=ka.up (o:=jO (gJ6 gB5 (rf x.r.n x.r.g) (jn L))) w lj (gB9 nk hj9);refine gB6<|gC7<|gR8 rfl hk<|gA2<| .i<|If.t<|gJ4<|gR8 rfl hk<|gV8 rfl h9 rfl<|gJ2 hj9<| .i<|gA2<|jX1 hk<| .e (jL3 (gB9 nk hj9) jlt)<|gK9<|gK9<|tail rfl (gB9 n2 (gB9 sk h9)) (gB9 n3 (gB9 tk ht9)) (by rw[eF];exact gC9) kb
theorem jH8{f x wk lp lt:Nat}{L:List LR}{m:Lo}{S:St}(w:Wf S)(e:m x=some (.loc wk))(hw:S.h wk=some (.ins 5 [11,17] [.loc lp,.loc lt]))(hp:S.h lp=some (.lst (pcs L))\/S.h lp=some (.frz (.lst (pcs L))))
  (ht:S.h lt=some (.lst (trs L))\/S.h lt=some (.frz (.lst (trs L))))(nl:lp≠lt)(P:Pla L):
  W (evE prog (f+400) (.callM (.callF 8 [(.callC 6 [(.callF 9 [(.attr (.var x) 11)])]),.var x,(.attr (.var x) 11)]) 12 []) m S) λu S'=>u=hC6 (dF (tbL L)) (jF L)/\Kp [lp] S S':=by
 have lpn:lp<S.n:=hp.elim (Wf.lt w) (Wf.lt w);have nw:wk≠lp:=λz=>by subst z;rcases hp with h|h<;>(rw[hw]at h;cases h)
 obtain⟨u,T,hu,it,hT,hz,sub⟩:∃u T,norm S (.loc lp)=u/\Its T S u (pcs L)/\(∀t,t∈T->t<S.n)/\(∀S1:St,Kp T S S1->(∀t,t∈T->S1.h t=some (.frz (.lst (pcs L))))->S1.h lp=some (.frz (.lst (pcs L))))/\∀t,t∈T->t∈ [lp]:=by
  rcases hp with h|h
  ·exact⟨_,[lp],iW4 h,.l h,λt q=>(List.mem_singleton.mp q)▸lpn,λS1 δ q=>q lp (List.mem_singleton.mpr rfl),λδ h=>h⟩
  ·exact⟨_,[],iW5 h,.L,gC4,λS1 k δ=>k.z h,gC4⟩
 refine gH8<|gA3<|gA0<|gH9 rfl<|gA0<|gA3<|gA0<|gT7<|gR8 e hw<| .e (gT0 hw)<| .i ⟨u,hu,gA1<|(iQ3 w it hT P.ok P.len).imp λv S1 q=> ?_⟩;obtain⟨t,rfl,lt1,h1,k1,q⟩:=q;have h2:=hz S1 k1 q;have k1:=k1.sub sub;have ht1:S1.h lt=some (.lst (trs L))\/S1.h lt=some (.frz (.lst (trs L))):=ht.imp (k1.one nl.symm) (k1.one nl.symm);have hw1:=k1.one nw hw;have hn1:(S1.new (.ins 6 [] [])).h S1.n=_:=gA6;have ht1':=gH3 (o:= .ins 6 [] []) k1.wf h1;refine gA1<|tC (D:=D0) (F:=60) (ps:=[S1.n,t]) (pl:= .two (Nat.lt_succ_self _) (Nat.lt_succ_of_lt (Wf.lt k1.wf h1)) (Wf.ne k1.wf h1).symm) (os:=[some (.ins 6 [] []),none]) (args:=[.loc 0,.loc 1]) (v:= .none) (os':=[some (.ins 6 [37,19] [.loc 1,.loc 2]),none,some (.dct [] [])]) (Wf.new k1.wf) ⟨hn1,⟨_,ht1',(λδ=>gH0 rfl)⟩,trivial⟩ rfl (by kernel_rfl) λR2 r2 k2=> ?_;have k2:Kp [S1.n] (S1.new (.ins 6 [] [])) R2:=k2;have s2:R2.h S1.n=some (.ins 6 [37,19] [.loc t,.loc (S1.n+1)]):=r2 0 _ rfl;have j2:R2.h (S1.n+1)=some (.dct [] []):=r2 2 _ rfl;have k3:Kp [lp] S R2:=k1.nw.fr w k1.le k2;have k3':Kp [] S1 R2:=(Kp.new (T:=[]) (o:= .ins 6 [] []) k1.wf).fr k1.wf (Nat.le_refl _) k2;have sh:Sh S1.n t (S1.n+1) R2:=⟨s2,⟨_,k3'.z h1,(λδ=>gH0 rfl)⟩,⟨_,j2,(λδ=>gH0 rfl)⟩,(Wf.ne k1.wf h1).symm,Nat.ne_of_lt (Nat.lt_succ_self _),Nat.ne_of_lt (Nat.lt_succ_of_lt (Wf.lt k1.wf h1))⟩
 have hw2:=k3'.z hw1;have hp2:=k3'.z h2;have ht2:=ht1.imp k3'.z k3'.z;refine⟨rfl,hI6 e hw2<|gA0<|gV8 e hw2 rfl<|hK9 hp2<|gA1<|(kO9 k3.wf sh hw2 hp2 ht2 P).imp λu S4 q=> ?_⟩;obtain⟨sh',t',j',rfl,h4,ht4,hj4,k4,lj⟩:=q;refine .e (gT0 h4) ⟨nofun,.i<|gA1<|(jU7 k4.wf h4 ht4 hj4 ?_ P.js P.to).imp λu S5 q=>⟨q.1,?_⟩⟩
 ·have a:=hR8 (gA5 ((tbL L).map (·.1))) (tbL L);have b:=hP2 L;have c:=P.len;unfold dF;exact nl2 (Nat.le_trans a (Nat.le_trans b c)) rfl
 ·exact(k3.trans k4.nil).fr w (Nat.le_trans k3.le lj) q.2
noncomputable abbrev gG6:List (List Nat):=[iG9,gS1,gU3,sW,gE1]
noncomputable def kvH(r:Row):KL:=match r.o with
 |true=>(match isX r.v with|true=>gV9 (gP1 r.v)|false=> [])
 |false=>gV9 r.v
noncomputable def jd(rs:List Row):KL:=rs.foldl (λJ r=>gH4 gG6 J (kvH r)) []
theorem iK0{r:Row}(h:r.ok):Hd (kvH r):=by
 unfold kvH
 cases o:r.o with
 |false=>exact(hS9 (h.tra o).2.2).2
 |true=>
  cases x:isX r.v with
  |false=>exact⟨gC4,gC4,Nat.zero_le _⟩
  |true=>exact(kP8 (h.obj o).2.2 x).2.2.1
theorem jE6:∀(rs:List Row),(∀r,r∈rs->r.ok)->(jd rs).length<=5*rs.length:=by
 have:∀(rs:List Row) (J:KL),(∀r,r∈rs->r.ok)->(rs.foldl (λJ r=>gH4 gG6 J (kvH r)) J).length<=J.length+5*rs.length:=λrs=>by
  induction rs with
  |nil=>intro J _;exact Nat.le_refl _
  |cons r rs ih=>
   intro J h;have a:=ih (gH4 gG6 J (kvH r)) λx hx=>h x (mO _ hx);have b:=gW0 (bad:=gG6) (J:=J) (l:=kvH r);have c:=(iK0 (h r (mS))).n;show(rs.foldl _ (gH4 gG6 J (kvH r))).length<=J.length+5*(rs.length+1);exact lG0 a b c
 intro rs h;have:=this rs [] h;exact Nat.le_trans this (Nat.le_of_eq (Nat.zero_add _))
structure Du(kT kJ:Nat)(l4:V)(rs:List Row)(Sz:St)(m:Lo)(S:St):Prop where
 m4:m 4=some l4
 mT:m 27=some (.loc kT)
 mJ:m 19=some (.loc kJ)
 hT:S.h kT=some (tbO (tb rs))
 hJ:S.h kJ=some (jO (jd rs))
 kp:Kp [] Sz S
noncomputable def lO1:List MS:=match fn6.body[1]? with|some (MS.fr _ _ b)=>b|_=> []
theorem jS5{f kT kJ:Nat}{l4:V}{pre:List Row}{r:Row}{Sz S:St}{m:Lo}(w:Wf Sz)(lT:Sz.n<=kT)(lJ:Sz.n<=kJ)(ne:kT≠kJ)(I:Du kT kJ l4 pre Sz m S)(h:r.ok)(hpre:∀r,r∈pre->r.ok)(ln:pre.length<10):
  X (exB prog (f+120) lO1 (m.sets [22,7,8,15] [.str r.w,.int r.n,.int r.g,r.v]) S) λfl m' S'=>fl= .nx/\Du kT kJ l4 (pre++ [r]) Sz m' S':=by
 have hv:=h.kv;have tl:(tb pre).length<=0+pre.length:=hJ6 pre [];have jlen:=jE6 pre hpre;have sT:tb (pre++ [r])=tbF (tb pre) r:=by unfold tb;rw[List.foldl_append];rfl
 have sJ:jd (pre++ [r])=gH4 gG6 (jd pre) (kvH r):=by unfold jd;rw[List.foldl_append];rfl
 have e22:(m.sets [22,7,8,15] [.str r.w,.int r.n,.int r.g,r.v]) 22=some (.str r.w):=rfl;have e7:(m.sets [22,7,8,15] [.str r.w,.int r.n,.int r.g,r.v]) 7=some (.int r.n):=rfl;have e8:(m.sets [22,7,8,15] [.str r.w,.int r.n,.int r.g,r.v]) 8=some (.int r.g):=rfl;have e15:(m.sets [22,7,8,15] [.str r.w,.int r.n,.int r.g,r.v]) 15=some r.v:=rfl;obtain⟨e4,eT,eJ,hT,hJ,kp⟩:=I;have e4:(m.sets [22,7,8,15] [.str r.w,.int r.n,.int r.g,r.v]) 4=some l4:=e4;have eT:(m.sets [22,7,8,15] [.str r.w,.int r.n,.int r.g,r.v]) 27=some (.loc kT):=eT;have eJ:(m.sets [22,7,8,15] [.str r.w,.int r.n,.int r.g,r.v]) 19=some (.loc kJ):=eJ;generalize m.sets [22,7,8,15] [.str r.w,.int r.n,.int r.g,r.v]=m at e22 e7 e8 e15 e4 eT eJ
 cases ho:r.o with
 |false=>
  have hw:r.w=jC6:=by unfold Row.w;rw[ho]
  rw[hw]at e22;refine e02 (hS9 (h.tra ho).2.2) λhde hd=> ?_;have kj:=iK0 h;have ek:kvH r=gV9 r.v:=by unfold kvH;rw[ho]
  rw[ek]at sJ kj;have fT:tbF (tb pre) r=tb pre:=if_neg λq=>by rw[ho]at q;exact ff q.1
  refine gB6<|gO0<|hA8 e22 rfl rfl<|If.f<|If.f<|gB0<|Nx.nx ?_;refine gC0<|hB0<|gO0<|hA8 e22 rfl rfl<|If.f<|If.f<|hB0<|hA8 e22 rfl rfl<|If.t<|gA7 e15<|m_v hv ?_;refine hS4<|hB5<|gA7 rfl<|m_v hv ?_;show W (gG2 S r.v) λl S=>X (exF prog _ _ l _ (m.set 23 r.v) S) _;rw[hde];refine kR2<|(hG1 (d:=19) (hh:=23) (k:=kJ) (m:=m.set 23 (hdV (gV9 r.v))) (bad:=gG6) (l:=gV9 r.v) (J:=jd pre) (λδ δ δ=>rfl) kp.wf eJ rfl (by decide) (by decide) kj hJ (by(exact lG2 jlen ln rfl)) _ (by(exact Nat.le_trans (Nat.le_refl (Nat.succ 60)) (Nat.le_add_left (Nat.succ 60) (f+55))))).imp λfl m' S' q=> ?_;obtain⟨rfl,em,hJ',k'⟩:=q
  exact Nx.nx<|gB0 ⟨rfl,(em 4 (by decide)).trans e4,(em 27 (by decide)).trans eT,(em 19 (by decide)).trans eJ,by rw[sT,fT];exact k'.one ne hT,by rw[sJ];exact hJ',kp.fr w lJ k'⟩
 |true=>
  have hw:r.w=jI7:=by unfold Row.w;rw[ho]
  rw[hw]at e22;have hvv:=(h.obj ho).2.2
  obtain⟨S1,k1,hT1,R⟩:∃S1,Kp [kT] S S1/\S1.h kT=some (tbO (tbF (tb pre) r))/\∀ {R:List MS}{Q:Fl->Lo->St->Prop},X (exB prog (f+119) R m S1) Q->X (exB prog (f+120) (.ite (.andE [(.cmp .eq (.var 22) (.lit (.str jI7))),(.cmp .gt (.var 7) (.lit (.int 0)))]) [.asgS (.var 27) (.var 7) (.tupE [(.var 8),(.var 15)])] []::R) m S) Q:=by
   by_cases hn:0<r.n
   ·have fT:tbF (tb pre) r=gJ6 r.n (r.g,r.v) (tb pre):=if_pos ⟨ho,hn⟩;refine⟨S.upd kT (tbO (gJ6 r.n (r.g,r.v) (tb pre))),.upd kp.wf hT,by rw[fT];exact gC9,λK=> ?_⟩;refine gB6<|gO0<|hA8 e22 rfl rfl<|If.t<|gN3<|gC7<|gF1 e7 rfl<|gA2<| .i ?_;rw[dT hn];refine If.t<|gJ4<|gJ7<|gN0 e8 rfl<|gN0 e15 hv<|gA1<|gI4 rfl<|gD1<|z_v hv<|gC6<|hB8 eT hT<| .i<|gF1 e7 rfl<|z_v rfl<| .e (jD3 (y:=(r.g,r.v)) hT (by(exact kQ6 tl (nl3 ln rfl))))<|gB0<|Nx.nx K
   ·have fT:tbF (tb pre) r=tb pre:=if_neg λq=>hn q.2;refine⟨S,.refl kp.wf,by rw[fT];exact hT,λK=> ?_⟩;refine gB6<|gO0<|hA8 e22 rfl rfl<|If.t<|gN3<|gC7<|gF1 e7 rfl<|gA2<| .i ?_;rw[decide_eq_false hn];exact If.f<|gB0<|Nx.nx K
  refine R ?_;have kp1:=kp.fr w lT k1;have hJ1:=k1.one ne.symm hJ;rw[←sT]at hT1;clear R hT hJ k1 kp;have kj:=iK0 h;have none_:∀ {f f':Nat}{S2:St}{Q:Fl->Lo->St->Prop}{R:List MS},Kp [] S1 S2->isX r.v=false->(∀ {S3:St},Kp [] S1 S3->Q .nx (m.set 23 (.loc S2.n)) S3)->W (evE prog (f+50) (.ite (.cmp .eq (.var 22) (.lit (.str jC6))) (.var 15) (.dctE [] [])) m S2) λv S=>X (exB prog (f'+50) [.fr (.one 26) (.ex (.var 23)) R] (m.set 23 v) S) Q:=λk2 δ K=>by refine hB0<|hA8 e22 rfl rfl<|If.f<|gW4<|gA1<|gC6 ⟨rfl,hS4<|hB5<|hB8 rfl gA6<|lG9 gA6<|iZ1<|Nx.nx<|gB0<|K ?_⟩;exact(k2.trans (Kp.new k2.wf)).up kp1.wf k2.le gA6
  have finN:∀ {S3:St}{k:Nat},isX r.v=false->Kp [] S1 S3->Du kT kJ l4 (pre++ [r]) Sz (m.set 23 (.loc k)) S3:=λhx k=>by
   have ek:kvH r=[]:=by unfold kvH;rw[ho,hx]
   exact⟨e4,eT,eJ,k.z hT1,by rw[sJ,ek];exact k.z hJ1,kp1.trans k⟩
  refine gC0<|hB0<|gO0<|hA8 e22 rfl rfl<|If.t<|gO0<|gN9<|gF1 e15 hv<| .e ((kv (ma hvv)).s _)<|If.s (λhS=> ?_) λhS=>If.f ?_
  ·refine gN3<|gC7<|gA3<|gN0 e15 hv<|gA1<|(iQ0 (kv (ma hvv)).kind.1 kp1.wf _).imp λu S2 q=> ?_;have k2:=q.2;rw[q.1,(kv (ma hvv)).kind.2];clear q;refine gA2<| .i<| ?_;show If (.bool (isX r.v)) _ _;refine If.s (λhX=> ?_) λhX=>none_ k2 hX λk3=>⟨rfl,finN hX k3⟩
   refine e04 (kP8 hvv hX) λxe hde hd δ=> ?_;have gv:∀S,hM2 S r.v=some (1,[23,47],[gP1 r.v,.bytes []]):=λS=>by rw[xe];rfl
   have hk3:kOf (gP1 r.v)=none:=by rw[hde];rfl
   have ek:kvH r=gV9 (gP1 r.v):=by unfold kvH;rw[ho,hX]
   rw[ek]at sJ kj;refine gT7<|gF1 e15 hv<| .e (gv _)<| .i<|m_v hk3 ?_;refine hS4<|hB5<|gA7 rfl<|m_v hk3 ?_;show W (gG2 S2 (gP1 r.v)) λl S=>X (exF prog _ _ l _ (m.set 23 (gP1 r.v)) S) _;clear xe gv hk3 hX;generalize gV9 (gP1 r.v)=lk at hde sJ kj;rw[hde];refine kR2<|(hG1 (d:=19) (hh:=23) (k:=kJ) (m:=m.set 23 (hdV lk)) (bad:=gG6) (l:=lk) (J:=jd pre) (λδ δ δ=>rfl) k2.wf eJ rfl (by decide) (by decide) kj (k2.z hJ1) (by(exact lG2 jlen ln rfl)) _ (by(exact Nat.le_trans (Nat.le_refl (Nat.succ 60)) (Nat.le_add_left (Nat.succ 60) (f+55))))).imp λfl m' S' q=> ?_;obtain⟨rfl,em,hJ',k'⟩:=q;exact Nx.nx<|gB0 ⟨rfl,(em 4 (by decide)).trans e4,(em 27 (by decide)).trans eT,(em 19 (by decide)).trans eJ,k'.one ne (k2.z hT1),by rw[sJ];exact hJ',(kp1.trans k2).fr w lJ k'⟩
  ·exact none_ (.refl kp1.wf) (by cases q:isX r.v with|false=>rfl|true=>rw[(vv hvv).2.2.2.1 q]at hS;cases hS) λk3=>⟨rfl,finN (by cases q:isX r.v with|false=>rfl|true=>rw[(vv hvv).2.2.2.1 q]at hS;cases hS) k3⟩
noncomputable def gP0(d:Tb):List Int:=(d.filter λy=> !bad y.2.2).map (·.1)
noncomputable def jH2(d:Tb):List V:=((gA5 (d.map (·.1))).filter λn=>(gP0 d).any λy=>decide (n=y)).map (gU4 d)
theorem get_tbV{S:St}{d:Tb}{n:Int}:hB1 S (.dct (d.map λy=> .int y.1) (d.map λy=>eT y.2)) (.int n)=(gC2 n d).map eT:=by show(if gA8 (.int n) (d.map λy=>V.int y.1)=true then _ else none)=_;rw[if_pos gY9];exact gN6 (ek:= .int) iE1
theorem lN2{S:St}{l:List (List Nat)}{k:List Nat}:gK3 S .inn (.str k) (.tup (l.map .str))=some (l.any λx=>k==x):=by
 show(if(l.map V.str).all gB4=true then some ((l.map V.str).any (isS k))else none)=_;rw[if_pos (List.all_eq_true.mpr λv h=>by obtain⟨x,_,rfl⟩:=List.mem_map.mp h;rfl),List.any_map]
 congr 2;funext x
 show((some x:Option (List Nat))==some k)=(k==x)
 by_cases h:k=x
 ·subst h;simp
 ·rw[beq_eq_false_iff_ne.mpr h,beq_eq_false_iff_ne.mpr λq=>h (Option.some.inj q).symm]
theorem lN1{S:St}{k:Nat}{l:List Int}{n:Int}(e:S.h k=some (.lst (l.map .int))):gK3 S .inn (.int n) (.loc k)=some (l.any λy=>decide (n=y)):=by
 show(match getD S (.loc k)with|some p=>_|none=>(gD4 S (.loc k)).bind λl=>gR4 (.int n) l)=_;rw[show getD S (.loc k)=none by show(S.h k).bind lB2=none;rw[e];rfl,gV5 e];show(if(l.map V.int).all gC5=true then some ((l.map V.int).any (isI n))else none)=_;rw[if_pos (List.all_eq_true.mpr λv h=>by obtain⟨x,_,rfl⟩:=List.mem_map.mp h;rfl),List.any_map]
 congr 2;funext x
 show((some x:Option Int)==some n)=decide (n=x)
 by_cases h:n=x
 ·subst h;simp
 ·rw[decide_eq_false h,beq_eq_false_iff_ne.mpr λq=>h (Option.some.inj q).symm]
theorem hX9{f kT kJ:Nat}{d:Tb}{J:KL}{Sz S:St}{m:Lo}(w:Wf Sz)(lT:Sz.n<=kT)(lJ:Sz.n<=kJ)(ne:kT≠kJ)(eT_:m 27=some (.loc kT))(eJ:m 19=some (.loc kJ))(hT:S.h kT=some (tbO d))(hJ:S.h kJ=some (jO J))(kp:Kp [] Sz S)(hd:d.length<60)(js:J∈JS)
  (H:∀y,y∈d->gC2 y.1 d=some y.2/\y.2.2∈vals):
  X (exB prog (f+250) (fn6.body.drop 5) m S) λfl δ S'=>fl= .rt (.tup [.tup (jH2 d),tJ J])/\Kp [] Sz S':=by
 have Hs:∀n,n∈gA5 (d.map (·.1))->∃y,gC2 n d=some y/\y.2∈vals:=λn hn=>by
  have mem:∀(l:List Int) (x n:Int),n∈gZ4 x l->n=x\/n∈l:=λl=>by
   induction l with
   |nil=>intro x n h;exact .inl (List.mem_singleton.mp h)
   |cons y l ih=>
    intro x n h;have h:n∈(if x<=y then x::y::l else y::gZ4 x l):=h
    by_cases q:x<=y
    ·rw[if_pos q]at h;exact mC h
    ·rw[if_neg q]at h;rcases mC h with h|h
     ·exact .inr (h▸mS)
     ·exact(ih x n h).imp id λh=>mO _ h
  have mem2:∀(l:List Int) (n:Int),n∈gA5 l->n∈l:=λl=>by
   induction l with
   |nil=>intro n h;exact h
   |cons x l ih=>intro n h;exact(mem _ _ _ h).elim (λe=>e▸mS) λh=>mO _ (ih n h)
  obtain⟨y,hy,rfl⟩:=List.mem_map.mp (mem2 _ _ hn);exact⟨_,H y hy⟩
 have k1:=(Kp.refl (T:=[]) kp.wf).nw (o:= .lst ((gA5 (d.map (·.1))).map .int));have k2:=k1.up (o:= .frz (.lst ((gA5 (d.map (·.1))).map .int))) kp.wf (Nat.le_refl _) gA6;show X (exB prog _ (.asg 32 (.lcomp [7] _ [_])::_) m S) _;refine gC0<|gE8<|iC5<|gG3<|gA0<|hB8 eT_ hT<|gA1<|hU3 hT (by(exact Nat.le_trans hd (Nat.le_add_left 60 4)))<|iK6 gA6 ?_;generalize (S.new (.lst ((gA5 (d.map (·.1))).map .int))).upd S.n (.frz (.lst ((gA5 (d.map (·.1))).map .int)))=S1 at k2;clear k1;have e27:(m.del [7]) 27=some (.loc kT):=eT_;show W _ _;generalize m.del [7]=m1 at e27;refine(gE3 (K:=120) (enc:= .int) (u:=λδ=>true) (e:=gU4 d) (J:=λS'=>Kp [] S S') (gA5 (d.map (·.1))) [] ?_ (λn hn f S' kp=> ?_) k2 _ ?_).imp λz S3 q=> ?_
 ·rw[gD2,List.length_map];show 0+_<1000;(exact hO6 (nl2 (Nat.le_of_lt hd) rfl))
 ·refine e12 (Hs n hn) λy hy hv=> ?_;have ht:=kp.z hT;have hk:=gO1 (ma hv);have gy:hB1 S' (.loc kT) (.int n)=some (eT y):=(iM2 ht).trans (by rw[hy];rfl);refine⟨_,rfl,gO2 ⟨rfl,nofun,λδ=> ?_⟩⟩;have e7:(m1.set 7 (.int n)) 7=some (.int n):=rfl;have e27:(m1.set 7 (.int n)) 27=some (.loc kT):=e27;refine gJ7<|gN0 e7 rfl<|gA0<|gE6<|gE6<|hB8 e27 ht<|gF1 e7 rfl<| .e gy<|m_v rfl<|gA2<| .i<|m_v rfl<|gA0 ?_;refine gA3<|gA0<|gE6<|gE6<|hB8 e27 ht<|gF1 e7 rfl<| .e gy<|m_v rfl<|gA2<| .i<|m_v hk<|gA1<|(hE8 (ma hv) kp.wf).imp λu S4 q=> ?_;have hu:=gM2 (ma hv);rw[←q.1]at hu;refine gA1<|gI4 rfl<|gI4 rfl<|gD1<|z_v hu<|gC6 ⟨?_,rfl,kp.trans q.2⟩;unfold gU4;rw[hy,q.1]
 ·rw[gD2,List.length_map];(exact nl1 (Nat.le_of_lt hd) rfl)
 obtain⟨rfl,k3⟩:=q;rw[List.nil_append,List.filter_eq_self.mpr λδ δ=>rfl];have k4:=k3.nw (o:= .lst ((gA5 (d.map (·.1))).map (gU4 d)));have h4:(S3.new (.lst ((gA5 (d.map (·.1))).map (gU4 d)))).h S3.n=some (.lst ((gA5 (d.map (·.1))).map (gU4 d))):=gA6;have l4:S.n<=S3.n:=k3.le;show X _ _;generalize S3.new (.lst ((gA5 (d.map (·.1))).map (gU4 d)))=S4 at k4 h4⊢;generalize S3.n=k32 at h4 l4⊢;clear k2 k3;have hT4:=k4.z hT;have hJ4:=k4.z hJ;have kp4:=kp.trans k4;refine gC0<|gE8<|iC5<|hB8 (show(m.set 32 (.loc k32)) 27=_ from eT_) hT4<|lG9 hT4 ?_;have k5:=kp4.up (o:= .frz (.dct (d.map λy=> .int y.1) (d.map λy=>eT y.2))) w lT hT4;have hT5:(S4.upd kT (.frz (.dct (d.map λy=> .int y.1) (d.map λy=>eT y.2)))).h kT=_:=gC9;have hJ5:=gB9 (o:= .frz (.dct (d.map λy=> .int y.1) (d.map λy=>eT y.2))) ne.symm hJ4;have nk:k32≠kT:=λz=>by subst z;rw[h4]at hT4;cases hT4
 have h5:=gB9 (o:= .frz (.dct (d.map λy=> .int y.1) (d.map λy=>eT y.2))) nk h4;generalize S4.upd kT (.frz (.dct (d.map λy=> .int y.1) (d.map λy=>eT y.2)))=S5 at k5 hT5 hJ5 h5;have e27':((m.set 32 (.loc k32)).del [7]) 27=some (.loc kT):=eT_;show W _ _;generalize (m.set 32 (.loc k32)).del [7]=m2 at e27';refine(gE3 (K:=120) (enc:=λy:Int×(Int×V)=> .int y.1) (u:=λy=> !bad y.2.2) (e:=λy=> .int y.1) (J:=λS'=>Kp [] S5 S') d [] (by show 0+_<1000;(exact hO6 (nl2 (Nat.le_of_lt hd) rfl))) (λy hy f S' kp=> ?_) (.refl k5.wf) _ (by(exact nl1 (Nat.le_of_lt hd) rfl))).imp λz S6 q=> ?_
 ·refine e02 (H y hy) λhg hv=> ?_;have hk:=gO1 (ma hv);have gy:hB1 S' (.dct (d.map λy=> .int y.1) (d.map λy=>eT y.2)) (.int y.1)=some (eT y.2):=get_tbV.trans (by rw[hg];rfl);refine⟨_,rfl,?_⟩;have e7:(m2.set 7 (.int y.1)) 7=some (.int y.1):=rfl;have e27:(m2.set 7 (.int y.1)) 27=some (.loc kT):=e27';have fin:∀ {S2:St}{f g:Nat}{b:Bool},Kp [] S5 S2->b=bad y.2.2->If (.bool (!b)) (W (gC8 prog (f+100) [] (m2.set 7 (.int y.1)) S2) (TQ (g+100) (.var 7) (m2.set 7 (.int y.1)) (!bad y.2.2) (.int y.1) λS'=>Kp [] S5 S')) (TQ (g+100) (.var 7) (m2.set 7 (.int y.1)) (!bad y.2.2) (.int y.1) (λS'=>Kp [] S5 S') false S2):=λk e=>by subst e;exact If.s (λh=>gO2 ⟨h.symm,nofun,λδ=>gA7 e7 (m_v rfl ⟨rfl,rfl,k⟩)⟩) λh=>⟨h.symm,λδ=>k,nofun⟩
  refine gT9<|hO9<|gO0<|gN9<|gE6<|gE6<|gA7 e27<|hK9 (kp.z hT5)<|gF1 e7 rfl<| .e gy<|m_v rfl<|gA2<| .i<|m_v hk<| .e ((kv (ma hv)).s _)<|If.s (λhS=> ?_) λhS=> .i<|fin (b:=false) kp (by
   have a:=(vv hv).2.2.2;unfold bad
   cases hO:isO y.2.2 with
   |true=>rw[a.2 hO]at hS;cases hS
   |false=>
    cases hX:isX y.2.2 with
    |true=>rw[a.1 hX]at hS;cases hS
    |false=>rfl)
  refine gN3<|gC7<|gA3<|gA0<|gE6<|gE6<|gA7 e27<|hK9 (kp.z hT5)<|gF1 e7 rfl<| .e gy<|m_v rfl<|gA2<| .i<|m_v hk<|gA1<|(iQ0 (kv (ma hv)).kind.1 kp.wf _).imp λu S2 q=> ?_;have k2:=q.2;rw[q.1,(kv (ma hv)).kind.2];clear q;refine gJ7<|gA0<|gA2<|gA0<|gA2<|gA1<|gI4 rfl<|gI4 rfl<|gC6<| .e (lN2 (l:=[gG1,iS6]))<| .i<|fin (kp.trans k2) ?_;show(isX y.2.2||(isO y.2.2||false))=bad y.2.2;rw[Bool.or_false,Bool.or_comm];rfl
 obtain⟨rfl,k6⟩:=q;rw[List.nil_append];have e6:(d.filter λy=> !bad y.2.2).map (λy=>V.int y.1)=(gP0 d).map .int:=by unfold gP0;rw[List.map_map];rfl
 rw[e6];have k7:=(Kp.refl (T:=[]) k5.wf).trans k6|>.nw (o:= .lst ((gP0 d).map .int));have h7:(S6.new (.lst ((gP0 d).map .int))).h S6.n=some (.lst ((gP0 d).map .int)):=gA6;have l7:S5.n<=S6.n:=k6.le;show X _ _;generalize S6.new (.lst ((gP0 d).map .int))=S7 at k7 h7⊢;generalize S6.n=k33 at h7 l7⊢;have h32:=k7.z h5;have hJ7:=k7.z hJ5;have kp7:=k5.trans k7;have n33:k33≠k32:=(Nat.ne_of_lt (Nat.lt_of_lt_of_le (Wf.lt k5.wf h5) l7)).symm;have nJ:k32≠kJ:=λz=>by subst z;rw[h32]at hJ7;cases hJ7
 refine gF0<|gJ7<|gA0<|gG3<|gA0<|gE8<|iC5<|gR7 rfl h32<|iK6 h32 ?_;have k8:=kp7.up (o:= .frz (.lst ((gA5 (d.map (·.1))).map (gU4 d)))) w (Nat.le_trans kp.le l4) h32;have hJ8:=gB9 (o:= .frz (.lst ((gA5 (d.map (·.1))).map (gU4 d)))) nJ.symm hJ7;have h33:=gB9 (o:= .frz (.lst ((gA5 (d.map (·.1))).map (gU4 d)))) n33 h7;generalize S7.upd k32 (.frz (.lst ((gA5 (d.map (·.1))).map (gU4 d))))=S8 at k8 hJ8 h33;have e33:(((m.set 32 (.loc k32)).set 33 (.loc k33)).del [16]) 33=some (.loc k33):=rfl;have e19:((m.set 32 (.loc k32)).set 33 (.loc k33)) 19=some (.loc kJ):=eJ;show W _ _;generalize ((m.set 32 (.loc k32)).set 33 (.loc k33)).del [16]=m3 at e33;refine(gE3 (K:=60) (enc:=gU4 d) (u:=λn=>(gP0 d).any λy=>decide (n=y)) (e:=gU4 d) (J:=λS'=>Kp [] S8 S') (gA5 (d.map (·.1))) [] ?_ (λn hn f S' kp=> ?_) (.refl k8.wf) _ ?_).imp λz S9 q=> ?_
 ·rw[gD2,List.length_map];show 0+_<1000;(exact hO6 (nl2 (Nat.le_of_lt hd) rfl))
 ·refine e12 (Hs n hn) λy hy hv=> ?_;have er:gU4 d n= .tup [.int n,.int y.1,gG9 y.2]:=by unfold gU4;rw[hy]
  refine⟨_,rfl,?_⟩;rw[er];have e16:(m3.set 16 (.tup [.int n,.int y.1,gG9 y.2])) 16=some (.tup [.int n,.int y.1,gG9 y.2]):=rfl;have e33:(m3.set 16 (.tup [.int n,.int y.1,gG9 y.2])) 33=some (.loc k33):=e33;refine gT9<|gC7<|hA7 e16 rfl rfl<|m_v rfl<|gR7 e33 (kp.z h33)<| .e (lN1 (kp.z h33)) ?_;exact If.s (λh=>gO2 ⟨h.symm,nofun,λδ=>gA7 e16 (m_v rfl ⟨rfl,rfl,kp⟩)⟩) λh=>⟨h.symm,λδ=>kp,nofun⟩
 ·rw[gD2,List.length_map];(exact nl1 (Nat.le_of_lt hd) rfl)
 obtain⟨rfl,k9⟩:=q;rw[List.nil_append];have ka:=k9.nw (o:= .lst (jH2 d));have ha:(S9.new (.lst (jH2 d))).h S9.n=some (.lst (jH2 d)):=gA6;refine gA1<|hZ1 ha<|gA0<|gA3<|gA0<|hB8 e19 (ka.z hJ8)<|gA1<|(iQ2 js ka.wf (ka.z hJ8)).imp λu Sb q=> ?_;have kj:=(hP3 js).2;rw[←q.1]at kj⊢;exact gA1<|gI4 rfl<|gD1<|z_v kj<|gC6 ⟨rfl,(k8.trans ka).fr w lJ q.2⟩
noncomputable def plI(L:List LR):List (Int×Int):=(L.filter (·.r.o)).foldl (λp x=>gJ6 x.r.n x.b p) []
noncomputable def gV2(L:List LR):List LR:=L.filter λx=>x.r.o&&(decide (0<x.r.n)&&(gC2 x.r.n (plI L)==some x.b))
noncomputable def hS2(L:List LR):List LR:=(gV2 L).filter λx=>x.r.cat
noncomputable def iZ7(L:List LR)(d:Tb)(J:KL):KL:=if rb d J=true then(match (hS2 L).getLast? with
 |none=>J
 |some x=>gJ6 gB5 (rf x.r.n x.r.g) J)else J
noncomputable def plO(p:List (Int×Int)):O:= .dct (p.map λy=> .int y.1) (p.map λy=> .int y.2)
theorem kD7:∀l:List (Int×Int),gF7 (l.map λp=> .tup [.int p.1,.int p.2])=some (l.map λp=> .int p.1,l.map λp=> .int p.2)
 | []=>rfl
 |p::l=>show(tOf (.tup [.int p.1,.int p.2])).bind (λt=>(jM6 t).bind λq=>(gF7 (l.map λp=> .tup [.int p.1,.int p.2])).bind λp=>some (q.1::p.1,q.2::p.2))=_ from bk rfl (bk rfl (bk (kD7 l) rfl))
theorem hU7:∀(l d:List (Int×Int)),gF2 (l.map λp=> .int p.1) (l.map λp=> .int p.2) (d.map λp=> .int p.1,d.map λp=> .int p.2)=((l.foldl (λd p=>gJ6 p.1 p.2 d) d).map λp=> .int p.1,(l.foldl (λd p=>gJ6 p.1 p.2 d) d).map λp=> .int p.2)
 | [],_=>rfl
 |p::l,d=>by show gF2 (l.map λp=> .int p.1) (l.map λp=> .int p.2) (gJ5 (.int p.1) (.int p.2) (d.map λp=> .int p.1) (d.map λp=> .int p.2))=_;rw[hY3 (ek:= .int) (eb:= .int) iE1,hU7 l];rfl
theorem jU2{S:St}{k:Nat}{l:List (Int×Int)}{Q:QP}(e:S.h k=some (.lst (l.map λp=> .tup [.int p.1,.int p.2])))(h:Q (.loc S.n) ((S.upd k (.frz (.lst (l.map λp=> .tup [.int p.1,.int p.2])))).new (plO (l.foldl (λd p=>gJ6 p.1 p.2 d) [])))):W (callB S .dict [.loc k]) Q:=by refine⟨_,_,?_,h⟩;show(frz 9 (.loc k) S).bind _=_;refine bk (a:=(.lst (l.map λp=> .tup [.int p.1,.int p.2]),S.upd k (.frz (.lst (l.map λp=> .tup [.int p.1,.int p.2]))))) (bk e rfl) ?_;show(gF7 (l.map λp=> .tup [.int p.1,.int p.2])).bind _=_;rw[kD7];show(if(l.map λp:Int×Int=>V.int p.1).all gC5=true then _ else none)=_;rw[if_pos (show(l.map λp:Int×Int=>V.int p.1).all gC5=true from gY9 (n:=0))];have P:=hU7 l [];have P:gF2 (l.map λp=> .int p.1) (l.map λp=> .int p.2) ([],[])=_:=P;show some (V.loc S.n,(S.upd k _).new (.dct (gF2 _ _ ([],[])).1 (gF2 _ _ ([],[])).2))=_;rw[P];rfl
theorem kI2{S:St}{k:Nat}{p:List (Int×Int)}{n:Int}(e:S.h k=some (plO p)):hB1 S (.loc k) (.int n)=(gC2 n p).map .int:=by show(match gD4 S (.loc k)with|some l=>_|none=>(getD S (.loc k)).bind λp=>if gA8 (.int n) p.1 then gK2 (.int n) p.1 p.2 else none)=_;rw[gQ5 e,show gD4 S (.loc k)=none by show(S.h k).bind iW7=none;rw[e];rfl];show(if gA8 (.int n) (p.map λy=>V.int y.1)=true then _ else none)=_;rw[if_pos gY9];exact gN6 (ek:= .int) (eb:= .int) iE1
theorem kF5{S:St}{k j:Nat}{l:List V}(e:S.h k=some (.lst l))(e':S.h j=some (.lst [])):gK3 S .ne (.loc k) (.loc j)=some (!l.isEmpty):=by show(match gD4 S (.loc k)with|some x=>(gD4 S (.loc j)).bind λy=>eqL x y|none=>_:Option Bool).bind _=_;rw[gV5 e];show((gD4 S (.loc j)).bind λy=>eqL l y).bind _=_;rw[gV5 e'];cases l<;>rfl
theorem iZ6{f:Nat}{d:Tb}{J:KL}{m:Lo}{S:St}{kT kJ:Nat}{R:List MS}{Q:Fl->Lo->St->Prop}(eT_:m 27=some (.loc kT))(eJ:m 19=some (.loc kJ))(hT:S.h kT=some (tbO d))(hJ:S.h kJ=some (jO J))(dv:Dv d)(jv:Jv J)
  {A B:List MS}(h:∀m',(∀x,x≠28->x≠13->m' x=m x)->If (.bool (rb d J)) (X (exB prog (f+97) A m' S) (Nx (f+98) R Q)) (X (exB prog (f+97) B m' S) (Nx (f+98) R Q))):
  X (exB prog (f+101) (.asg 28 (.callBM (.var 19) .get1 [(.lit (.str gB5))]):: .asg 13 (.ite (.cmp .notIsn (.var 28) (.lit .none)) (.callBM (.var 27) .get2 [(.attr (.var 28) 7),(.tupE [(.lit (.int 0)),(.lit .none)])]) (.tupE [(.lit (.int 0)),(.lit .none)]))::
   .ite (.orE [(.notE (.isi (.sub (.var 13) (.lit (.int 1))) .dict)),(.cmp .ne (.sub (.var 13) (.lit (.int 0))) (.lit (.int 0)))]) A B::R) m S) Q:=by
 have G:(gK2 (.str gB5) (J.map λy=> .str y.1) (J.map λy=>y.2)).getD .none=(gC2 gB5 J).getD .none:=by rw[show gK2 (.str gB5) (J.map λy=> .str y.1) (J.map λy=>y.2)=(gC2 gB5 J).map (λv=>v)from gN6 (ek:= .str) (eb:=λv=>v) kR0];cases gC2 gB5 J<;>rfl
 have none_:∀ {u:V},rb d J=true->X (exB prog (f+99) (.ite (.orE [(.notE (.isi (.sub (.var 13) (.lit (.int 1))) .dict)),(.cmp .ne (.sub (.var 13) (.lit (.int 0))) (.lit (.int 0)))]) A B::R) ((m.set 28 u).set 13 (.tup [.int 0,.none])) S) Q:=λhb=>by refine gB6<|kP9<|hO9<|gN9<|hA7 rfl rfl rfl<|m_v rfl<| .i<| .i<|If.t ?_;have:=h ((m.set 28 ‹V›).set 13 (.tup [.int 0,.none])) λx a b=>(if_neg b).trans (if_neg a);rw[hb]at this;exact this
 refine gC0<|gC3<|gA7 eJ<|gJ2 hJ ⟨iP5 hJ,gA0<|gA2<|gA1<|iP0 hJ iX3 ?_⟩;rw[G]
 cases e:gC2 gB5 J with
 |none=>
  refine gC0<|hB0<|hA8 rfl rfl rfl<|If.f<|gJ7<|gA0<|gA2<|gA0<|gA2<|gA1<|gI4 rfl<|gI4 rfl<|gC6 ?_
  exact none_ (by unfold rb;rw[e])
 |some r=>
  obtain⟨n,rfl⟩:=jv.r r e;have G2:(gK2 (.int n) (d.map λy=> .int y.1) (d.map λy=>eT y.2)).getD (.tup [.int 0,.none])=(match gC2 n d with|none=> .tup [.int 0,.none]|some y=>eT y):=by rw[gN6 (ek:= .int) (eb:=eT) iE1];cases gC2 n d<;>rfl
  refine gC0<|hB0<|hA8 rfl rfl rfl<|If.t<|gC3<|gA7 (show(m.set 28 (rf n 0)) 27=_ from eT_)<|gJ2 hT ⟨iP4 hT,?_⟩;refine gA0<|hB9 rfl rfl rfl rfl<|m_v rfl<|gA0<|gJ7<|gA0<|gA2<|gA0<|gA2<|gA1<|gI4 rfl<|gI4 rfl<|gC6<|gA1<|iO9 hT gY9 ?_;rw[G2];have er:rb d J= !hW3 (fet d n):=by unfold rb;rw[e];rfl
  cases y:gC2 n d with
  |none=>exact none_ (by rw[er];unfold fet;rw[y];rfl)
  |some z=>
   have hz:=dv.v n z y
   have er:rb d J=(!hW3 z.2|| !(z.1==0)):=by
    rw[er];unfold fet;rw[y];show(!hW3 (if z.1=0 then z.2 else .none))=_
    by_cases q:z.1=0
    ·rw[if_pos q,show(z.1==0)=true from beq_iff_eq.mpr q,Bool.not_true,Bool.or_false]
    ·rw[if_neg q,show(z.1==0)=false from beq_eq_false_iff_ne.mpr q,Bool.not_false,Bool.or_true];rfl
   have H:=h ((m.set 28 (rf n 0)).set 13 (eT z)) λx a b=>(if_neg b).trans (if_neg a);rw[er]at H;refine gB6<|kP9<|hO9<|gN9<|hA7 rfl rfl rfl<|m_v (gO1 (ma hz))<| .e ((kv (ma hz)).d _)<| .i<|If.s (λhd=> ?_) λhd=> ?_
   ·rw[hd]at H;exact H
   ·rw[hd]at H;exact jI6<|gC7<|hA7 rfl rfl rfl<|m_v rfl<|gA2<| .i<|H
noncomputable def lO0:List MS:=match fn6.body[4]? with|some (MS.ite _ a _)=>a|_=> []
theorem jS6{f kJ:Nat}{rs:List Row}{J:KL}{m:Lo}{S:St}(w:Wf S)(e4:m 4=some (.lst (rs.map Row.V)))(eJ:m 19=some (.loc kJ))(hJ:S.h kJ=some (jO J))(hj:J.length<500)(ok:∀r,r∈rs->r.ok)(hl:rs.length<=5)
  (hp:∀x,x∈gL2 0 rs->x.r.o=true->∃b,gC2 x.r.n (plI (gL2 0 rs))=some b):
  X (exB prog (f+200) lO0 m S) λfl m' S'=>fl= .nx/\(m' 27=m 27/\m' 19=m 19)/\S'.h kJ=some (jO (match (hS2 (gL2 0 rs)).getLast? with
   |none=>J
   |some x=>gJ6 gB5 (rf x.r.n x.r.g) J))/\Kp [kJ] S S':=by
 have okL:∀x,x∈gL2 0 rs->x.r.ok:=λx hx=>ok _ (iI2 0 rs x hx).2;have Ll:(gL2 0 rs).length<=5:=by rw[hF7];exact hl
 have k0:Kp [] S S:= .refl w;refine gC0<|gG3<|gA0<|gE8<|jF4<|gF1 e4 rfl<|z_v rfl<| .i ?_
 delta kR1;rw[gW2]
 generalize hL:gL2 0 rs=L at*;have e4d:∀x,m.del [18,16] x=if [18,16].contains x then none else m x:=λδ=>rfl
 refine(gE3 (K:=60) (enc:=enV) (u:=λx=>x.r.o) (e:=λx=> .tup [.int x.r.n,.int x.b]) (J:=λS'=>Kp [] S S') L [] (by show 0+_<1000;(exact hO6 (nl2 Ll rfl))) (λx hx f S' kp=> ?_) k0 _ ?_).imp λz S1 q=> ?_
 ·refine⟨_,rfl,gT9<|gC7<|hA7 rfl rfl rfl<|m_v rfl<|gA2<| .i ?_⟩;show If (.bool (x.r.w==jI7)) _ _;rw[iT2];refine If.s (λh=>gO2 ⟨h.symm,nofun,λδ=> ?_⟩) λh=>⟨h.symm,λδ=>kp,nofun⟩
  exact gJ7<|gA0<|hA7 rfl rfl rfl<|m_v rfl<|gN0 rfl rfl<|gA1<|gI4 rfl<|gI4 rfl<|gC6 ⟨rfl,rfl,kp⟩
 ·(exact nl1 Ll rfl)
 obtain⟨rfl,k1⟩:=q;rw[List.nil_append];have e1:(L.filter λx=>x.r.o).map (λx=>V.tup [.int x.r.n,.int x.b])=((L.filter λx=>x.r.o).map λx=>(x.r.n,x.b)).map λp=> .tup [.int p.1,.int p.2]:=by rw[List.map_map];rfl
 rw[e1];have ep:((L.filter λx=>x.r.o).map λx=>(x.r.n,x.b)).foldl (λd p=>gJ6 p.1 p.2 d) []=plI L:=by unfold plI;rw[List.foldl_map]
 have k2:=k1.nw (o:= .lst (((L.filter λx=>x.r.o).map λx=>(x.r.n,x.b)).map λp=> .tup [.int p.1,.int p.2]));have k3:=(k2.up (o:= .frz (.lst (((L.filter λx=>x.r.o).map λx=>(x.r.n,x.b)).map λp=> .tup [.int p.1,.int p.2]))) w k1.le gA6).nw (o:=plO (plI L));have h3:(((S1.new (.lst (((L.filter λx=>x.r.o).map λx=>(x.r.n,x.b)).map λp=> .tup [.int p.1,.int p.2]))).upd S1.n (.frz (.lst (((L.filter λx=>x.r.o).map λx=>(x.r.n,x.b)).map λp=> .tup [.int p.1,.int p.2])))).new (plO (plI L))).h (S1.n+1)=some (plO (plI L)):=gA6;refine gA1<|jU2 gA6 ?_;rw[ep];show X (exB prog _ _ (m.set 29 (.loc (S1.n+1))) (((S1.new (.lst (((L.filter λx=>x.r.o).map λx=>(x.r.n,x.b)).map λp=> .tup [.int p.1,.int p.2]))).upd S1.n (.frz (.lst (((L.filter λx=>x.r.o).map λx=>(x.r.n,x.b)).map λp=> .tup [.int p.1,.int p.2])))).new (plO (plI L)))) _;generalize ((S1.new (.lst (((L.filter λx=>x.r.o).map λx=>(x.r.n,x.b)).map λp=> .tup [.int p.1,.int p.2]))).upd S1.n (.frz (.lst (((L.filter λx=>x.r.o).map λx=>(x.r.n,x.b)).map λp=> .tup [.int p.1,.int p.2])))).new (plO (plI L))=S2 at k3 h3⊢;generalize S1.n+1=kp at h3⊢;clear k1 k2 e1;refine gC0<|gE8<|jF4<|gF1 (show(m.set 29 (.loc kp)) 4=_ from e4) rfl<|z_v rfl<| .i ?_
 delta kR1;rw[gW2,hL]
 refine(gE3 (K:=60) (enc:=enV) (u:=λx=>x.r.o&&(decide (0<x.r.n)&&(gC2 x.r.n (plI L)==some x.b))) (e:=λx=>x.r.V) (J:=λS'=>Kp [] S2 S') L [] (by show 0+_<1000;(exact hO6 (nl2 Ll rfl))) (λx hx f S' k=> ?_) (.refl k3.wf) _ ?_).imp λz S3 q=> ?_
 ·have e16:(((m.set 29 (.loc kp)).del [18,16]).sets [18,16] [.int x.b,x.r.V]) 16=some x.r.V:=rfl;have e18:(((m.set 29 (.loc kp)).del [18,16]).sets [18,16] [.int x.b,x.r.V]) 18=some (.int x.b):=rfl;have e29:(((m.set 29 (.loc kp)).del [18,16]).sets [18,16] [.int x.b,x.r.V]) 29=some (.loc kp):=rfl;refine⟨_,rfl,?_⟩;generalize ((m.set 29 (.loc kp)).del [18,16]).sets [18,16] [.int x.b,x.r.V]=m1 at e16 e18 e29;refine gT9<|gO0<|gC7<|hA7 e16 rfl rfl<|m_v rfl<|gA2<| .i ?_;show If (.bool (x.r.w==jI7)) _ _;rw[iT2];refine If.s (λho=> ?_) λho=>If.f ⟨by rw[ho];rfl,λδ=>k,nofun⟩;refine gO0<|gC7<|hA7 e16 rfl rfl<|m_v rfl<|gA2<| .i<|If.s (λhn=> ?_) λhn=>If.f ⟨by rw[ho,hn];rfl,λδ=>k,nofun⟩;refine e11 (hp x hx ho) λb hb=> ?_;refine gN3<|gC7<|gE6<|hB8 e29 (k.z h3)<|hA7 e16 rfl rfl<|m_v rfl<| .e ((kI2 (k.z h3)).trans (by rw[hb];rfl)) ?_;refine m_v (v:= .int b) rfl<|gF1 e18 rfl<| .i ?_;refine If.s (λhq=>gO2 ⟨?_,nofun,λδ=>gA7 e16 (m_v rfl ⟨rfl,rfl,k⟩)⟩) λhq=>⟨?_,λδ=>k,nofun⟩
  ·rw[ho,hn,hb];exact hq.symm
  ·rw[ho,hn,hb];exact hq.symm
 ·(exact nl1 Ll rfl)
 obtain⟨rfl,k4⟩:=q;rw[List.nil_append];have k5:=k4.nw (o:= .lst ((gV2 L).map λx=>x.r.V));have h5:(S3.new (.lst ((gV2 L).map λx=>x.r.V))).h S3.n=some (.lst ((gV2 L).map λx=>x.r.V)):=gA6;have kS:=k3.trans k5;show X (exB prog _ _ ((m.set 29 (.loc kp)).set 30 (.loc S3.n)) (S3.new (.lst ((gV2 L).map λx=>x.r.V)))) _;have l5:S2.n<=S3.n:=k4.le;generalize S3.new (.lst ((gV2 L).map λx=>x.r.V))=S4 at k5 h5 kS⊢;generalize S3.n=k30 at h5 l5⊢;have sub:∀x,x∈gV2 L->x∈L/\x.r.o=true:=λx hx=>by refine e02 (List.mem_filter.mp hx) λa b=> ?_;exact⟨a,by cases q:x.r.o with|true=>rfl|false=>rw[q]at b;exact ff b⟩
 have sl:(gV2 L).length<=5:=Nat.le_trans (List.length_filter_le ..) Ll;refine gC0<|gE8<|iC5<|gR7 rfl h5<|iK6 h5 ?_;have k6:=kS.up (o:= .frz (.lst ((gV2 L).map λx=>x.r.V))) w (Nat.le_trans k3.le l5) h5;generalize S4.upd k30 (.frz (.lst ((gV2 L).map λx=>x.r.V)))=S5 at k6;refine(gE3 (K:=120) (enc:=λx:LR=>x.r.V) (u:=λx=>x.r.cat) (e:=λx=>x.r.V) (J:=λS'=>Kp [] S5 S') (gV2 L) [] (by show 0+_<1000;(exact hO6 (nl2 sl rfl))) (λx hx f S' k=> ?_) (.refl k6.wf) _ ?_).imp λz S6 q=> ?_
 ·refine e02 (sub x hx) λhx ho=> ?_;have hvv:=((okL x hx).obj ho).2.2;have hv:=gO1 (ma hvv);have e16:((((m.set 29 (.loc kp)).set 30 (.loc k30)).del [16]).set 16 x.r.V) 16=some x.r.V:=rfl;refine⟨_,rfl,?_⟩;generalize (((m.set 29 (.loc kp)).set 30 (.loc k30)).del [16]).set 16 x.r.V=m1 at e16;refine gT9<|gO0<|gN9<|hA7 e16 rfl rfl<|m_v hv<| .e ((kv (ma hvv)).d _)<|If.s (λhd=> ?_) λhd=>If.f ⟨by unfold Row.cat;rw[hd];rfl,λδ=>k,nofun⟩;refine gN3<|gC7<|gA3<|gA0<|hA7 e16 rfl rfl<|m_v hv<|gA1<|(iQ0 (kv (ma hvv)).kind.1 k.wf _).imp λu S2 q=> ?_;have k2:=q.2;rw[q.1,(kv (ma hvv)).kind.2];clear q;refine gA2<| .i ?_;show If (.bool (isC x.r.v)) _ _;refine If.s (λhc=>gO2 ⟨?_,nofun,λδ=>gA7 e16 (m_v rfl ⟨rfl,rfl,k.trans k2⟩)⟩) λhc=>⟨?_,λδ=>k.trans k2,nofun⟩
  ·unfold Row.cat;rw[hd,hc];rfl
  ·unfold Row.cat;rw[hd,hc];rfl
 ·(exact nl1 sl rfl)
 obtain⟨rfl,k7⟩:=q;rw[List.nil_append];have k8:=(k6.trans k7).nw (o:= .lst ((hS2 L).map λx=>x.r.V));have h8:(S6.new (.lst ((hS2 L).map λx=>x.r.V))).h S6.n=some (.lst ((hS2 L).map λx=>x.r.V)):=gA6;show X (exB prog _ _ (((m.set 29 (.loc kp)).set 30 (.loc k30)).set 31 (.loc S6.n)) (S6.new (.lst ((hS2 L).map λx=>x.r.V)))) _;generalize S6.new (.lst ((hS2 L).map λx=>x.r.V))=S7 at k8 h8⊢;generalize S6.n=k31 at h8⊢;have em:∀x,x≠29->x≠30->x≠31->(((m.set 29 (.loc kp)).set 30 (.loc k30)).set 31 (.loc k31)) x=m x:=λx a b c=>(if_neg c).trans ((if_neg b).trans (if_neg a));have e31:(((m.set 29 (.loc kp)).set 30 (.loc k30)).set 31 (.loc k31)) 31=some (.loc k31):=rfl;generalize ((m.set 29 (.loc kp)).set 30 (.loc k30)).set 31 (.loc k31)=m3 at em e31;have e19:=(em 19 (by decide) (by decide) (by decide)).trans eJ;have mm:m3 27=m 27/\m3 19=m 19:=⟨em 27 (by decide) (by decide) (by decide),em 19 (by decide) (by decide) (by decide)⟩
 have k9:=k8.nw (o:= .lst []);have h9:=gH3 (o:= .lst []) k8.wf h8;have hn:(S7.new (.lst [])).h S7.n=some (.lst []):=gA6;have hJ9:=k9.z hJ;refine gB6<|gC7<|gR7 e31 h8<|iT3<|gA1<|gC6<| .e (kF5 h9 hn) ?_;generalize S7.new (.lst [])=S8 at k9 h9 hn hJ9
 cases hc:(hS2 L).getLast? with
 |none=>
  rw[List.getLast?_eq_none_iff.mp hc]
  exact If.f<|gK9<|gB0 ⟨rfl,mm,hJ9,k9.nil⟩
 |some x=>
  have hi:((hS2 L).map λx=>x.r.V).isEmpty=false:=by
   cases q:hS2 L with
   |nil=>rw[q]at hc;cases hc
   |cons _ _=>rfl
  rw[hi];have hl:jK0 ((hS2 L).map λx=>x.r.V) (-1)=some x.r.V:=by show((hS2 L).map λx=>x.r.V).getLast?=_;rw[List.getLast?_map,hc];rfl
  have g:=gO3 h9 hl;have kr:=k9.nw (o:= .ins 2 [7,8] [.int x.r.n,.int x.r.g]);have hr:(S8.new (.ins 2 [7,8] [.int x.r.n,.int x.r.g])).h S8.n=some (.ins 2 [7,8] [.int x.r.n,.int x.r.g]):=gA6;have hJr:=gH3 (o:= .ins 2 [7,8] [.int x.r.n,.int x.r.g]) k9.wf hJ9;have nJ:kJ≠S8.n:=Wf.ne k9.wf hJ9;have kf:=kr.up (o:= .frz (rf x.r.n x.r.g)) w k9.le hr;have hJf:=gB9 (o:= .frz (rf x.r.n x.r.g)) nJ hJr;refine If.t<|gJ4<|gH9 rfl<|gA0<|gE6<|gE6<|gR7 e31 h9<|gA2<| .e g<|m_v rfl<|gA2<| .i<|m_v rfl<|gA0<|gE6<|gE6<|gR7 e31 h9<|gA2<| .e g<|m_v rfl<|gA2<| .i<|m_v rfl<|gA1<|kk (iX5 rfl rfl) ?_;refine hB8 e19 hJr<| .i<|gA2<|jX1 hr<| .e (jL3 hJf (by(exact hD4 hj rfl)))<|gK9<|gB0 ⟨rfl,mm,gC9,kf.nil.trans (.upd kf.wf hJf)⟩
structure Dpl(rs:List Row):Prop where
 ok:∀r,r∈rs->r.ok
 len:rs.length<=5
 dv:Dv (tb rs)
 jv:Jv (jd rs)
 js:iZ7 (gL2 0 rs) (tb rs) (jd rs)∈JS
 H:∀y,y∈tb rs->gC2 y.1 (tb rs)=some y.2/\y.2.2∈vals
 hp:∀x,x∈gL2 0 rs->x.r.o=true->∃b,gC2 x.r.n (plI (gL2 0 rs))=some b
noncomputable def kK8(rs:List Row):V:= .tup [.tup (jH2 (tb rs)),tJ (iZ7 (gL2 0 rs) (tb rs) (jd rs))]
theorem lD0{f:Nat}{rs:List Row}{S:St}(w:Wf S)(D:Dpl rs):W (gA4 prog (f+330) 6 [.lst (rs.map Row.V)] S) λu S'=>u=kK8 rs/\Kp [] S S':=by
 have tl:(tb rs).length<=0+rs.length:=hJ6 rs [];have jl:=jE6 rs D.ok;have hl:=D.len;have k2:=((Kp.refl (T:=[]) w).nw (o:=tbO [])).nw (o:=jO []);have h2:=gH3 (o:=jO []) (Wf.new (o:=tbO []) w) (gA6 (S:=S) (o:=tbO []));have j2:((S.new (tbO [])).new (jO [])).h (S.n+1)=some (jO []):=gA6;have ne:S.n≠S.n+1:=by(exact Nat.ne_of_lt (Nat.le_refl S.n.succ))
 refine gB8 (vs:=[.lst (rs.map Row.V)]) rfl rfl<|hZ4<|gA0<|gW4<|gA1<|gC6 ⟨rfl,gA0<|gW4<|gA1<|gC6 ⟨rfl,gA1 ⟨rfl,?_⟩⟩⟩;refine hS4<|hB5<|gF1 rfl rfl<|jW3 ?_;show X (exF prog _ _ _ _ (Lo.sets _ [27,19] [.loc S.n,.loc (S.n+1)]) ((S.new (tbO [])).new (jO []))) _;generalize (S.new (tbO [])).new (jO [])=S2 at k2 h2 j2;refine(gL6 (enc:=Row.V) (K:=120) (full:=rs) (I:=λpre m S'=>Du S.n (S.n+1) (.lst (rs.map Row.V)) pre S m S') (λpre r post hs f m S' I=>⟨_,rfl,?_⟩) _ [] rfl ⟨rfl,rfl,rfl,h2,j2,k2⟩ _ (by(exact nl1 hl rfl))).imp λfl m S3 q=> ?_
 ·have ln:=gS4 hs;exact jS5 w (Nat.le_refl _) (Nat.le_succ _) ne I (D.ok r (gS3 hs)) (λx hx=>D.ok x (hs▸List.mem_append_left _ hx)) (by(exact hD4 (Nat.le_trans ln hl) rfl))
 obtain⟨rfl,e4,eT_,eJ,hT,hJ,kp⟩:=q;refine Nx.nx<|iZ6 eT_ eJ hT hJ D.dv D.jv λm' em=> ?_;have e4:=(em 4 (by decide) (by decide)).trans e4;have eT_:=(em 27 (by decide) (by decide)).trans eT_;have eJ:=(em 19 (by decide) (by decide)).trans eJ;have js:=D.js;have fin:∀ {fl:Fl}{S4:St},(fl= .rt (.tup [.tup (jH2 (tb rs)),tJ (iZ7 (gL2 0 rs) (tb rs) (jd rs))])/\Kp [] S S4)->Op (Fl.out fl) λv=>v=kK8 rs/\Kp [] S S4:=λh=>by rw[h.1];exact .i ⟨rfl,h.2⟩
 refine If.s (λhb=> ?_) λhb=> ?_
 ·have ej:iZ7 (gL2 0 rs) (tb rs) (jd rs)=(match (hS2 (gL2 0 rs)).getLast? with|none=>jd rs|some x=>gJ6 gB5 (rf x.r.n x.r.g) (jd rs)):=if_pos hb;refine(jS6 kp.wf e4 eJ hJ (by(exact kQ7 jl hl rfl)) D.ok hl D.hp).imp λfl m3 S4 q=> ?_;obtain⟨rfl,⟨a,b⟩,hJ',k'⟩:=q;have hJ':S4.h (S.n+1)=some (jO (iZ7 (gL2 0 rs) (tb rs) (jd rs))):=by rw[ej];exact hJ'
  exact Nx.nx<|(hX9 w (Nat.le_refl _) (Nat.le_succ _) ne (a.trans eT_) (b.trans eJ) (k'.one ne hT) hJ' (kp.fr w (Nat.le_succ _) k') (by(exact kQ6 tl (nl2 hl rfl))) js D.H).imp λfl m S' q=>fin q
 ·have ej:iZ7 (gL2 0 rs) (tb rs) (jd rs)=jd rs:=by unfold iZ7;rw[if_neg (by rw[hb];nofun)]
  exact gK9<|(hX9 w (Nat.le_refl _) (Nat.le_succ _) ne eT_ eJ hT (by rw[ej];exact hJ) kp (by(exact kQ6 tl (nl2 hl rfl))) js D.H).imp λfl m S' q=>fin q
section
variable{κ β:Type}[DecidableEq κ]
theorem hA4{n:κ}{x:β}:∀ {d:List (κ×β)},(gJ6 n x d).map (·.1)=if n∈d.map (·.1)then d.map (·.1)else d.map (·.1)++ [n]
 | []=>rfl
 |y::r=>by
  show(if n=y.1 then(y.1,x)::r else y::gJ6 n x r).map (·.1)=_
  by_cases q:n=y.1
  ·rw[if_pos q,if_pos (q▸mS)];rfl
  ·rw[if_neg q,List.map_cons,hA4]
   by_cases m:n∈r.map (·.1)
   ·rw[if_pos m];exact(if_pos (mO _ m)).symm
   ·rw[if_neg m];exact(if_neg λh=>(mC h).elim q m).symm
theorem jV4{n:κ}{x:β}{d:List (κ×β)}(h:(d.map (·.1)).Nodup):((gJ6 n x d).map (·.1)).Nodup:=by
 rw[hA4]
 by_cases m:n∈d.map (·.1)
 ·rw[if_pos m];exact h
 ·rw[if_neg m];exact List.nodup_append.mpr ⟨h,List.nodup_cons.mpr ⟨List.not_mem_nil,.nil⟩,λa ha b hb=>by rw[List.mem_singleton.mp hb];rintro rfl;exact m ha⟩
theorem hZ7{n:κ}{x:β}{y:κ×β}:∀ {d:List (κ×β)},y∈gJ6 n x d->y=(n,x)\/y∈d
 | [],h=> .inl (List.mem_singleton.mp h)
 |z::r,h=>by
  have h:y∈(if n=z.1 then(z.1,x)::r else z::gJ6 n x r):=h
  by_cases q:n=z.1
  ·rw[if_pos q]at h;exact(mC h).imp (λe=>by rw[e,q]) λh=>mO _ h
  ·rw[if_neg q]at h;rcases mC h with e|h
   ·exact .inr (e▸mS)
   ·exact(hZ7 h).imp id λh=>mO _ h
theorem iA0{n:κ}{x:β}:∀ {d:List (κ×β)},gC2 n d=some x->(n,x)∈d
 | [],h=>by cases h
 |z::r,h=>by
  have h:(if n=z.1 then some z.2 else gC2 n r)=some x:=h
  by_cases q:n=z.1
  ·rw[if_pos q]at h;cases h;rw[q];exact mS
  ·rw[if_neg q]at h;exact mO _ (iA0 h)
theorem gI3{y:κ×β}:∀ {d:List (κ×β)},y∈d->(d.map (·.1)).Nodup->gC2 y.1 d=some y.2
 | [],h,_=>gQ0 h
 |z::r,h,nd=>by
  refine e02 (List.nodup_cons.mp nd) λn1 n2=> ?_;show(if y.1=z.1 then some z.2 else gC2 y.1 r)=_;rcases mC h with rfl|h
  ·exact if_pos rfl
  ·rw[if_neg λe=>n1 (List.mem_map.mpr ⟨y,h,e⟩)];exact gI3 h n2
theorem iS1{n:κ}:∀ {d:List (κ×β)},(d.map (·.1)).Nodup->hO5 n d=d.filter λy=> !decide (n=y.1)
 | [],_=>rfl
 |z::r,nd=>by
  refine e02 (List.nodup_cons.mp nd) λn1 n2=> ?_;rw[List.filter_cons];show(if n=z.1 then r else z::hO5 n r)=_
  by_cases q:n=z.1
  ·rw[if_pos q,if_neg (by simp[q])];exact(List.filter_eq_self.mpr λy hy=>by rw[decide_eq_false λe=>n1 (List.mem_map.mpr ⟨y,hy,by rw[←e,q]⟩)];rfl).symm
  ·rw[if_neg q,if_pos (by rw[decide_eq_false q];rfl),iS1 n2]
theorem gZ6{p:κ×β->Bool}{d:List (κ×β)}(h:(d.map (·.1)).Nodup):((d.filter p).map (·.1)).Nodup:=h.sublist (List.filter_sublist.map _)
end
structure Tk(d:Tb):Prop where
 nd:(d.map (·.1)).Nodup
 v:∀y,y∈d->y.2.2∈vals
theorem iU1:∀(rs:List Row) (d:Tb),(∀r,r∈rs->r.ok)->Tk d->Tk (rs.foldl tbF d)
 | [],_,_,t=>t
 |r::rs,d,ok,t=>iU1 rs (tbF d r) (λx h=>ok x (mO _ h)) (by
  unfold tbF
  by_cases q:r.o=true/\0<r.n
  ·rw[if_pos q];exact⟨jV4 t.nd,λy hy=>(hZ7 hy).elim (λe=>by rw[e];exact((ok r (mS)).obj q.1).2.2) (t.v y)⟩
  ·rw[if_neg q];exact t)
theorem Tk.dv{d:Tb}(t:Tk d):Dv d:=⟨λn y h=>t.v _ (iA0 h)⟩
theorem gZ3(x:Int):∀l:List Int,(gZ4 x l).Perm (x::l)
 | []=> .refl _
 |y::l=>by
  show(if x<=y then x::y::l else y::gZ4 x l).Perm _
  by_cases h:x<=y
  ·rw[if_pos h]
  ·rw[if_neg h];exact((gZ3 x l).cons y).trans (.swap x y l)
theorem gE5:∀l:List Int,(gA5 l).Perm l
 | []=> .refl _
 |x::l=>(gZ3 x _).trans ((gE5 l).cons x)
theorem iL8{x:Int}:∀ {l:List Int},l.Pairwise (· <= ·)->(gZ4 x l).Pairwise (· <= ·)
 | [],_=>List.pairwise_singleton ..
 |y::l,h=>by
  refine e02 (List.pairwise_cons.mp h) λa b=> ?_;show(if x<=y then x::y::l else y::gZ4 x l).Pairwise _
  by_cases q:x<=y
  ·rw[if_pos q];exact List.pairwise_cons.mpr ⟨λz hz=>(mC hz).elim (λe=>e▸q) λhz=>Int.le_trans q (a z hz),h⟩
  ·rw[if_neg q];refine List.pairwise_cons.mpr ⟨λz hz=> ?_,iL8 b⟩;rcases mC ((gZ3 x l).mem_iff.mp hz)with rfl|hz
   ·lia
   ·exact a z hz
theorem hU4:∀l:List Int,(gA5 l).Pairwise (· <= ·)
 | []=> .nil
 |x::l=>iL8 (hU4 l)
theorem iU8{l:List Int}(h:l.Nodup):(gA5 l).Pairwise (· < ·):=by have n:=(gE5 l).nodup_iff.mpr h;exact((hU4 l).and n).imp λ⟨a,b⟩=>Int.lt_iff_le_and_ne.mpr ⟨a,b⟩
theorem hO4{n m:Int}(h:n≠m):∀ {d:Tb},gC2 n (hO5 m d)=gC2 n d
 | []=>rfl
 |z::r=>by
  show gC2 n (if m=z.1 then r else z::hO5 m r)=(if n=z.1 then some z.2 else gC2 n r)
  by_cases q:m=z.1
  ·rw[if_pos q,if_neg λe=>h (e.trans q.symm)]
  ·rw[if_neg q];show(if n=z.1 then some z.2 else gC2 n (hO5 m r))=_;rw[hO4 h]
theorem iD8{n m:Int}{d:Tb}(h:n≠m):gC2 n (gF5 d m)=gC2 n d:=by
 unfold gF5
 cases gC2 m d with
 |none=>rfl
 |some y=>
  show gC2 n (if bad y.2=true then hO5 m d else d)=_
  by_cases q:bad y.2=true
  ·rw[if_pos q,hO4 h]
  ·rw[if_neg q]
theorem hE9{n:Int}:∀(l:List Int) (d:Tb),n∉l->gC2 n (l.foldl gF5 d)=gC2 n d
 | [],_,_=>rfl
 |m::l,d,h=>(hE9 l (gF5 d m) λq=>h (mO _ q)).trans (iD8 λe=>h (e▸mS))
theorem hY1{d:Tb}{n:Int}(nd:(d.map (·.1)).Nodup):gF5 d n=d.filter λy=> !(bad y.2.2&&decide (n=y.1)):=by
 unfold gF5
 cases e:gC2 n d with
 |none=>
  refine(List.filter_eq_self.mpr λy hy=> ?_).symm;have:n≠y.1:=λq=>by rw[q,gI3 hy nd]at e;cases e
  rw[decide_eq_false this,Bool.and_false];rfl
 |some z=>
  show(if bad z.2=true then hO5 n d else d)=_;have key:∀y,y∈d->n=y.1->y.2=z:=λy hy q=>by rw[q,gI3 hy nd]at e;exact Option.some.inj e
  by_cases q:bad z.2=true
  ·rw[if_pos q,iS1 nd];refine List.filter_congr λy hy=> ?_
   by_cases h:n=y.1
   ·rw[dT h,key y hy h,q];simp[h]
   ·rw[decide_eq_false h,Bool.and_false]
  ·rw[if_neg q];refine(List.filter_eq_self.mpr λy hy=> ?_).symm
   by_cases h:n=y.1
   ·rw[key y hy h];simp[q]
   ·rw[decide_eq_false h,Bool.and_false];rfl
theorem hY0:∀(l:List Int) (d:Tb),(d.map (·.1)).Nodup->l.foldl gF5 d=d.filter λy=> !(bad y.2.2&&l.any λn=>decide (n=y.1))
 | [],d,_=>(List.filter_eq_self.mpr λy δ=>by show(!(bad y.2.2&&false))=true;rw[Bool.and_false];rfl).symm
 |n::l,d,nd=>by show l.foldl gF5 (gF5 d n)=_;rw[hY0 l _ (by rw[hY1 nd];exact gZ6 nd),hY1 nd,List.filter_filter];refine List.filter_congr λy δ=> ?_;rw[List.any_cons];cases bad y.2.2<;>cases decide (n=y.1)<;>cases (l.any λn=>decide (n=y.1))<;>rfl
theorem iD0{d:Tb}(nd:(d.map (·.1)).Nodup):dF d=d.filter λy=> !bad y.2.2:=by unfold dF;rw[hY0 _ _ nd];refine List.filter_congr λy hy=> ?_;have:(gA5 (d.map (·.1))).any (λn=>decide (n=y.1))=true:=List.any_eq_true.mpr ⟨y.1,(gE5 _).mem_iff.mpr (List.mem_map_of_mem hy),dT rfl⟩;rw[this,Bool.and_true]
theorem jK8{d:Tb}(nd:(d.map (·.1)).Nodup):jH2 d=(gA5 ((dF d).map (·.1))).map (gU4 (dF d)):=by
 have kl:gP0 d=(dF d).map (·.1):=by unfold gP0;rw[iD0 nd]
 have inc:=(iU8 nd).filter λn=>(gP0 d).any λy=>decide (n=y);have p:=(gE5 (d.map (·.1))).filter λn=>(gP0 d).any λy=>decide (n=y)
 have e:(d.map (·.1)).filter (λn=>(gP0 d).any λy=>decide (n=y))=(dF d).map (·.1):=by
  rw[List.filter_map,iD0 nd]
  congr 1
  refine List.filter_congr λy hy=> ?_;show((gP0 d).any λz=>decide (y.1=z))= !bad y.2.2;unfold gP0;rw[Bool.eq_iff_iff,List.any_eq_true];constructor
  ·rintro ⟨z,hz,q⟩;obtain⟨x,hx,rfl⟩:=List.mem_map.mp hz;refine e02 (List.mem_filter.mp hx) λa b=> ?_;have:x.2=y.2:=by have h1:=gI3 hy nd;rw[oX q,gI3 a nd]at h1;exact Option.some.inj h1
   rw[←this];exact b
  ·intro h;exact⟨y.1,List.mem_map_of_mem (f:=λy:Int×(Int×V)=>y.1) (List.mem_filter.mpr ⟨hy,h⟩),dT rfl⟩
 rw[e]at p;have s:=hC5 p;rw[gX7 inc]at s;unfold jH2;rw[s];refine List.map_congr_left λn hn=> ?_;obtain⟨y,hy,rfl⟩:=List.mem_map.mp ((gE5 _).mem_iff.mp hn);have hy':=hy;rw[iD0 nd]at hy';have g:=gI3 (List.mem_filter.mp hy').1 nd;have g':=gI3 hy (by rw[iD0 nd];exact gZ6 nd);unfold gU4;rw[g,g']
theorem kI7{r:Row}(h:r.ok)(a:r.has=true):(dk r).filter (λp=>nin gE9 p.1)=(kvH r).filter λp=>nin gG6 p.1:=by
 unfold Row.has at a;unfold dk kvH
 cases o:r.o with
 |false=>
  obtain⟨i,t,s,e⟩:=jC7 (h.tra o).2.2;show(gV9 r.v).filter _=(gV9 r.v).filter _;rw[e]
  cases i<;>cases t<;>cases s<;>rfl
 |true=>
  rw[o]at a;have a:isX r.v=true:=a;have xi:=kS6 (h.obj o).2.2 a;rw[a];show(gH4 own [] (gV9 (gP1 r.v))).filter _=(gV9 (gP1 r.v)).filter _;generalize r.v=v at xi;rcases xi with rfl|rfl|rfl<;>rfl
theorem kG5{r:Row}(a:r.has=false):kvH r=[]:=by
 unfold Row.has at a;unfold kvH
 cases o:r.o with
 |false=>rw[o]at a;cases a
 |true=>
  rw[o]at a;have a:isX r.v=false:=a;rw[a]
theorem kG8:∀(L:List LR) (J:KL),(∀x,x∈L->x.r.ok)->((L.filter λx=>x.r.has).map λx=>dk x.r).foldl (gH4 gE9) J=(L.map (·.r)).foldl (λJ r=>gH4 gG6 J (kvH r)) J
 | [],_,_=>rfl
 |x::L,J,ok=>by
  have ih:=λJ=>kG8 L J λy h=>ok y (mO _ h);rw[List.filter_cons]
  cases a:x.r.has with
  |true=>
   rw[if_pos rfl];show((L.filter λx=>x.r.has).map λx=>dk x.r).foldl (gH4 gE9) (gH4 gE9 J (dk x.r))=(L.map (·.r)).foldl _ (gH4 gG6 J (kvH x.r));rw[ih];have:gH4 gE9 J (dk x.r)=gH4 gG6 J (kvH x.r):=by unfold gH4;rw[kI7 (ok x (mS)) a]
   rw[this]
  |false=>
   rw[if_neg nofun,ih];show _=(L.map (·.r)).foldl _ (gH4 gG6 J (kvH x.r));rw[kG5 a];rfl
noncomputable def rt0:List (Option (Int×Int)):=[none,some (1,0),some (2,0),some (3,0)]
noncomputable def Sh0(J:KL):Prop:=∃b,∃i∈on (gK8 4),∃r∈rt0,J=jl b i r
theorem kV9{b:Bool}{i:Option Int}{r:Option (Int×Int)}{x:Int}:∃b',gJ6 iH0 (.int x) (jl b i r)=jl b' (some x) r:=by cases b<;>cases i<;>cases r<;>first|exact⟨true,rfl⟩|exact⟨false,rfl⟩
theorem jL1{b:Bool}{i:Option Int}{r:Option (Int×Int)}{x:Int×Int}:∃b',gJ6 gB5 (rf x.1 x.2) (jl b i r)=jl b' i (some x):=by cases b<;>cases i<;>cases r<;>first|exact⟨true,rfl⟩|exact⟨false,rfl⟩
theorem kD6{b:Bool}{i i':Option Int}{r r':Option (Int×Int)}:∃b',(jl true i' r').foldl hN9 (jl b i r)=jl b' (i'.or i) (r'.or r):=by
 cases i' with
 |none=>
  cases r' with
  |none=>exact⟨b,rfl⟩
  |some x=>exact jL1
 |some y=>
  obtain⟨b1,e1⟩:=kV9 (b:=b) (i:=i) (r:=r) (x:=y)
  cases r' with
  |none=>exact⟨b1,e1⟩
  |some x=>
   obtain⟨b2,e2⟩:=jL1 (b:=b1) (i:=some y) (r:=r) (x:=x);exact⟨b2,by show gJ6 gB5 (rf x.1 x.2) (gJ6 iH0 (.int y) (jl b i r))=_;rw[e1,e2];rfl⟩
theorem kI6{r:Row}(h:r.ok):∃i∈on (gK8 4),∃t∈rt0,(kvH r).filter (λp=>nin gG6 p.1)=jl true i t:=by
 cases o:r.o with
 |false=>
  obtain⟨i,hi,hv⟩:=List.mem_flatMap.mp (h.tra o).2.2;obtain⟨t,ht,hv⟩:=List.mem_flatMap.mp hv
  have:∃s,r.v=vT i t s:=by
   rcases mC hv with e|hv
   ·exact⟨_,e⟩
   ·exact⟨_,List.mem_singleton.mp hv⟩
  obtain⟨s,e⟩:=this;refine⟨i,hi,t.map λn=>(n,0),?_,?_⟩
  ·have ht:t∈ [none,some 1,some 2,some 3]:=ht;rcases mC ht with rfl|ht
   ·exact mS
   rcases mC ht with rfl|ht
   ·exact mO _ (mS)
   rcases mC ht with rfl|ht
   ·exact mO _ (mO _ (mS))
   ·rw[List.mem_singleton.mp ht];exact mO _ (mO _ (mO _ (mS)))
  ·have ek:kvH r=gV9 (vT i t s):=by unfold kvH;rw[o,e]
   rw[ek]
   cases i<;>cases t<;>cases s<;>rfl
 |true=>
  cases a:isX r.v with
  |false=>
   have ek:kvH r=[]:=by unfold kvH;rw[o,a]
   rw[ek]
   exact⟨none,mS,none,mS,rfl⟩
  |true=>
   have xi:=kS6 (h.obj o).2.2 a;have ek:kvH r=gV9 (gP1 r.v):=by unfold kvH;rw[o,a]
   rw[ek];generalize r.v=v at xi;rcases xi with rfl|rfl|rfl
   ·exact⟨none,mS,some (1,0),mO _ (mS),rfl⟩
   ·exact⟨none,mS,some (2,0),mO _ (mO _ (mS)),rfl⟩
   ·exact⟨none,mS,some (3,0),mO _ (mO _ (mO _ (mS))),rfl⟩
theorem jD6{α:Type}{a b:Option α}{l:List (Option α)}(ha:a∈l)(hb:b∈l):a.or b∈l:=by cases a<;>assumption
theorem iX6:∀(rs:List Row) (J:KL),(∀r,r∈rs->r.ok)->Sh0 J->Sh0 (rs.foldl (λJ r=>gH4 gG6 J (kvH r)) J)
 | [],_,_,h=>h
 |r::rs,J,ok,h=>iX6 rs (gH4 gG6 J (kvH r)) (λx h=>ok x (mO _ h)) (by
  obtain⟨b,i,hi,t,ht,rfl⟩:=h;obtain⟨i',hi',t',ht',e⟩:=kI6 (ok r (mS));unfold gH4;rw[e];obtain⟨b',e'⟩:=kD6 (b:=b) (i:=i) (i':=i') (r:=t) (r':=t')
  exact⟨b',_,jD6 hi' hi,_,jD6 ht' ht,e'⟩)
theorem Sh0.jv{J:KL}(h:Sh0 J):Jv J:=by
 obtain⟨b,i,_,r,hr,rfl⟩:=h;refine⟨λv hv=> ?_⟩;have:gC2 gB5 (jl b i r)=r.map λr=>rf r.1 r.2:=by cases b<;>cases i<;>cases r<;>rfl
 rw[this]at hv
 cases r with
 |none=>cases hv
 |some x=>
  cases hv;have hr:some x∈ [none,some (1,0),some (2,0),some (3,0)]:=hr;simp at hr;rcases hr with rfl|rfl|rfl<;>exact⟨_,rfl⟩
theorem jE4{b:Bool}{i:Option Int}{r:Option (Int×Int)}(hi:i∈on (gK8 4))(hr:r∈rts):jl b i r∈JS:=List.mem_flatMap.mpr ⟨b,by cases b<;>simp,List.mem_flatMap.mpr ⟨i,hi,List.mem_map_of_mem hr⟩⟩
theorem Sh0.js{J:KL}(h:Sh0 J):J∈JS:=by obtain⟨b,i,hi,r,hr,rfl⟩:=h;refine jE4 hi ?_;have hr:r∈ [none,some (1,0),some (2,0),some (3,0)]:=hr;simp at hr;rcases hr with rfl|rfl|rfl|rfl<;>simp[rts]
theorem Sh0.js'{J:KL}(h:Sh0 J){n g:Int}(hn:n=1\/n=2\/n=3)(hg:g=0\/g=1):gJ6 gB5 (rf n g) J∈JS:=by obtain⟨b,i,hi,r,hr,rfl⟩:=h;obtain⟨b',e⟩:=jL1 (b:=b) (i:=i) (r:=r) (x:=(n,g));rw[show gJ6 gB5 (rf n g) (jl b i r)=_ from e];refine jE4 hi ?_;rcases hn with rfl|rfl|rfl<;>rcases hg with rfl|rfl<;>simp[rts]
theorem iF7:∀(rs:List Row) (d:Tb) (n:Int),(n∈(rs.foldl tbF d).map (·.1))↔(n∈d.map (·.1)\/∃r∈rs,r.o=true/\0<r.n/\r.n=n)
 | [],d,n=>⟨.inl,λh=>h.elim id λ⟨_,h,_⟩=>gQ0 h⟩
 |r::rs,d,n=>by
  show n∈(rs.foldl tbF (tbF d r)).map (·.1)↔_;rw[iF7 rs (tbF d r) n]
  have:n∈(tbF d r).map (·.1)↔n∈d.map (·.1)\/(r.o=true/\0<r.n/\r.n=n):=by
   unfold tbF
   by_cases q:r.o=true/\0<r.n
   ·rw[if_pos q,hA4]
    by_cases m:r.n∈d.map (·.1)
    ·rw[if_pos m];exact⟨.inl,λh=>h.elim id λh=>h.2.2▸m⟩
    ·rw[if_neg m,List.mem_append,List.mem_singleton];exact⟨λh=>h.imp id λe=>⟨q.1,q.2,e.symm⟩,λh=>h.imp id λe=>e.2.2.symm⟩
   ·rw[if_neg q];exact⟨.inl,λh=>h.elim id λh=>absurd ⟨h.1,h.2.1⟩ q⟩
  rw[this];constructor
  ·rintro ((h|h)|⟨x,hx,h⟩)
   ·exact .inl h
   ·exact .inr ⟨r,mS,h⟩
   ·exact .inr ⟨x,mO _ hx,h⟩
  ·rintro (h|⟨x,hx,h⟩)
   ·exact .inl (.inl h)
   ·rcases mC hx with rfl|hx
    ·exact .inl (.inr h)
    ·exact .inr ⟨x,hx,h⟩
noncomputable def plF(p:List (Int×Int))(x:LR):List (Int×Int):=gJ6 x.r.n x.b p
theorem gR5{n m b:Int}:∀ {p:List (Int×Int)},gC2 n (gJ6 m b p)=if n=m then some b else gC2 n p
 | []=>rfl
 |y::p=>by
  show gC2 n (if m=y.1 then(y.1,b)::p else y::gJ6 m b p)=_
  by_cases q:m=y.1
  ·rw[if_pos q];show(if n=y.1 then some b else gC2 n p)=if n=m then some b else if n=y.1 then some y.2 else gC2 n p
   rw[q]
   by_cases h:n=y.1
   ·rw[if_pos h,if_pos h]
   ·rw[if_neg h,if_neg h,if_neg h]
  ·rw[if_neg q];show(if n=y.1 then some y.2 else gC2 n (gJ6 m b p))=if n=m then some b else if n=y.1 then some y.2 else gC2 n p
   rw[gR5]
   by_cases h:n=y.1
   ·rw[if_pos h,if_neg λe=>q (e.symm.trans h),if_pos h]
   ·rw[if_neg h,if_neg h]
theorem iH8(n:Int):∀(l:List LR) (p:List (Int×Int)),(∃y∈l,y.r.n=n/\gC2 n (l.foldl plF p)=some y.b)\/((∀y,y∈l->y.r.n≠n)/\gC2 n (l.foldl plF p)=gC2 n p)
 | [],p=> .inr ⟨gC4,rfl⟩
 |x::l,p=>by
  rcases iH8 n l (plF p x)with⟨y,hy,h,e⟩|⟨h,e⟩
  ·exact .inl ⟨y,mO _ hy,h,e⟩
  ·by_cases q:x.r.n=n
   ·refine .inl ⟨x,mS,q,e.trans ?_⟩;unfold plF;rw[gR5,if_pos q.symm]
   ·refine .inr ⟨λy hy=>(mC hy).elim (λe=>e▸q) (h y),e.trans ?_⟩;unfold plF;rw[gR5,if_neg λe=>q e.symm]
theorem hZ2(d:Tb){O:List LR}(inc:O.Pairwise λx y=>x.b<y.b)(key:∀x,x∈O->(d.any (λy=>decide (x.r.n=y.1))=true↔0<x.r.n)):∀(N suf:List LR) (seen:List Int),O=N.reverse++suf->
  (∀x,x∈O->0<x.r.n->(seen.any (λy=>decide (x.r.n=y))=true↔∃y∈suf,y.r.n=x.r.n))->
  lc d seen N=(N.reverse.filter λx=>(decide (0<x.r.n)&&(gC2 x.r.n (O.foldl plF [])==some x.b))&&x.r.cat).getLast?
 | [],_,_,_,_=>rfl
 |x::N,suf,seen,hO,hs=>by
  rw[List.reverse_cons]at hO;have hO':O=N.reverse++(x::suf):=by rw[hO,List.append_assoc];rfl
  have hx:x∈O:=by rw[hO'];exact List.mem_append_right _ (mS)
  have kx:=key x hx
  have last:(gC2 x.r.n (O.foldl plF [])==some x.b)=true↔¬∃y∈suf,y.r.n=x.r.n:=by
   have e:O.foldl plF []=(x::suf).foldl plF (N.reverse.foldl plF []):=by rw[hO',List.foldl_append]
   rw[e];have pw:=inc;rw[hO',List.pairwise_append]at pw;have px:=(List.pairwise_cons.mp pw.2.1).1;show(gC2 x.r.n (suf.foldl plF (plF (N.reverse.foldl plF []) x))==some x.b)=true↔_;rcases iH8 x.r.n suf (plF (N.reverse.foldl plF []) x)with⟨y,hy,h,e⟩|⟨h,e⟩
   ·rw[e];refine⟨λq=> ?_,λq=>absurd ⟨y,hy,h⟩ q⟩;have:=Option.some.inj (bE q);have:=px y hy;lia
   ·rw[e];refine⟨λδ ⟨y,hy,q⟩=>h y hy q,λδ=> ?_⟩;unfold plF;rw[gR5,if_pos rfl];exact beq_self_eq_true _
  have fz:∀P:LR->Bool,P x=false-> [x].filter P=[]:=λP h=>by rw[List.filter_cons,if_neg (by rw[h];nofun)];rfl
  have fo:∀P:LR->Bool,P x=true-> [x].filter P=[x]:=λP h=>by rw[List.filter_cons,if_pos h];rfl
  rw[List.reverse_cons,List.filter_append,kQ9]
  by_cases hn:0<x.r.n
  ·by_cases hq:seen.any (λy=>decide (x.r.n=y))=true
   ·have nl:(gC2 x.r.n (O.foldl plF [])==some x.b)=false:=by
     cases q:(gC2 x.r.n (O.foldl plF [])==some x.b)with
     |false=>rfl
     |true=>exact absurd ((hs x hx hn).mp hq) (last.mp q)
    rw[if_neg (λh=>by rw[hq]at h;exact nomatch h.2),fz _ (show(decide (0<x.r.n)&&(gC2 x.r.n (O.foldl plF [])==some x.b)&&x.r.cat)=false by rw[nl,Bool.and_false];rfl),List.append_nil];refine hZ2 d inc key N (x::suf) seen hO' λz hz h=>(hs z hz h).trans ⟨λ⟨y,hy,e⟩=>⟨y,mO _ hy,e⟩,λ⟨y,hy,e⟩=> ?_⟩;rcases mC hy with rfl|hy
    ·refine e12 ((hs y hx hn).mp hq) λy' hy' e'=> ?_;exact⟨y',hy',e'.trans e⟩
    ·exact⟨y,hy,e⟩
   ·have hq':seen.any (λy=>decide (x.r.n=y))=false:=by cases q:seen.any (λy=>decide (x.r.n=y))with|false=>rfl|true=>exact absurd q hq
    have il:(gC2 x.r.n (O.foldl plF [])==some x.b)=true:=last.mpr λh=>hq ((hs x hx hn).mpr h);rw[if_pos ⟨kx.mpr hn,hq'⟩]
    by_cases hc:x.r.cat=true
    ·rw[if_pos hc,fo _ (show(decide (0<x.r.n)&&(gC2 x.r.n (O.foldl plF [])==some x.b)&&x.r.cat)=true by rw[il,hc,dT hn];rfl),List.getLast?_append];rfl
    ·rw[if_neg hc,fz _ (show(decide (0<x.r.n)&&(gC2 x.r.n (O.foldl plF [])==some x.b)&&x.r.cat)=false by rw[Bool.eq_false_iff.mpr hc,Bool.and_false]),List.append_nil];refine hZ2 d inc key N (x::suf) _ hO' λz hz h=> ?_;rw[List.any_append,Bool.or_eq_true,hs z hz h];constructor
     ·rintro (⟨y,hy,e⟩|h)
      ·exact⟨y,mO _ hy,e⟩
      ·have h:(decide (z.r.n=x.r.n)||false)=true:=h;rw[Bool.or_false]at h;exact⟨x,mS,(oX h).symm⟩
     ·rintro ⟨y,hy,e⟩;rcases mC hy with rfl|hy
      ·exact .inr (by show(decide (z.r.n=y.r.n)||false)=true;rw[Bool.or_false];exact dT e.symm)
      ·exact .inl ⟨y,hy,e⟩
  ·rw[if_neg (λh=>hn (kx.mp h.1)),fz _ (show(decide (0<x.r.n)&&(gC2 x.r.n (O.foldl plF [])==some x.b)&&x.r.cat)=false by rw[decide_eq_false hn];rfl),List.append_nil];refine hZ2 d inc key N (x::suf) seen hO' λz hz h=>(hs z hz h).trans ⟨λ⟨y,hy,e⟩=>⟨y,mO _ hy,e⟩,λ⟨y,hy,e⟩=> ?_⟩;rcases mC hy with rfl|hy
   ·exact absurd (e▸h) hn
   ·exact⟨y,hy,e⟩
theorem iR9{n:Int}{d:Tb}:d.any (λy=>decide (n=y.1))=true↔n∈d.map (·.1):=by
 rw[List.any_eq_true]
 exact⟨λ⟨y,hy,e⟩=>List.mem_map.mpr ⟨y,hy,(oX e).symm⟩,λh=>by
  refine e12 (List.mem_map.mp h) λy hy e=> ?_
  exact⟨y,hy,dT e.symm⟩⟩
theorem kN5{L:List LR}(inc:L.Pairwise λx y=>x.b<y.b):lc (tbL L) [] (L.filter (·.r.o)).reverse=(hS2 L).getLast?:=by
 have key:∀x,x∈L.filter (·.r.o)->((tbL L).any (λy=>decide (x.r.n=y.1))=true↔0<x.r.n):=λx hx=>by
  refine e02 (List.mem_filter.mp hx) λa b=> ?_;rw[iR9];unfold tbL tb;rw[iF7];constructor
  ·rintro (h|⟨r,_,_,h,e⟩)
   ·cases h
   ·rw[←e];exact h
  ·intro h;exact .inr ⟨x.r,List.mem_map_of_mem a,b,h,rfl⟩
 have h:=hZ2 (tbL L) (inc.filter _) key (L.filter (·.r.o)).reverse [] [] (by rw[List.reverse_reverse,List.append_nil]) λx δ δ=>⟨nofun,λ⟨_,h,_⟩=>gQ0 h⟩
 rw[h,List.reverse_reverse];unfold hS2 gV2 plI;rw[List.filter_filter,List.filter_filter]
 congr 1
 refine List.filter_congr λx δ=> ?_;show(_&&x.r.o)=(x.r.cat&&(x.r.o&&_));cases x.r.o<;>cases x.r.cat<;>simp[plF];rfl
noncomputable def lcR(d:Tb):List Int->List Row->Option Row
 |_,[]=>none
 |seen,x::r=>if d.any (λy=>decide (x.n=y.1))=true/\seen.any (λy=>decide (x.n=y))=false then(if x.cat=true then some x else lcR d (seen++ [x.n]) r)else lcR d seen r
theorem kY2(d:Tb)(s:List Int)(x:Row)(r:List Row):lcR d s (x::r)=if d.any (λy=>decide (x.n=y.1))=true/\s.any (λy=>decide (x.n=y))=false then(if x.cat=true then some x else lcR d (s++ [x.n]) r)else lcR d s r:=rfl
theorem kQ8(d:Tb):∀(l:List LR) (seen:List Int),(lc d seen l).map (·.r)=lcR d seen (l.map (·.r))
 | [],_=>rfl
 |x::l,seen=>by
  show(lc d seen (x::l)).map _=lcR d seen (x.r::l.map (·.r));rw[kQ9,kY2]
  by_cases h:d.any (λy=>decide (x.r.n=y.1))=true/\seen.any (λy=>decide (x.r.n=y))=false
  ·rw[if_pos h,if_pos h]
   by_cases c:x.r.cat=true
   ·rw[if_pos c,if_pos c];rfl
   ·rw[if_neg c,if_neg c];exact kQ8 d l _
  ·rw[if_neg h,if_neg h];exact kQ8 d l _
theorem gS2:∀(i:Nat) (rs:List Row),(gL2 i rs).map (·.r)=rs
 |_,[]=>rfl
 |i,r::rs=>congrArg (r:: ·) (gS2 (i+1) rs)
theorem jD5:∀(i:Nat) (rs:List Row) (x:LR),x∈gL2 i rs->(i:Int)<=x.b
 |_,[],_,h=>gQ0 h
 |i,r::rs,x,h=>(mC h).elim (λe=>e▸Int.le_refl _) λh=>Int.le_trans (by show(i:Int)<=((i+1:Nat):Int);lia) (jD5 (i+1) rs x h)
theorem hQ1:∀(i:Nat) (rs:List Row),(gL2 i rs).Pairwise λx y=>x.b<y.b
 |_,[]=> .nil
 |i,r::rs=>List.pairwise_cons.mpr ⟨λx hx=>by
   have:=jD5 (i+1) rs x hx;show(i:Int)<x.b
   (exact this),hQ1 (i+1) rs⟩
theorem Tk.z:Tk []:=⟨.nil,gC4⟩
theorem jP7{L:List LR}(ok:∀x,x∈L->x.r.ok):jn L=jd (L.map (·.r)):=kG8 L [] ok
theorem Sh0.z:Sh0 []:=⟨true,none,mS,none,mS,rfl⟩
theorem kG9{L:List LR}(ok:∀x,x∈L->x.r.ok):jF L∈JS:=by
 have sh:Sh0 (jn L):=by rw[jP7 ok];exact iX6 _ [] (λr hr=>by obtain⟨x,hx,rfl⟩:=List.mem_map.mp hr;exact ok x hx) .z
 unfold jF
 by_cases hb:rb (tbL L) (jn L)=true
 ·rw[if_pos hb]
  have mem:∀(l:List LR) (seen:List Int) (x:LR),lc (tbL L) seen l=some x->x∈l/\(tbL L).any (λy=>decide (x.r.n=y.1))=true:=λl=>by
   induction l with
   |nil=>intro seen x h;cases h
   |cons y l ih=>
    intro seen x h;rw[kQ9]at h
    by_cases q:(tbL L).any (λz=>decide (y.r.n=z.1))=true/\seen.any (λz=>decide (y.r.n=z))=false
    ·rw[if_pos q]at h
     by_cases c:y.r.cat=true
     ·rw[if_pos c]at h;have:=Option.some.inj h;subst this;exact⟨mS,q.1⟩
     ·rw[if_neg c]at h;exact⟨mO _ (ih _ _ h).1,(ih _ _ h).2⟩
    ·rw[if_neg q]at h;exact⟨mO _ (ih _ _ h).1,(ih _ _ h).2⟩
  cases e:lc (tbL L) [] (L.filter (·.r.o)).reverse with
  |none=>exact sh.js
  |some x=>
   refine e02 (mem _ _ _ e) λa b=> ?_;refine e02 (List.mem_filter.mp (List.mem_reverse.mp a)) λhx ho=> ?_;refine e03 ((ok x hx).obj ho) λhn hg δ=> ?_
   have pos:0<x.r.n:=by
    rw[iR9]at b;unfold tbL tb at b;rw[iF7]at b;rcases b with h|⟨r,_,_,h,e⟩
    ·cases h
    ·rw[←e];exact h
   exact sh.js' (by lia) hg
 ·rw[if_neg hb];exact sh.js
theorem pla{L:List LR}(ok:∀x,x∈L->x.r.ok)(len:L.length<=5)(inc:L.Pairwise λx y=>x.b<y.b):Pla L:=by
 have okr:∀r,r∈L.map (·.r)->r.ok:=λr hr=>by obtain⟨x,hx,rfl⟩:=List.mem_map.mp hr;exact ok x hx
 have tk:Tk (tbL L):=show Tk ((L.map (·.r)).foldl tbF [])from iU1 _ [] okr Tk.z;refine⟨ok,len,inc,tk.dv,?_,kG9 ok,λpre n post h=> ?_,λn hn=> ?_⟩
 ·rw[jP7 ok];exact(iX6 _ [] okr .z).jv
 ·have nd:(gA5 ((tbL L).map (·.1))).Nodup:=(gE5 _).nodup_iff.mpr tk.nd;have np:n∉pre:=λq=>by rw[h,List.nodup_append]at nd;exact nd.2.2 n q n (mS) rfl
  have hm:n∈(tbL L).map (·.1):=(gE5 _).mem_iff.mp (by rw[h];exact List.mem_append_right _ (mS));obtain⟨y,hy,rfl⟩:=List.mem_map.mp hm;exact⟨y.2,(hE9 pre _ np).trans (gI3 hy tk.nd),tk.v y hy⟩
 ·have hm:=(gE5 _).mem_iff.mp hn;obtain⟨y,hy,rfl⟩:=List.mem_map.mp hm;have hy':=hy;rw[iD0 tk.nd]at hy';exact⟨y.2,gI3 hy (by rw[iD0 tk.nd];exact gZ6 tk.nd),tk.v y (List.mem_filter.mp hy').1⟩
theorem jH1{rs:List Row}{L:List LR}(ok:∀r,r∈rs->r.ok)(e:L.map (·.r)=rs):iZ7 (gL2 0 rs) (tb rs) (jd rs)=jF L:=by
 have okL:∀x,x∈L->x.r.ok:=λx hx=>ok _ (e▸List.mem_map_of_mem hx);have ej:jn L=jd rs:=by rw[jP7 okL,e]
 have et:tbL L=tb rs:=by unfold tbL;rw[e]
 unfold iZ7 jF;rw[ej,et]
 by_cases hb:rb (tb rs) (jd rs)=true
 ·rw[if_pos hb,if_pos hb];have c:=kN5 (hQ1 0 rs);have et0:tbL (gL2 0 rs)=tb rs:=by unfold tbL;rw[gS2]
  rw[et0]at c;rw[←c];have f:∀L:List LR,((L.filter (·.r.o)).reverse).map (·.r)=((L.map (·.r)).filter (·.o)).reverse:=λL=>by rw[List.map_reverse,List.filter_map];rfl
  have a:=kQ8 (tb rs) (L.filter (·.r.o)).reverse [];have b:=kQ8 (tb rs) ((gL2 0 rs).filter (·.r.o)).reverse [];rw[f,e]at a;rw[f,gS2]at b;have ab:=a.trans b.symm
  cases h1:lc (tb rs) [] (L.filter (·.r.o)).reverse with
  |none=>
   rw[h1]at ab
   cases h2:lc (tb rs) [] ((gL2 0 rs).filter (·.r.o)).reverse with
   |none=>rfl
   |some y=>rw[h2]at ab;cases ab
  |some x=>
   rw[h1]at ab
   cases h2:lc (tb rs) [] ((gL2 0 rs).filter (·.r.o)).reverse with
   |none=>rw[h2]at ab;cases ab
   |some y=>
    rw[h2]at ab;have ab:x.r=y.r:=Option.some.inj ab;show gJ6 gB5 (rf y.r.n y.r.g) _=gJ6 gB5 (rf x.r.n x.r.g) _;rw[ab]
 ·rw[if_neg hb,if_neg hb]
theorem dpl{rs:List Row}(ok:∀r,r∈rs->r.ok)(len:rs.length<=5):Dpl rs:=by
 have tk:Tk (tb rs):=iU1 rs [] ok Tk.z;have okL:∀x,x∈gL2 0 rs->x.r.ok:=λx hx=>ok _ (iI2 0 rs x hx).2;refine⟨ok,len,tk.dv,(iX6 _ [] ok .z).jv,?_,λy hy=>⟨gI3 hy tk.nd,tk.v y hy⟩,λx hx ho=> ?_⟩
 ·rw[jH1 ok (gS2 0 rs)];exact kG9 okL
 ·rcases iH8 x.r.n ((gL2 0 rs).filter (·.r.o)) []with⟨y,_,_,e⟩|⟨h,_⟩
  ·exact⟨y.b,e⟩
  ·exact absurd rfl (h x (List.mem_filter.mpr ⟨hx,ho⟩))
theorem hM7{rs:List Row}{L:List LR}(ok:∀r,r∈rs->r.ok)(e:L.map (·.r)=rs):kK8 rs=hC6 (dF (tbL L)) (jF L):=by
 have tk:Tk (tb rs):=iU1 rs [] ok Tk.z;have et:tbL L=tb rs:=by unfold tbL;rw[e]
 unfold kK8 hC6;rw[jH1 ok e,jK8 tk.nd,et]
theorem iG8(f:Nat):(∀x y,same f x y=true->same (f+1) x y=true)/\∀x y,gF4 f x y=true->gF4 (f+1) x y=true:=by
 induction f with
 |zero=>exact⟨λδ δ h=>ff h,λδ δ h=>ff h⟩
 |succ f ih=>
  constructor
  ·intro x y h
   cases x with
   |tup a=>
    have h:(match tOf y with|some b=>gF4 f a b|none=>false)=true:=h;show(match tOf y with|some b=>gF4 (f+1) a b|none=>false)=true
    cases e:tOf y with
    |none=>rw[e]at h;exact ff h
    |some b=>rw[e]at h;exact ih.2 _ _ h
   |_=>exact h
  ·intro x y h
   cases x with
   |nil=>exact h
   |cons a r=>
    cases y with
    |nil=>exact h
    |cons b q=>
     have h:(same f a b&&gF4 f r q)=true:=h;show(same (f+1) a b&&gF4 (f+1) r q)=true;refine aN h λh1 h2=> ?_;rw[ih.1 _ _ h1,ih.2 _ _ h2];rfl
theorem gO5{f g:Nat}{x y:V}(h:same f x y=true)(l:f<=g):same g x y=true:=by
 obtain⟨k,rfl⟩:=Nat.exists_eq_add_of_le l;clear l
 induction k with
 |zero=>exact h
 |succ k ih=>exact(iG8 (f+k)).1 _ _ ih
theorem gJ0{f:Nat}:∀ {l:List V},(∀x,x∈l->same f x x=true)->gF4 (f+l.length+1) l l=true
 | [],_=>rfl
 |x::l,h=>by show(same (f+(l.length+1)) x x&&gF4 (f+(l.length+1)) l l)=true;rw[gO5 (h x (mS)) (Nat.le_add_right ..),show f+(l.length+1)=f+l.length+1 from rfl,gJ0 λy hy=>h y (mO _ hy)];rfl
theorem gP6{f g:Nat}{x y:List V}(h:gF4 f x y=true)(l:f<=g):gF4 g x y=true:=by
 obtain⟨k,rfl⟩:=Nat.exists_eq_add_of_le l;clear l
 induction k with
 |zero=>exact h
 |succ k ih=>exact(iG8 (f+k)).2 _ _ ih
theorem iB6{L:List LR}(P:Pla L):∃l,hC6 (dF (tbL L)) (jF L)= .tup l/\gF4 200 l l=true:=by
 refine⟨_,rfl,?_⟩
 have row:∀x,x∈(gA5 ((dF (tbL L)).map (·.1))).map (gU4 (dF (tbL L)))->same 70 x x=true:=λx hx=>by
  obtain⟨n,hn,rfl⟩:=List.mem_map.mp hx;refine e12 (P.to n hn) λy hy hv=> ?_;have t:=(kv (ma hv)).told.2;unfold gU4;rw[hy];show gF4 69 [.int n,.int y.1,gG9 y.2] [.int n,.int y.1,gG9 y.2]=true;refine gP6 (gJ0 (f:=60) λz hz=> ?_) (show 60+3+1<=69 by decide);rcases mC hz with rfl|hz
  ·exact gO5 (f:=1) (beq_self_eq_true _) (by decide)
  rcases mC hz with rfl|hz
  ·exact gO5 (f:=1) (beq_self_eq_true _) (by decide)
  ·rw[List.mem_singleton.mp hz];exact t
 have len:((gA5 ((dF (tbL L)).map (·.1))).map (gU4 (dF (tbL L)))).length<=5:=by
  rw[List.length_map,gD2,List.length_map];have a:=hR8 (gA5 ((tbL L).map (·.1))) (tbL L);have b:=hP2 L;have c:=P.len;unfold dF
  first
   |exact Nat.le_trans a (Nat.le_trans b c)
   |exact nl2 (Nat.le_trans a (Nat.le_trans b c)) rfl
   |exact hD4 (Nat.le_trans a (Nat.le_trans b c)) rfl
 refine gP6 (gJ0 (f:=100) λz hz=> ?_) (show 100+2+1<=200 by decide);rcases mC hz with rfl|hz
 ·show gF4 99 _ _=true;exact gP6 (gJ0 row) (Nat.le_trans (Nat.add_le_add_right (Nat.add_le_add_left len 70) 1) (by decide))
 ·rw[List.mem_singleton.mp hz];exact gO5 (hP3 P.js).1 (by decide)
section
mutual
noncomputable def eqB:Nat->V->V->Bool
 |0,_,_=>false
 |f+1,x,y=>match x with
  | .none=>gD0 y
  | .bool a=>bOf y==some a
  | .int a=>iOf y==some a
  | .str a=>sOf y==some a
  | .bytes a=>yOf y==some a
  | .tup a=>(match y with| .tup b=>jR3 f a b|_=>false)
  | .lst a=>(match y with| .lst b=>jR3 f a b|_=>false)
  | .dct a b=>(match y with| .dct c d=>jR3 f a c&&jR3 f b d|_=>false)
  | .ob c n a=>(match y with| .ob d k b=>decide (c=d)&&(decide (n=k)&&jR3 f a b)|_=>false)
  | .loc k=>kOf y==some k
noncomputable def jR3:Nat->List V->List V->Bool
 |0,_,_=>false
 |f+1,x,y=>match x with
  | []=>y.isEmpty
  |a::r=>(match y with| []=>false|b::q=>eqB f a b&&jR3 f r q)
end
theorem hM5(f:Nat):(∀x y,eqB f x y=true->x=y)/\∀x y,jR3 f x y=true->x=y:=by
 induction f with
 |zero=>exact⟨λδ δ h=>ff h,λδ δ h=>ff h⟩
 |succ f ih=>
  constructor
  ·intro x y h
   cases x with
   |none=>exact(gL3 h).symm
   |bool a=>exact(gM1 (bE h)).symm
   |int a=>exact(gD7 (bE h)).symm
   |str a=>exact(gK6 (bE h)).symm
   |bytes a=>exact(gD6 (bE h)).symm
   |loc k=>exact(gL5 (bE h)).symm
   |tup a=>cases y<;>first|exact ff h|exact congrArg V.tup (ih.2 _ _ h)
   |lst a=>cases y<;>first|exact ff h|exact congrArg V.lst (ih.2 _ _ h)
   |dct a b=>cases y<;>first|exact ff h|exact aN h λp q=>by rw[ih.2 _ _ p,ih.2 _ _ q]
   |ob c n a=>cases y<;>first|exact ff h|exact aN3 h λp q r=>by rw[oX p,oX q,ih.2 _ _ r]
  ·intro x y h
   cases x with
   |nil=>cases y<;>first|rfl|exact ff h
   |cons a r=>cases y<;>first|exact ff h|exact aN h λp q=>by rw[ih.1 _ _ p,ih.2 _ _ q]
noncomputable def eqO(o:Option O)(p:O):Bool:=match o with
 |some (.ins c ns vs)=>(match p with| .ins d ks us=>eqB 40 (.ob c ns vs) (.ob d ks us)|_=>false)
 |some (.dct a b)=>(match p with| .dct c d=>eqB 40 (.dct a b) (.dct c d)|_=>false)
 |_=>false
theorem gZ9{o:Option O}{p:O}(h:eqO o p=true):o=some p:=by
 cases o with
 |none=>exact ff h
 |some o=>
  cases o<;>first|exact ff h|skip
  ·cases p<;>first|exact ff h|(have h:=(hM5 40).1 (.dct _ _) (.dct _ _) h;cases h;rfl)
  ·cases p<;>first|exact ff h|(have h:=(hM5 40).1 (.ob _ _ _) (.ob _ _ _) h;cases h;rfl)
structure Win(dat:List Nat)(base:Nat)(td:List Nat)(fin:Bool):Prop where
 kn:∀(k c:Nat),td[k]?=some c->dat[base+k]?=some c
 en:if fin=true then dat.length=base+td.length else base+td.length<dat.length+1
 hl:td.length<90000
section
variable{dat td:List Nat}{base:Nat}{fin:Bool}
noncomputable def Win.par(W:Win dat base td fin):Par:=⟨id,λδ δ h=>h,dat,base,td,fin,W.kn,W.en,W.hl⟩
theorem Win.of{A B:List Nat}(e:dat=A++(td++B))(l:A.length=base)(f:fin=true->B=[])(h:td.length<90000):Win dat base td fin:=by
 subst e;subst l;refine⟨λk c q=> ?_,?_,h⟩
 ·rw[List.getElem?_append_right (Nat.le_add_right ..),Nat.add_sub_cancel_left];refine e11 (List.getElem?_eq_some_iff.mp q) λl e=> ?_;rw[List.getElem?_append_left l];exact q
 ·rw[List.length_append,List.length_append]
  cases fin with
  |true=>rw[f rfl];rfl
  |false=>show _<_;lia
noncomputable abbrev cuO(dat:List Nat)(pos:Nat):O:= .ins 4 [49,18,56] [.bytes dat,.int pos,.int dat.length]
noncomputable abbrev cuT(L:Nat)(fin:Bool)(a:Nat):O:= .ins 4 [49,18,56] [.bytes mkr,.int ((1000+a:Nat):Int),.int (if fin then((1000+L:Nat):Int)else 100000)]
theorem Win.tau(W:Win dat base td fin){ps:List Nat}{n:Nat}(pl:Pl ps n){a:Nat}(ha:a<90000):(pm W.par pl).tau ((1000+a:Nat):Int)=((base+a:Nat):Int):=by show(if((1000+a:Nat):Int)<1000 then((1000+a:Nat):Int)else if((1000+a:Nat):Int)<100000 then(base:Int)+(((1000+a:Nat):Int)-1000)else dat.length)=_;rw[if_neg (by lia),if_pos (by lia)];lia
theorem Win.cu(W:Win dat base td fin){ps:List Nat}{n:Nat}(pl:Pl ps n){a:Nat}(ha:a<90000):tho (pm W.par pl).hm (cuT td.length fin a)=cuO dat (base+a):=by
 have e:(pm W.par pl).tau (if fin then((1000+td.length:Nat):Int)else 100000)=dat.length:=by
  cases fin with
  |true=>
   have q:dat.length=base+td.length:=W.en
   rw[q];exact W.tau pl W.hl
  |false=>rfl
 have g:∀x y:Int,tho (pm W.par pl).hm (.ins 4 [49,18,56] [.bytes mkr,.int x,.int y])= .ins 4 [49,18,56] [.bytes dat,.int ((pm W.par pl).tau x),.int ((pm W.par pl).tau y)]:=λδ δ=>rfl;rw[g,W.tau pl ha,e]
end
section
variable{D:Par}{ps:List Nat}{os:List (Option O)}{R:St}
theorem tQ{f F g:Nat}{args rargs:List V}{q:V×St}{pl:Pl ps R.n}(w:Wf R)(h:Hs (pm D pl).hm R ps os)(ea:ths (pm D pl).hm args=rargs)(e:gA4 (tpl (tPr D.td D.fin noO)) F g args (Sof os)=some q):
  W (gA4 prog (f+F) g rargs R) λu R'=>u=th (pm D pl).hm q.1/\(∀i t,q.2.h i=some t->R'.h (gN1 ps R.n i)=some (tho (pm D pl).hm t))/\Kp (kn ps os) R R':=by
 refine e12 ((hom (com (pm D pl) (λδ h=>nn h)) F).c e (iA5 w h) (Nat.le_add_left F f)) λR' z s=> ?_;rw[ea]at z;exact⟨_,_,z,rfl,s.rl.at_,iA6 w (gQ4 h).1 s⟩
theorem tR{f F:Nat}{ex:ME}{m m':Lo}{q:V×St}{pl:Pl ps R.n}(w:Wf R)(h:Hs (pm D pl).hm R ps os)(lo:LoR (pm D pl).hm m m')(e:evE (tpl (tPr D.td D.fin noO)) F ex m (Sof os)=some q):
  W (evE prog (f+F) ex m' R) λu R'=>u=th (pm D pl).hm q.1/\(∀i t,q.2.h i=some t->R'.h (gN1 ps R.n i)=some (tho (pm D pl).hm t))/\Kp (kn ps os) R R':=by
 refine e12 ((hom (com (pm D pl) (λδ h=>nn h)) F).e e (iA5 w h) lo (Nat.le_add_left F f)) λR' z s=> ?_;exact⟨_,_,z,rfl,s.rl.at_,iA6 w (gQ4 h).1 s⟩
end
noncomputable def okC(td:List Nat)(fin:Bool)(a g:Nat)(args:List V)(F a':Nat)(v:V):Bool:=(pls args&&(decide (a<90000)&&decide (a'<90000)))&&
 (gA4 (tpl (tPr td fin noO)) F g (.loc 0::args) (Sof [some (cuT td.length fin a)])).any λq=>eqB 40 q.1 v&&eqO (q.2.h 0) (cuT td.length fin a')
noncomputable def kX8(x:Nat):Option V:=if x=50 then some (.loc 0)else none
noncomputable def okE(td:List Nat)(fin:Bool)(a:Nat)(ex:ME)(F a':Nat)(v:V):Bool:=(decide (a<90000)&&decide (a'<90000))&&
 (evE (tpl (tPr td fin noO)) F ex kX8 (Sof [some (cuT td.length fin a)])).any λq=>eqB 40 q.1 v&&eqO (q.2.h 0) (cuT td.length fin a')
noncomputable def okD(td:List Nat)(fin:Bool)(a g F a':Nat)(ks vs:List V):Bool:=((pls ks&&pls vs)&&(decide (a<90000)&&decide (a'<90000)))&&
 (gA4 (tpl (tPr td fin noO)) F g [.loc 0] (Sof [some (cuT td.length fin a)])).any λq=>(kOf q.1).any λj=>decide (1<=j)&&(eqO (q.2.h j) (.dct ks vs)&&eqO (q.2.h 0) (cuT td.length fin a'))
noncomputable def okS(td:List Nat)(fin:Bool)(a g F a':Nat)(ks vs:List V):Bool:=((pls ks&&pls vs)&&(decide (a<90000)&&decide (a'<90000)))&&
 (gA4 (tpl (tPr td fin noO)) F g [.loc 0,.loc 1,.none] (Sof [some (cuT td.length fin a),some (.dct ks vs)])).any λq=>(kOf q.1).any λj=>decide (2<=j)&&(eqO (q.2.h j) (.ins 1 [23,47] [.loc 1,.bytes []])&&(eqO (q.2.h 1) (.dct ks vs)&&eqO (q.2.h 0) (cuT td.length fin a')))
section
variable{dat td:List Nat}{base a a' c f F g:Nat}{fin:Bool}{S:St}{v:V}{args ks vs:List V}
theorem jM9(h:okC td fin a g args F a' v=true)(W0:Win dat base td fin)(w:Wf S)(hc:S.h c=some (cuO dat (base+a))):
  W (gA4 prog (f+F) g (.loc c::args) S) λu S'=>u=th (pm W0.par (Pl.o (Wf.lt w hc))).hm v/\S'.h c=some (cuO dat (base+a'))/\Kp [c] S S':=by
 refine aN h λh1 h2=>aN h1 λpa h1=>aN h1 λla la'=>aY h2 λq e h2=>aN h2 λev eo=> ?_;refine(tQ (D:=W0.par) (pl:=Pl.o (Wf.lt w hc)) (os:=[some (cuT td.length fin a)]) w ⟨by rw[W0.cu _ (oX la)];exact hc,trivial⟩ (by show V.loc c::ths _ args=_;rw[gD3 pa]) e).imp λu S' r=>⟨?_,?_,r.2.2⟩
 ·rw[r.1,(hM5 40).1 _ _ ev]
 ·have:=r.2.1 0 _ (gZ9 eo);rw[W0.cu _ (oX la')]at this;exact this
theorem hB4(h:okC td fin a g args F a' v=true)(p:pl v=true)(W0:Win dat base td fin)(w:Wf S)(hc:S.h c=some (cuO dat (base+a))):
  W (gA4 prog (f+F) g (.loc c::args) S) λu S'=>u=v/\S'.h c=some (cuO dat (base+a'))/\Kp [c] S S':=
 (jM9 h W0 w hc).imp λu S' q=>⟨q.1.trans (gY4 p),q.2⟩
theorem kF1{ex:ME}{m:Lo}(h:okE td fin a ex F a' v=true)(p:pl v=true)(W0:Win dat base td fin)(w:Wf S)(em:m 50=some (.loc c))(hc:S.h c=some (cuO dat (base+a))):
  W (evE prog (f+F) ex m S) λu S'=>u=v/\S'.h c=some (cuO dat (base+a'))/\Kp [c] S S':=by
 refine aN h λh1 h2=>aN h1 λla la'=>aY h2 λq e h2=>aN h2 λev eo=> ?_;refine(tR (D:=W0.par) (pl:=Pl.o (Wf.lt w hc)) (os:=[some (cuT td.length fin a)]) (m:=kX8) w ⟨by rw[W0.cu _ (oX la)];exact hc,trivial⟩ (λx v hx=> ?_) e).imp λu S' r=>⟨?_,?_,r.2.2⟩
 ·unfold kX8 at hx
  by_cases q:x=50
  ·rw[if_pos q]at hx;cases hx;rw[q];exact em
  ·rw[if_neg q]at hx;cases hx
 ·rw[r.1,(hM5 40).1 _ _ ev,gY4 p]
 ·have:=r.2.1 0 _ (gZ9 eo);rw[W0.cu _ (oX la')]at this;exact this
theorem jM8(h:okD td fin a g F a' ks vs=true)(W0:Win dat base td fin)(w:Wf S)(hc:S.h c=some (cuO dat (base+a))):
  W (gA4 prog (f+F) g [.loc c] S) λu S'=>∃k,u= .loc k/\S.n<=k/\S'.h k=some (.dct ks vs)/\S'.h c=some (cuO dat (base+a'))/\Kp [c] S S':=by
 refine aN h λh1 h2=>aN h1 λpa h1=>aN pa λpk pv=>aN h1 λla la'=>aY h2 λq e h2=>aY h2 λj ej h2=>aN3 h2 λlj ed eo=> ?_;refine(tQ (D:=W0.par) (pl:=Pl.o (Wf.lt w hc)) (os:=[some (cuT td.length fin a)]) w ⟨by rw[W0.cu _ (oX la)];exact hc,trivial⟩ (show _=[V.loc c]from rfl) e).imp λu S' r=> ?_;have gj:gN1 [c] S.n j=S.n+(j-1):=gN5 (oX lj);refine⟨S.n+(j-1),?_,Nat.le_add_right ..,?_,?_,r.2.2⟩
 ·rw[r.1,gL5 ej,←gj];rfl
 ·have:=r.2.1 j _ (gZ9 ed);rw[gj]at this;rw[this];show some (O.dct (ths _ ks) (ths _ vs))=_;rw[gD3 pk,gD3 pv]
 ·have:=r.2.1 0 _ (gZ9 eo);rw[W0.cu _ (oX la')]at this;exact this
theorem kW3{k:Nat}(h:okS td fin a g F a' ks vs=true)(W0:Win dat base td fin)(w:Wf S)(hc:S.h c=some (cuO dat (base+a)))(hk:S.h k=some (.dct ks vs))(n:c≠k):
  W (gA4 prog (f+F) g [.loc c,.loc k,.none] S) λu S'=>∃j,u= .loc j/\S.n<=j/\S'.h j=some (.ins 1 [23,47] [.loc k,.bytes []])/\S'.h k=some (.dct ks vs)/\S'.h c=some (cuO dat (base+a'))/\Kp [c] S S':=by
 refine aN h λh1 h2=>aN h1 λpa h1=>aN pa λpk pv=>aN h1 λla la'=>aY h2 λq e h2=>aY h2 λj ej h2=>aN h2 λlj h2=>aN h2 λej' h2=>aN h2 λed eo=> ?_;have et:∀ {H:Par},tho H.hm (.dct ks vs)= .dct ks vs:=λ{H}=>by show O.dct (ths _ ks) (ths _ vs)=_;rw[gD3 pk,gD3 pv]
 refine(tQ (D:=W0.par) (pl:=Pl.two (Wf.lt w hc) (Wf.lt w hk) n) (os:=[some (cuT td.length fin a),some (.dct ks vs)]) w ⟨by rw[W0.cu _ (oX la)];exact hc,by rw[et];exact hk,trivial⟩ (show _=[V.loc c,V.loc k,V.none]from rfl) e).imp λu S' r=> ?_;have gj:gN1 [c,k] S.n j=S.n+(j-2):=gN5 (oX lj);have hk':=r.2.1 1 _ (gZ9 ed);rw[et]at hk';have hc':=r.2.1 0 _ (gZ9 eo);rw[W0.cu _ (oX la')]at hc';refine⟨S.n+(j-2),?_,Nat.le_add_right ..,?_,hk',hc',r.2.2.le,r.2.2.wf,λi o e n=> ?_⟩
 ·rw[r.1,gL5 ej,←gj];rfl
 ·have:=r.2.1 j _ (gZ9 ej');rw[gj]at this;rw[this];rfl
 ·by_cases q:i=k
  ·rw[q]at e⊢;rw[hk]at e;exact hk'.trans e
  ·refine r.2.2.kp i o e λh=> ?_;rcases mC h with h|h
   ·exact n (h▸mS)
   ·exact q (List.mem_singleton.mp h)
end
end
noncomputable abbrev eob:List Nat:=[32,101,110,100,111,98,106]
noncomputable abbrev gD9:List Nat:=[115,116,114,101,97,109]
noncomputable abbrev lF2:List Nat:=[101,110,100,111,98,106]
noncomputable abbrev jX7:List Nat:=[119,111,114,100]
noncomputable abbrev wOb:List Nat:=[111,98,106]
noncomputable def hdr(n g:Int):List Nat:=dg n++([32]++(dg g++ [32,111,98,106,32]))
noncomputable def starts:List Nat:=[48,49,50,51,116]
noncomputable def jT8:ME:= .andE [(.callF 22 [(.callM (.var 50) 53 [])]),(.cmp .ge (.callF 24 [(.var 50)]) (.lit (.int 0)))]
noncomputable def lH5:List (List Nat×Bool):=([],true)::starts.map λc=>([10,c],false)
theorem kT6:([0,1,2,3]:List Int).all (λn=>okC (dg n++ [32]) false 0 27 [] 40 1 (.int n))=true:=by decide+kernel
theorem kT9:([0,1]:List Int).all (λn=>okC ([32]++(dg n++ [32])) false 0 27 [] 40 2 (.int n))=true:=by decide+kernel
theorem kT3:okC [32,111,98,106,32] false 0 28 [] 40 4 (.tup [.str jX7,.bytes wOb,.int ((1000+1:Nat):Int)])=true:=by decide+kernel
theorem kA6:([0,1,2,3]:List Int).all (λn=>([0,1]:List Int).all λg=>okC (hdr n g) false 0 24 [] 40 0 (.int ((1000+7:Nat):Int))&&okE (hdr n g) false 0 jT8 40 0 (.bool true))=true:=by decide+kernel
theorem jZ5:(okE [116] false 0 jT8 40 0 (.bool false)&&okC [116,114,97,105,108,101,114,32] false 0 28 [] 40 7 (.tup [.str jX7,.bytes jC6,.int ((1000+0:Nat):Int)]))=true:=by decide+kernel
noncomputable def okI(i:Int)(e:List Nat×Bool):Bool:=okC ([32]++(dg i++(eob++e.1))) e.2 0 33 [] 60 2 (.int i)
theorem kA5:(gK8 9).all (λi=>okI i ([],true))=true:=by decide+kernel
theorem kA4:(gK8 9).all (λi=>okI i ([10,48],false))=true:=by decide+kernel
theorem kA3:(gK8 9).all (λi=>okI i ([10,49],false))=true:=by decide+kernel
theorem kA0:(gK8 9).all (λi=>okI i ([10,50],false))=true:=by decide+kernel
theorem jZ9:(gK8 9).all (λi=>okI i ([10,51],false))=true:=by decide+kernel
theorem jZ8:(gK8 9).all (λi=>okI i ([10,116],false))=true:=by decide+kernel
theorem kA7:([([],true),([10],false)]:List (List Nat×Bool)).all (λe=>okC (eob++e.1) e.2 0 41 [.bytes gD9] 40 0 (.bool false)&&okC (eob++e.1) e.2 0 41 [.bytes lF2] 40 7 (.bool true))=true:=by decide+kernel
theorem kT5:okC ([32]++(gD9++ [10])) false 0 41 [.bytes gD9] 40 7 (.bool true)=true:=by decide+kernel
theorem jJ4:(okC [] true 0 52 [] 20 0 .none&&starts.all λc=>okC [c] false 0 52 [] 20 0 .none&&okC [10,c] false 0 52 [] 20 1 .none)=true:=by decide+kernel
noncomputable def lC0:List Nat:=[32,47,62,60,48,49,50,51,57,82,111,116,101,73,110,102,83,105,122,80,114,118,84,121,112,75,76,103,104,87,91,93,88,67,97,108,79,98,106,109,52,53,115]
noncomputable def frc(x:Nat)(k:Nat->Bool):List Nat->Bool
 | []=>false
 |c::r=>if x=c then k c else frc x k r
noncomputable def kR4:List Nat->(List Nat->Bool)->Bool
 | [],k=>k []
 |x::l,k=>frc x (λc=>kR4 l λr=>k (c::r)) lC0
theorem jF6{x:Nat}{k:Nat->Bool}:∀ {l:List Nat},frc x k l=true->k x=true
 | [],h=>ff h
 |c::r,h=>by
  have h:(if x=c then k c else frc x k r)=true:=h
  by_cases q:x=c
  ·rw[if_pos q]at h;rw[q];exact h
  ·rw[if_neg q]at h;exact jF6 h
theorem iM6:∀ {l:List Nat}{k:List Nat->Bool},kR4 l k=true->k l=true
 | [],_,h=>h
 |x::l,k,h=>iM6 (l:=l) (k:=λr=>k (x::r)) (jF6 (k:=λc=>kR4 l λr=>k (c::r)) h)
noncomputable def rdD(v:V):Bool:=match v with
 | .dct ks vs=>kR4 ([32]++gI5 v) λtd=>okD td false 0 33 75 td.length ks vs
 |_=>false
theorem iH1{v:V}(h:rdD v=true):∃ks vs,v= .dct ks vs/\okD ([32]++gI5 v) false 0 33 75 (1+(gI5 v).length) ks vs=true:=by
 cases v<;>first|exact ff h|skip
 exact⟨_,_,rfl,by have:=iM6 h;rw[List.length_append]at this;exact this⟩
theorem jZ4:(tras.take 8).all rdD=true:=by decide+kernel
theorem jZ3:((tras.drop 8).take 8).all rdD=true:=by decide+kernel
theorem jZ2:((tras.drop 16).take 8).all rdD=true:=by decide+kernel
theorem jZ1:((tras.drop 24).take 8).all rdD=true:=by decide+kernel
theorem jZ0:(tras.drop 32).all rdD=true:=by decide+kernel
theorem kD4{v:V}(h:v∈tras):rdD v=true:=by
 have e:tras=tras.take 8++((tras.drop 8).take 8++((tras.drop 16).take 8++((tras.drop 24).take 8++tras.drop 32))):=by kernel_rfl
 rw[e]at h;rcases List.mem_append.mp h with h|h
 ·exact List.all_eq_true.mp jZ4 v h
 rcases List.mem_append.mp h with h|h
 ·exact List.all_eq_true.mp jZ3 v h
 rcases List.mem_append.mp h with h|h
 ·exact List.all_eq_true.mp jZ2 v h
 rcases List.mem_append.mp h with h|h
 ·exact List.all_eq_true.mp jZ1 v h
 ·exact List.all_eq_true.mp jZ0 v h
noncomputable def okH(v:V):Bool:=match v with
 | .dct ks vs=>okS ([10,10,101,110,100]++(gD9++ [32])) false 0 42 40 11 ks vs
 |_=>false
noncomputable def stV(v:V):Bool:=match v with
 | .ob c ns vs=>eqB 40 v (.ob 1 [23,47] [gP1 v,.bytes []])&&(decide (gI5 v=gI5 (gP1 v)++([32]++(gD9++([10,10,101,110,100]++gD9))))&&okH (gP1 v))
 |_=>false
theorem kU0:(((vals.drop 9).take 7).all rdD&&((vals.drop 16).all stV&&(vals.take 9).all λv=>decide (gI5 v=dg ((iOf v).getD 0))))=true:=by decide+kernel
theorem jY9:rdD (gP1 (vX 1))=true:=by decide+kernel
theorem jY8:rdD (gP1 (vX 2))=true:=by decide+kernel
theorem jY7:rdD (gP1 (vX 3))=true:=by decide+kernel
theorem jY6:(rdD (gP1 (vS iS6))&&rdD (gP1 (vS [88])))=true:=by decide+kernel
section
variable{dat td:List Nat}{base a a' c f F g:Nat}{fin:Bool}{S:St}{args:List V}
theorem kF2{s y:List Nat}{k:Nat}(h:okC td fin a g args F a' (.tup [.str s,.bytes y,.int ((1000+k:Nat):Int)])=true)(ny:y≠mkr)(lk:k<90000)(W0:Win dat base td fin)(w:Wf S)(hc:S.h c=some (cuO dat (base+a))):
  W (gA4 prog (f+F) g (.loc c::args) S) λu S'=>u= .tup [.str s,.bytes y,.int ((base+k:Nat):Int)]/\S'.h c=some (cuO dat (base+a'))/\Kp [c] S S':=
 (jM9 h W0 w hc).imp λu S' q=>⟨by
  have G:∀ {ps:List Nat}{n:Nat}(p:Pl ps n) (x:Int),th (pm W0.par p).hm (.tup [.str s,.bytes y,.int x])= .tup [.str s,.bytes (if y=mkr then dat else y),.int ((pm W0.par p).tau x)]:=λδ δ=>rfl
  rw[q.1,G,if_neg ny,W0.tau _ lk],q.2⟩
theorem kW4{k:Nat}(h:okC td fin a g args F a' (.int ((1000+k:Nat):Int))=true)(lk:k<90000)(W0:Win dat base td fin)(w:Wf S)(hc:S.h c=some (cuO dat (base+a))):
  W (gA4 prog (f+F) g (.loc c::args) S) λu S'=>u= .int ((base+k:Nat):Int)/\S'.h c=some (cuO dat (base+a'))/\Kp [c] S S':=
 (jM9 h W0 w hc).imp λu S' q=>⟨by
  have G:∀ {ps:List Nat}{n:Nat}(p:Pl ps n) (x:Int),th (pm W0.par p).hm (.int x)= .int ((pm W0.par p).tau x):=λδ δ=>rfl
  rw[q.1,G,W0.tau _ lk],q.2⟩
end
inductive Shp(n0:Nat)(S:St):V->V->Prop
 |v {v:V}(h:kOf v=none) (h':hA9 Sz v .dict=some false):Shp n0 S v v
 |d {k:Nat}{ks vs:List V}(n:n0<=k) (e:S.h k=some (.dct ks vs)):Shp n0 S (.dct ks vs) (.loc k)
 |s {k j:Nat}{ks vs:List V}(n:n0<=k) (n':n0<=j) (e:S.h k=some (.ins 1 [23,47] [.loc j,.bytes []])) (e':S.h j=some (.dct ks vs)):Shp n0 S (kU7 ks vs) (.loc k)
theorem Shp.kp{n0 c:Nat}{S S':St}{v u:V}(h:Shp n0 S v u)(l:c<n0)(k:Kp [c] S S'):Shp n0 S' v u:=by
 cases h with
 |v h h'=>exact .v h h'
 |d n e=>exact .d n (k.one (by(exact jW2 (Nat.lt_of_lt_of_le l n))) e)
 |s n n' e e'=>exact .s n n' (k.one (by(exact jW2 (Nat.lt_of_lt_of_le l n))) e) (k.one (by(exact jW2 (Nat.lt_of_lt_of_le l n'))) e')
theorem Shp.fz{n0:Nat}{S:St}{v u:V}(h:Shp n0 S v u):Fz n0 u v S:=by
 cases h with
 |v h h'=>exact .v h
 |d n e=>exact .d e n
 |s n n' e e'=>exact .s e e' n n'
theorem Shp.nmV{n0:Nat}{S:St}{v u:V}{Q:QP}(h:Shp n0 S v u)(q:Q u S):Nm S u Q:=by
 cases h with
 |v h h'=>exact m_v h q
 |d n e=>exact gJ2 e q
 |s n n' e e'=>exact iJ0 e q
noncomputable def Tl(B:List Nat):Prop:=∃e∈lH5,∃B',B=e.1++B'/\(e.2=true->B'=[])
theorem Tl.two{B:List Nat}(h:Tl B):∃e∈([([],true),([10],false)]:List (List Nat×Bool)),∃B',B=e.1++B'/\(e.2=true->B'=[]):=by
 obtain⟨e,he,B',rfl,h⟩:=h;rcases mC he with rfl|he
 ·exact⟨_,mS,B',rfl,h⟩
 ·obtain⟨c,_,rfl⟩:=List.mem_map.mp he;exact⟨_,mO _ (mS),c::B',rfl,nofun⟩
theorem kT8{i:Int}{e:List Nat×Bool}(he:e∈lH5)(hi:i∈gK8 9):okI i e=true:=by
 rcases mC he with rfl|he
 ·exact List.all_eq_true.mp kA5 i hi
 rcases mC he with rfl|he
 ·exact List.all_eq_true.mp kA4 i hi
 rcases mC he with rfl|he
 ·exact List.all_eq_true.mp kA3 i hi
 rcases mC he with rfl|he
 ·exact List.all_eq_true.mp kA0 i hi
 rcases mC he with rfl|he
 ·exact List.all_eq_true.mp jZ9 i hi
 rw[List.mem_singleton.mp he];exact List.all_eq_true.mp jZ8 i hi
theorem iE6{v:V}(h:v∈vals):(∃i∈gK8 9,v= .int i/\gI5 v=dg i)\/(rdD v=true)\/(∃hd,v= .ob 1 [23,47] [hd,.bytes []]/\rdD hd=true/\okH hd=true/\gI5 v=gI5 hd++([32]++(gD9++([10,10,101,110,100]++gD9)))):=by
 have e:vals=vals.take 9++((vals.drop 9).take 7++vals.drop 16):=by kernel_rfl
 refine aN3 kU0 λt1 t2 t3=> ?_;rw[e]at h;rcases List.mem_append.mp h with h|h
 ·refine .inl ?_;have o:=oX (List.all_eq_true.mp t3 v h);rw[show vals.take 9=(gK8 9).map .int by kernel_rfl]at h;obtain⟨i,hi,rfl⟩:=List.mem_map.mp h;exact⟨i,hi,rfl,o⟩
 rcases List.mem_append.mp h with h|h
 ·exact .inr (.inl (List.all_eq_true.mp t1 v h))
 ·refine .inr (.inr ⟨gP1 v,?_⟩);have s:=List.all_eq_true.mp t2 v h
  have d:rdD (gP1 v)=true:=by
   rw[show vals.drop 16=[vX 1,vX 2,vX 3,vS iS6,vS [88]]by kernel_rfl]at h;refine aN jY6 λx4 x5=> ?_;rcases mC h with rfl|h
   ·exact jY9
   rcases mC h with rfl|h
   ·exact jY8
   rcases mC h with rfl|h
   ·exact jY7
   rcases mC h with rfl|h
   ·exact x4
   rw[List.mem_singleton.mp h];exact x5
  cases v<;>first|exact ff s|exact aN3 s λs1 s2 s3=>⟨(hM5 40).1 _ _ s1,d,s3,oX s2⟩
theorem kD3{f c base:Nat}{dat A B:List Nat}{v:V}{m:Lo}{S:St}{rest:List MS}{Q:Fl->Lo->St->Prop}(w:Wf S)(hv:v∈vals)(e50:m 50=some (.loc c))(e36:m 36=some .none)(e:dat=A++([32]++(gI5 v++(eob++B))))(l:A.length=base)(hB:Tl B)
  (hc:S.h c=some (cuO dat base))(k:∀u m' S',m' 15=some u->(∀x,x≠15->m' x=m x)->Shp S.n S' v u->S'.h c=some (cuO dat (base+(1+(gI5 v).length)))->Kp [c] S S'->X (exB prog (f+78) rest m' S') Q):
  X (exB prog (f+80) (.asg 15 (.callF 33 [(.var 50)]):: .ite (.andE [(.isi (.var 15) .dict),(.callF 41 [(.var 50),(.lit (.bytes gD9))])]) [.asg 15 (.callF 42 [(.var 50),(.var 15),(.var 36)])] []::rest) m S) Q:=by
 have lc:=Wf.lt w hc;have ms:∀u x,x≠15->(m.set 15 u) x=m x:=λu x n=>if_neg n;rcases iE6 hv with⟨i,hi,rfl,o⟩|h|⟨hd,rfl,h,hs,o⟩
 ·rw[o]at e k;obtain⟨en,hen,B',rfl,hfin⟩:=hB
  have W1:Win dat base ([32]++(dg i++(eob++en.1))) en.2:= .of (A:=A) (B:=B') (by rw[e];simp only[List.append_assoc]) l hfin (by
   have:en.1.length<=2:=by
    rcases mC hen with rfl|h
    ·decide
    ·obtain⟨c,_,rfl⟩:=List.mem_map.mp h;exact Nat.le_refl _
   simp only[List.length_append]
   exact Nat.lt_of_le_of_lt (Nat.add_le_add_left (Nat.add_le_add_left (Nat.add_le_add_left this 7) 1) 1) (by decide))
  have pi:pl (.int i)=true:=by obtain⟨n,hn,rfl⟩:=List.mem_map.mp hi;have:=List.mem_range.mp hn;exact iU9 (Int.lt_of_lt_of_le (by decide) (Int.natCast_nonneg n)) (Int.ofNat_lt.mpr (nl3 this rfl))
  refine gC0<|iS5 e50 hc<|(hB4 (kT8 hen hi) pi W1 w hc).k2 λS1 hc1 k1=> ?_;exact gB6<|gO0<|gN9<|gF1 rfl rfl<| .i<|If.f<|If.f<|gK9<|k _ _ _ rfl (ms _) (.v rfl rfl) hc1 k1
 ·obtain⟨ks,vs,rfl,h⟩:=iH1 h;have W1:Win dat base ([32]++gI5 (.dct ks vs)) false:= .of (A:=A) (B:=eob++B) (by rw[e];simp only[List.append_assoc]) l nofun (by have:=(gU5 (ma hv)).2.2;rw[List.length_append];exact kQ4 this rfl);refine gC0<|iS5 e50 hc<|(jM8 h W1 w hc).imp λu S1 q=> ?_;obtain⟨k0,rfl,l0,h0,hc1,k1⟩:=q;obtain⟨en,hen,B',rfl,hfin⟩:=hB.two
  have W2:Win dat (base+(1+(gI5 (.dct ks vs)).length)) (eob++en.1) en.2:= .of (A:=A++([32]++gI5 (.dct ks vs))) (B:=B') (by rw[e];simp only[List.append_assoc]) (by simp only[List.length_append,l];rfl) hfin (by
   rcases mC hen with rfl|h
   ·decide
   ·rw[List.mem_singleton.mp h];decide)
  refine aN (List.all_eq_true.mp kA7 en hen) λt1 δ=> ?_;refine gB6<|gO0<|gN9<|hB8 rfl h0<| .e (kY4 h0 rfl)<|If.t<|gN3<|gA3<|hI6 e50 hc1<|gA0<|gA2<|gA1<|(hB4 t1 rfl W2 k1.wf hc1).k2 λS2 hc2 k2=> ?_;exact If.f<|gK9<|k _ _ _ rfl (ms _) (.d l0 (k2.one (by lia) h0)) hc2 (k1.trans k2)
 ·obtain⟨ks,vs,rfl,h⟩:=iH1 h;have ol:=(gU5 (ma hv)).2.2;rw[o]at e k ol;simp only[List.length_append]at ol;have W1:Win dat base ([32]++gI5 (.dct ks vs)) false:= .of (A:=A) (B:=([32]++(gD9++([10,10,101,110,100]++gD9)))++(eob++B)) (by rw[e];simp only[List.append_assoc]) l nofun (by rw[List.length_append];exact kQ4 (nl9 ol) rfl);have W2:Win dat (base+(1+(gI5 (.dct ks vs)).length)) ([32]++(gD9++ [10])) false:= .of (A:=A++([32]++gI5 (.dct ks vs))) (B:=([10,101,110,100]++gD9)++(eob++B)) (by rw[e];simp only[List.append_assoc];rfl) (by simp only[List.length_append,l];rfl) nofun (by decide);have W3:Win dat (base+(1+(gI5 (.dct ks vs)).length)+7) ([10,10,101,110,100]++(gD9++ [32])) false:= .of (A:=A++([32]++(gI5 (.dct ks vs)++([32]++gD9)))) (B:=lF2++B) (by rw[e];simp only[List.append_assoc];rfl) (by simp only[List.length_append,l];show base+(1+(_+7))=_;lia) nofun (by decide);refine gC0<|iS5 e50 hc<|(jM8 h W1 w hc).imp λu S1 q=> ?_;obtain⟨k0,rfl,l0,h0,hc1,k1⟩:=q;refine gB6<|gO0<|gN9<|hB8 rfl h0<| .e (kY4 h0 rfl)<|If.t<|gN3<|gA3<|hI6 e50 hc1<|gA0<|gA2<|gA1<|(hB4 kT5 rfl W2 k1.wf hc1).k2 λS2 hc2 k2=> ?_;have h2:=k2.one (show k0≠c by lia) h0;refine If.t<|gC0<|gA3<|hI6 e50 hc2<|gA0<|hB8 rfl h2<|gN0 e36 rfl<|gA1<|(kW3 hs W3 k2.wf hc2 h2 (by lia)).imp λu S3 q=> ?_;obtain⟨j,rfl,lj,hj,h3,hc3,k3⟩:=q;refine gK9<|k _ _ _ rfl (λx n=>(if_neg n).trans (ms _ x n)) (.s (Nat.le_trans k1.le (Nat.le_trans k2.le lj)) l0 hj h3) ?_ ((k1.trans k2).trans k3);rw[hc3];refine congrArg (λn=>some (cuO dat n)) ?_;simp only[List.length_append];show base+(1+_)+7+11=base+(1+(_+18))
  lia
theorem hD2{r:Row}(h:r.o=true):r.part=dg r.n++([32]++(dg r.g++([32]++(wOb++([32]++(gI5 r.v++eob)))))):=by unfold Row.part;rw[h];simp only[List.append_assoc];rfl
theorem hK5{r:Row}(h:r.o=false):r.part=jC6++([32]++gI5 r.v):=by unfold Row.part;rw[h];rfl
theorem jN6{n:Int}(h:n=0\/n=1\/n=2\/n=3):n∈([0,1,2,3]:List Int):=by rcases h with rfl|rfl|rfl|rfl<;>decide
theorem jQ8{n:Int}(h:n=0\/n=1):n∈([0,1]:List Int):=by rcases h with rfl|rfl<;>decide
theorem lG5{n:Int}(h:n=0\/n=1\/n=2\/n=3):pl (.int n)=true:=by rcases h with rfl|rfl|rfl|rfl<;>rfl
section
variable{f c base:Nat}{dat A B:List Nat}{r:Row}{S:St}
theorem kO3(w:Wf S)(ho:r.o=true)(ok:r.ok)(e:dat=A++(r.part++B))(l:A.length=base)(hB:Tl B)(hc:S.h c=some (cuO dat base)):
  W (gA4 prog (f+90) 26 [.loc c,.none] S) λu S'=>u= .tup [.int r.n,.int r.g,r.v]/\S'.h c=some (cuO dat (base+r.part.length))/\Kp [c] S S':=by
 have lc:=Wf.lt w hc;refine e03 (ok.obj ho) λhn hg hv=> ?_;have hg':r.g=0\/r.g=1\/r.g=2\/r.g=3:=hg.elim .inl λh=> .inr (.inl h);have pl_:r.part.length=15+(gI5 r.v).length:=by rw[hD2 ho];simp only[List.length_append];show 1+(1+(1+(1+(3+(1+(_+7))))))=_;lia
 rw[hD2 ho]at e;have W1:Win dat base (dg r.n++ [32]) false:= .of (A:=A) (B:=dg r.g++([32]++(wOb++([32]++(gI5 r.v++(eob++B)))))) (by rw[e];simp only[List.append_assoc]) l nofun (show 2<90000 by decide);have W2:Win dat (base+1) ([32]++(dg r.g++ [32])) false:= .of (A:=A++dg r.n) (B:=wOb++([32]++(gI5 r.v++(eob++B)))) (by rw[e];simp only[List.append_assoc]) (by rw[List.length_append,l];rfl) nofun (show 3<90000 by decide);have W3:Win dat (base+3) [32,111,98,106,32] false:= .of (A:=A++(dg r.n++([32]++dg r.g))) (B:=gI5 r.v++(eob++B)) (by rw[e];simp only[List.append_assoc];rfl) (by simp only[List.length_append,l];rfl) nofun (by decide);refine gB8 (vs:=[.loc c,.none]) rfl rfl<|gC0<|iS5 rfl hc<|(hB4 (List.all_eq_true.mp kT6 _ (jN6 hn)) (lG5 hn) W1 w hc).k2 λS1 hc1 k1=> ?_;refine gC0<|iS5 rfl hc1<|(hB4 (List.all_eq_true.mp kT9 _ (jQ8 hg)) (lG5 hg') W2 k1.wf hc1).k2 λS2 hc2 k2=> ?_;refine hZ3<|iS5 rfl hc2<|(kF2 kT3 (by decide) (by decide) W3 k2.wf hc2).k2 λS3 hc3 k3=> ?_;have k03:=(k1.trans k2).trans k3;refine .i ⟨rfl,gB6<|kP9<|hA8 rfl rfl rfl<|If.f<|jI6<|hA8 rfl rfl rfl<|If.f<|gB0<|Nx.nx ?_⟩;refine kD3 (base:=base+7) (A:=A++(dg r.n++([32]++(dg r.g++([32]++wOb))))) (B:=B) k3.wf hv rfl rfl (by rw[e];simp only[List.append_assoc]) (by simp only[List.length_append,l];rfl) hB hc3 λu m' S4 e15 em sh hc4 k4=> ?_;have e50:=(em 50 (by decide)).trans (show _=some (V.loc c)from rfl);have e7:=(em 7 (by decide)).trans (show _=some (V.int r.n)from rfl);have e8:=(em 8 (by decide)).trans (show _=some (V.int r.g)from rfl);obtain⟨en,hen,B',hB',hfin⟩:=hB.two
 have W4:Win dat (base+7+(1+(gI5 r.v).length)) (eob++en.1) en.2:= .of (A:=A++(dg r.n++([32]++(dg r.g++([32]++(wOb++([32]++gI5 r.v))))))) (B:=B') (by rw[e,hB'];simp only[List.append_assoc]) (by simp only[List.length_append,l];show base+(1+(1+(1+(1+(3+(1+_))))))=_;lia) hfin (by
  rcases mC hen with rfl|h
  ·decide
  ·rw[List.mem_singleton.mp h];decide)
 refine aN (List.all_eq_true.mp kA7 en hen) λδ t2=> ?_;refine hI8<|gA3<|hI6 e50 hc4<|gA0<|gA2<|gA1<|(hB4 t2 rfl W4 k4.wf hc4).k2 λS5 hc5 k5=> ?_;have sh5:=sh.kp (Nat.lt_of_lt_of_le lc k03.le) k5;have k05:=(k03.trans k4).trans k5;refine gF0<|gJ7<|gN0 e7 rfl<|gN0 e8 rfl<|gA0<|gA7 e15<|sh5.nmV<|gA1<|gI4 rfl<|gI4 rfl<|gD1<|(sh5.fz _).imp λy S6 q=> ?_;obtain⟨rfl,kf⟩:=q;have k06:Kp [c] S S6:=kf _ _ k03.le w k05;have hc6:S6.h c=some (cuO dat (base+r.part.length)):=by have:=(hR3 (Nat.le_trans k4.le k5.le) k5.wf kf).2 c _ (Nat.lt_of_lt_of_le lc k03.le) hc5;rw[this,pl_];exact congrArg (λn=>some (cuO dat n)) (by lia)
 exact gC6<| .i ⟨rfl,hc6,k06⟩
end
structure Ow(c wk lp lt:Nat)(dat:List Nat)(pos:Nat)(L:List LR)(Sz S:St):Prop where
 hc:S.h c=some (cuO dat pos)
 I:Wk wk lp lt L Sz S
 n:Sz.n<=c/\c≠wk/\c≠lp/\c≠lt
theorem Ow.go{c wk lp lt pos pos':Nat}{dat:List Nat}{L:List LR}{Sz S S':St}(J:Ow c wk lp lt dat pos L Sz S)(w0:Wf Sz)(k:Kp [c] S S')(hc:S'.h c=some (cuO dat pos')):Ow c wk lp lt dat pos' L Sz S':=⟨hc,⟨k.one J.n.2.1.symm J.I.hw,k.one J.n.2.2.1.symm J.I.hp,k.one J.n.2.2.2.symm J.I.ht,J.I.kp.fr w0 J.n.1 k,J.I.lw⟩,J.n⟩
section
variable{f c wk lp lt base:Nat}{dat A B:List Nat}{r:Row}{L:List LR}{Sz S:St}
theorem jU8(w0:Wf Sz)(J:Ow c wk lp lt dat base L Sz S)(hL:L.length<100)(ho:r.o=true)(ok:r.ok)(e:dat=A++(r.part++B))(l:A.length=base)(hB:Tl B):
  W (gA4 prog (f+100) 25 [.loc c,.none,.loc wk] S) λu S'=>Ow c wk lp lt dat (base+r.part.length) (L++ [⟨r,base,(base+r.part.length:Nat)⟩]) Sz S':=by
 refine e03 (ok.obj ho) λhn hg hv=> ?_;have W1:Win dat base (hdr r.n r.g) false:= .of (A:=A) (B:=gI5 r.v++(eob++B)) (by rw[e,hD2 ho];unfold hdr;simp only[List.append_assoc];rfl) l nofun (show 8<90000 by decide);refine aN (List.all_eq_true.mp (List.all_eq_true.mp kA6 _ (jN6 hn)) _ (jQ8 hg)) λt1 δ=> ?_;have hc:=J.hc;refine gB8 (vs:=[.loc c,.none,.loc wk]) rfl rfl<|gC0<|gV8 rfl hc rfl<|m_v rfl<|gC0<|iS5 rfl hc<|(kW4 t1 (by decide) W1 J.I.kp.wf hc).k2 λS1 hc1 k1=> ?_;refine lD7<|hZ3<|gA3<|hI6 rfl hc1<|gN0 rfl rfl<|gA1<|(kO3 k1.wf ho ok e l hB hc1).k2 λS2 hc2 k2=> ?_;generalize base+r.part.length=p at hc2⊢;have J2:=J.go w0 (k1.trans k2) hc2;have kv_:=ok.kv;refine .i ⟨rfl,gK9<|hI8<|gC3<|gV8 rfl J2.I.hw rfl<|gY8 J2.I.hp<|⟨gR1 J2.I.hp,gA0<|gH9 rfl<|gN0 rfl rfl<|gN0 rfl rfl<|gN0 rfl rfl<|gA0<|gV8 rfl hc2 rfl<|m_v rfl<|gN0 rfl kv_<|gA1<|kk (iK3 rfl rfl rfl rfl kv_)<|gA1 ?_⟩⟩;have I3:=J2.I.keep (Kp.up (o:= .frz (pcV ⟨r,base,p⟩)) (Kp.nw (o:= .ins 3 [7,8,38,56,15] [.int r.n,.int r.g,.int base,.int p,r.v]) (.refl J2.I.kp.wf)) J2.I.kp.wf (Nat.le_refl _) gA6);have hc3:=(Kp.up (o:= .frz (pcV ⟨r,base,p⟩)) (Kp.nw (o:= .ins 3 [7,8,38,56,15] [.int r.n,.int r.g,.int base,.int p,r.v]) (.refl J2.I.kp.wf)) J2.I.kp.wf (Nat.le_refl _) gA6).z hc2;have sp:small (pcs L).length=true:=dT (nl3 (Nat.lt_of_le_of_lt (iH9 L) hL) rfl);exact iP1 (l:=pcs L) (iE3 (x:=⟨r,base,p⟩) kv_ gA6 ⟨I3.hp,sp,gB0<| .i ⟨gB9 J.n.2.2.1 hc3,I3.put_p w0 ho,J.n⟩⟩)
theorem lU9(w0:Wf Sz)(J:Ow c wk lp lt dat base L Sz S)(hL:L.length<100)(ho:r.o=false)(ok:r.ok)(e:dat=A++(r.part++B))(l:A.length=base):
  W (gA4 prog (f+100) 44 [.loc c,.loc wk] S) λu S'=>Ow c wk lp lt dat (base+r.part.length) (L++ [⟨r,base,0⟩]) Sz S':=by
 refine e03 (ok.tra ho) λδ δ hv=> ?_;have pl_:r.part.length=8+(gI5 r.v).length:=by rw[hK5 ho];simp only[List.length_append];show 7+(1+_)=_;lia
 have ol:=(gU5 (mb hv)).2.2;refine e22 (iH1 (kD4 hv)) λks vs ev h=> ?_;rw[hK5 ho]at e;have W1:Win dat base [116,114,97,105,108,101,114,32] false:= .of (A:=A) (B:=gI5 r.v++B) (by rw[e];simp only[List.append_assoc];rfl) l nofun (by decide);have W2:Win dat (base+7) ([32]++gI5 r.v) false:= .of (A:=A++jC6) (B:=B) (by rw[e];simp only[List.append_assoc]) (by rw[List.length_append,l];rfl) nofun (by rw[List.length_append];exact kQ4 ol rfl);refine aN jZ5 λδ t2=> ?_;have hc:=J.hc;refine gB8 (vs:=[.loc c,.loc wk]) rfl rfl<|gC0<|gV8 rfl hc rfl<|m_v rfl<|lD7<|hZ3<|iS5 rfl hc<|(kF2 t2 (by decide) (by decide) W1 J.I.kp.wf hc).k2 λS1 hc1 k1=> ?_;have J1:=J.go w0 k1 hc1;refine .i ⟨rfl,gK9<|gB6<|hA8 rfl rfl rfl<|If.f<|gK9<|gB6<|hA8 rfl rfl rfl<|If.t<|hI8<|gA3<|hI6 rfl hc1<|gN0 rfl rfl<|hI6 rfl J1.I.hw<|gA1 ?_⟩;refine gB8 (vs:=[.loc c,.int base,.loc wk]) rfl rfl<|gC0<|gV8 rfl hc1 rfl<|m_v rfl<|lD7<|gC0<|iS5 rfl hc1<|(jM8 h W2 k1.wf hc1).imp λu S2 q=> ?_;obtain⟨k,rfl,lk,hk,hc2,k2⟩:=q;have J2:=J1.go w0 k2 hc2;have lk0:Sz.n<=k:=Nat.le_trans J1.I.kp.le lk;have I3:Wk wk lp lt L Sz (S2.upd k (.frz (.dct ks vs))):=by obtain⟨a1,a2,a3,a4,a5⟩:=J2.I;have n1:=jN5 a1 hk (gH0 rfl);have n2:=jN5 a2 hk (gH0 rfl);have n3:=jN5 a3 hk (gH0 rfl);exact⟨gB9 n1 a1,gB9 n2 a2,gB9 n3 a3,a4.up w0 lk0 hk,a5⟩
 have hc3:(S2.upd k (.frz (.dct ks vs))).h c=some (cuO dat (base+r.part.length)):=by rw[gB9 (jN5 hc2 hk (gH0 rfl)) hc2,pl_];exact congrArg (λn=>some (cuO dat n)) (by lia)
 have sp:small (trs L).length=true:=dT (nl3 (Nat.lt_of_le_of_lt (iE8 L) hL) rfl);refine gK9<|gB6<|gN9<|hB8 rfl hk<| .e (kY4 hk rfl)<|If.t<|hI8<|gC3<|gV8 rfl J2.I.hw rfl<|gY8 J2.I.ht<|⟨gR1 J2.I.ht,gA0<|gJ7<|gN0 rfl rfl<|gA0<|hB8 rfl hk<|gA1<|gI4 rfl<|gD1<|iE4 hk<|gC6<|gA1<|hA0 I3.ht sp rfl ?_⟩
 have I4:=I3.put_t (x:=⟨r,base,0⟩) w0 ho;rw[show trV ⟨r,base,0⟩= .tup [.int base,.dct ks vs]by rw[←ev];rfl]at I4;exact gK9<|gB0<| .i<|gK9<|gB0<| .i ⟨gB9 J.n.2.2.2 hc3,I4,J.n⟩
end
noncomputable def tl:List Row->List Nat
 | []=> []
 |r::rs=> [10]++(r.part++tl rs)
noncomputable def tx:List Row->List Nat
 | []=> []
 |r::rs=>r.part++tl rs
noncomputable def sep:List Row->List Nat
 | []=> []
 |_::_=> [10]
theorem jC8(rs:List Row):tl rs=sep rs++tx rs:=by cases rs<;>rfl
theorem hQ6:∀rs:List Row,gE7 [10] (rs.map Row.part)=tx rs
 | []=>rfl
 | [r]=>(List.append_nil _).symm
 |r::r'::rs=>by show r.part++ [10]++gE7 [10] ((r'::rs).map Row.part)=r.part++tl (r'::rs);rw[hQ6 (r'::rs),List.append_assoc];rfl
theorem hF6{r:Row}(ok:r.ok):∃c∈starts,∃t,r.part=[c]++t:=by
 cases o:r.o with
 |true=>
  rw[hD2 o];refine⟨48+r.n.toNat,?_,_,rfl⟩
  rcases (ok.obj o).1 with h|h|h|h<;>rw[h]<;>decide
 |false=>
  rw[hK5 o];exact⟨116,by decide,_,rfl⟩
theorem kT0:∀ {rs:List Row},(∀r,r∈rs->r.ok)->Tl (tl rs)
 | [],_=>⟨([],true),mS,[],rfl,λδ=>rfl⟩
 |r::rs,h=>by obtain⟨c,hc,t,e⟩:=hF6 (h r (mS));refine⟨([10,c],false),mO _ (List.mem_map.mpr ⟨c,hc,rfl⟩),t++tl rs,?_,nofun⟩;show [10]++(r.part++tl rs)=_;rw[e];rfl
section
variable{f c:Nat}{dat A:List Nat}{rs:List Row}{S:St}
theorem jD1{c:Nat}(h:c∈starts):okC [c] false 0 52 [] 20 0 .none=true/\okC [10,c] false 0 52 [] 20 1 .none=true:=aN jJ4 λδ t=>aN (List.all_eq_true.mp t c h) λa b=>⟨a,b⟩
theorem jA8(w:Wf S)(ok:∀r,r∈rs->r.ok)(e:dat=tx rs)(hc:S.h c=some (cuO dat 0)):W (gA4 prog (f+20) 52 [.loc c] S) λu S'=>S'.h c=some (cuO dat 0)/\Kp [c] S S':=by
 cases rs with
 |nil=>
  have W1:Win dat 0 [] true:= .of (A:=[]) (B:=[]) e rfl (λδ=>rfl) (by decide)
  exact aN jJ4 λt δ=>(hB4 t rfl W1 w hc).imp λu S' q=>q.2
 |cons r rs=>
  obtain⟨x,hx,t,er⟩:=hF6 (ok r (mS));have W1:Win dat 0 [x] false:= .of (A:=[]) (B:=t++tl rs) (e.trans (by show r.part++_=_;rw[er];rfl)) rfl nofun (show 1<90000 by decide);exact(hB4 (jD1 hx).1 rfl W1 w hc).imp λu S' q=>q.2
theorem jU4(w:Wf S)(ok:∀r,r∈rs->r.ok)(e:dat=A++tl rs)(hc:S.h c=some (cuO dat A.length)):W (gA4 prog (f+20) 52 [.loc c] S) λu S'=>S'.h c=some (cuO dat (A++sep rs).length)/\Kp [c] S S':=by
 cases rs with
 |nil=>
  have W1:Win dat A.length [] true:= .of (A:=A) (B:=[]) e rfl (λδ=>rfl) (by decide);refine aN jJ4 λt δ=>(hB4 t rfl W1 w hc).imp λu S' q=>⟨?_,q.2.2⟩
  rw[List.length_append];exact q.2.1
 |cons r rs=>
  obtain⟨x,hx,t,er⟩:=hF6 (ok r (mS));have W1:Win dat A.length [10,x] false:= .of (A:=A) (B:=t++tl rs) (e.trans (by show A++([10]++(r.part++_))=_;rw[er];rfl)) rfl nofun (show 2<90000 by decide);refine(hB4 (jD1 hx).2 rfl W1 w hc).imp λu S' q=>⟨?_,q.2.2⟩
  rw[List.length_append];exact q.2.1
end
noncomputable abbrev cnd:ME:= .notE (.callM (.var 50) 52 [])
noncomputable abbrev bdy:List MS:=[.ite jT8 [.ex (.callF 25 [(.var 50),(.var 36),(.var 35)])] [.ex (.callF 44 [(.var 50),(.var 35)])],.ex (.callM (.var 50) 51 [])]
theorem jC5{f c pos:Nat}{dat:List Nat}{m:Lo}{S:St}(e50:m 50=some (.loc c))(hc:S.h c=some (cuO dat pos)){Q:QP}(q:Q (.bool !(decide ((dat.length:Int)<=pos))) S):W (evE prog (f+10) cnd m S) Q:=hO9<|gH8<|gR8 e50 hc<| .e (gT0 hc) ⟨nofun,.i<|gA1<|gB8 (vs:=[.loc c]) rfl rfl<|gF0<|gC7<|gV8 rfl hc rfl<|m_v rfl<|gV8 rfl hc rfl<|m_v rfl<| .i<| .i<| .i q⟩
theorem jC4{c wk lp lt:Nat}{dat:List Nat}{Sz:St}(w0:Wf Sz):∀(rs:List Row){A:List Nat}{L:List LR}{m:Lo}{S:St},(∀r,r∈rs->r.ok)->rs.length+L.length<100->dat=A++tx rs->Ow c wk lp lt dat A.length L Sz S->
  m 50=some (.loc c)->m 36=some .none->m 35=some (.loc wk)->L.Pairwise (λx y=>x.b<y.b)->(∀x,x∈L->x.b<A.length)->∀F,rs.length+130<F->X (exW prog F cnd bdy m S) λfl m' S'=>
   fl= .nx/\m'=m/\∃L',L'.map (·.r)=L.map (·.r)++rs/\L'.Pairwise (λx y=>x.b<y.b)/\Ow c wk lp lt dat dat.length L' Sz S'
 |_,_,_,_,_,_,_,_,_,_,_,_,_,_,0,lt=>absurd lt (Nat.not_lt_zero _)
 | [],A,L,m,S,ok,hl,e,J,e50,e36,e35,inc,bd,F+1,lF=>by
  have ed:dat.length=A.length:=by rw[e,List.length_append];rfl
  obtain⟨k,rfl⟩:=Nat.exists_eq_add_of_le (Nat.le_trans (by decide:10<=0+130) (Nat.le_of_lt_succ lF));rw[Nat.add_comm 10 k];refine iJ9<|jC5 e50 J.hc ?_;rw[dT (Int.ofNat_le.mpr (Nat.le_of_eq ed))]
  exact If.f ⟨rfl,rfl,L,(List.append_nil _).symm,inc,ed▸J⟩
 |r::rs,A,L,m,S,ok,hl,e,J,e50,e36,e35,inc,bd,F+1,lF=>by
  have lF:rs.length+1+130<F+1:=lF;have hl:rs.length+1+L.length<100:=hl;obtain⟨k,rfl⟩:=Nat.exists_eq_add_of_le (Nat.le_trans (Nat.le_trans (by decide:110<=130) (Nat.le_add_left 130 (rs.length+1))) (Nat.le_of_lt_succ lF));rw[Nat.add_comm 110 k];have okr:=ok r (mS);have oks:∀r,r∈rs->r.ok:=λx h=>ok x (mO _ h);have e:dat=A++(r.part++tl rs):=e;obtain⟨x0,hx0,t0,er⟩:=hF6 okr;have pp:0<r.part.length:=by rw[er];exact Nat.succ_pos _
  have ed:A.length<dat.length:=by rw[e,List.length_append,List.length_append];exact Nat.lt_add_of_pos_right (Nat.lt_of_lt_of_le pp (Nat.le_add_right ..))
  refine iJ9<|jC5 e50 J.hc ?_;rw[decide_eq_false (Int.not_le.mpr (Int.ofNat_lt.mpr ed))];refine If.t ?_
  have rest:∀ {S':St}(x:LR),x.r=r->x.b=A.length->Ow c wk lp lt dat (A.length+r.part.length) (L++ [x]) Sz S'->X (exB prog (k+109) [.ex (.callM (.var 50) 51 [])] m S') λfl m_1 S_1=>match fl with
    | .rt v=>Fl.rt v= .nx/\m_1=m/\∃L',L'.map (·.r)=L.map (·.r)++r::rs/\L'.Pairwise (λx y=>x.b<y.b)/\Ow c wk lp lt dat dat.length L' Sz S_1
    |_=>X (exW prog (k+110) cnd bdy m_1 S_1) λfl m' S'=>fl= .nx/\m'=m/\∃L',L'.map (·.r)=L.map (·.r)++r::rs/\L'.Pairwise (λx y=>x.b<y.b)/\Ow c wk lp lt dat dat.length L' Sz S':=λ{S'} x hr hb J2=>by
   rw[←List.length_append]at J2;have hc:=J2.hc;refine hI8<|gH8<|gR8 e50 hc<| .e (gT0 hc) ⟨nofun,.i<|gA1<|(jU4 (A:=A++r.part) (rs:=rs) J2.I.kp.wf oks (by rw[e,List.append_assoc]) hc).imp λu S3 q=> ?_⟩;have J3:=J2.go w0 q.2 q.1;refine gB0 ?_;have l3:A.length<(A++r.part++sep rs).length:=by rw[List.length_append,List.length_append];exact Nat.lt_of_lt_of_le (Nat.lt_add_of_pos_right pp) (Nat.le_add_right ..)
   refine(jC4 w0 rs (A:=A++r.part++sep rs) (L:=L++ [x]) oks (by rw[List.length_append];exact nl6 hl) (by rw[e,jC8];simp only[List.append_assoc]) J3 e50 e36 e35 ?_ ?_ (k+110) (Nat.lt_of_lt_of_le (jN4 lF) (Nat.le_of_eq (Nat.add_comm ..)))).imp λfl m' S' q=> ?_
   ·refine List.pairwise_append.mpr ⟨inc,List.pairwise_singleton ..,λy hy z hz=> ?_⟩;rw[List.mem_singleton.mp hz,hb];exact bd y hy
   ·intro y hy;rcases List.mem_append.mp hy with h|h
    ·exact Int.lt_trans (bd y h) (Int.ofNat_lt.mpr l3)
    ·rw[List.mem_singleton.mp h,hb];exact Int.ofNat_lt.mpr l3
   ·obtain⟨rfl,rfl,L',h1,h2⟩:=q;refine⟨rfl,rfl,L',?_,h2⟩;rw[h1,List.map_append,List.append_assoc];show _++(x.r::rs)=_;rw[hr]
  have hc:=J.hc
  cases o:r.o with
  |true=>
   refine e03 (okr.obj o) λhn hg δ=> ?_;have W1:Win dat A.length (hdr r.n r.g) false:= .of (A:=A) (B:=gI5 r.v++(eob++tl rs)) (by rw[e,hD2 o];unfold hdr;simp only[List.append_assoc];rfl) rfl nofun (show 8<90000 by decide);refine aN (List.all_eq_true.mp (List.all_eq_true.mp kA6 _ (jN6 hn)) _ (jQ8 hg)) λδ t2=> ?_;refine gB6<|(kF1 t2 rfl W1 J.I.kp.wf e50 hc).k2 λS1 hc1 k1=> ?_;have J1:=J.go w0 k1 hc1;refine If.t<|hI8<|gA3<|hI6 e50 hc1<|gN0 e36 rfl<|hI6 e35 J1.I.hw<|gA1<|(jU8 w0 J1 (nl8 hl) o okr e rfl (kT0 oks)).imp λu S2 J2=> ?_
   exact gK9<|rest _ rfl rfl J2
  |false=>
   refine aN jZ5 λt1 δ=> ?_;have W1:Win dat A.length [116] false:= .of (A:=A) (B:=[114,97,105,108,101,114,32]++gI5 r.v++tl rs) (by rw[e,hK5 o];simp only[List.append_assoc];rfl) rfl nofun (by decide);refine gB6<|(kF1 t1 rfl W1 J.I.kp.wf e50 hc).k2 λS1 hc1 k1=> ?_;have J1:=J.go w0 k1 hc1;refine If.f<|hI8<|gA3<|hI6 e50 hc1<|hI6 e35 J1.I.hw<|gA1<|(lU9 w0 J1 (nl8 hl) o okr e rfl).imp λu S2 J2=> ?_;exact gK9<|rest _ rfl rfl J2
theorem jA9{f:Nat}{rs:List Row}{S:St}(w:Wf S)(ok:∀r,r∈rs->r.ok)(hl:rs.length<=5):
  W (gA4 prog (f+150) 21 [.bytes (tx rs),.none] S) λu S'=>∃wk lp lt L,u= .loc wk/\L.map (·.r)=rs/\L.Pairwise (λx y=>x.b<y.b)/\Wk wk lp lt L S S':=by
 refine gB8 (vs:=[.bytes (tx rs),.none]) rfl rfl ?_;refine gC0 (tE (D:=D0) (os:=[]) (F:=40) (v:= .loc 0) (os':=[some (.ins 5 [11,17] [.loc 1,.loc 2]),some (.lst []),some (.lst [])]) (pl:= .z) (m:=λδ=>none) w trivial LoR.z (by kernel_rfl) λR1 r1 q1=> ?_);have hw:R1.h S.n=some (.ins 5 [11,17] [.loc (S.n+1),.loc (S.n+2)]):=r1 0 _ rfl;have hp:R1.h (S.n+1)=some (.lst []):=r1 1 _ rfl;have ht:R1.h (S.n+2)=some (.lst []):=r1 2 _ rfl;have q1:Kp [] S R1:=q1;have l1:=Wf.lt q1.wf hw;have l2:=Wf.lt q1.wf hp;have l3:=Wf.lt q1.wf ht;have W0:Win (tx rs) 0 [] false:= .of (A:=[]) (B:=tx rs) rfl rfl nofun (by decide);have hn:(R1.new (.ins 4 [] [])).h R1.n=_:=gA6;refine gC0<|gH9 rfl<|gN0 rfl rfl<|gA1<|tC (D:=W0.par) (F:=20) (ps:=[R1.n]) (pl:= .o (Nat.lt_succ_self _)) (os:=[some (.ins 4 [] [])]) (args:=[.loc 0,.bytes mkr]) (v:= .none) (os':=[some (.ins 4 [49,18,56] [.bytes mkr,.int 0,.int 100000])]) (Wf.new q1.wf) ⟨hn,trivial⟩ rfl (by kernel_rfl) λR2 r2 k2=> ?_;have hc:R2.h R1.n=some (cuO (tx rs) 0):=r2 0 _ rfl;have k2:Kp [R1.n] (R1.new (.ins 4 [] [])) R2:=k2;have kk2:Kp [] R1 R2:=(Kp.new (T:=[]) (o:= .ins 4 [] []) q1.wf).fr q1.wf (Nat.le_refl _) k2;have J:Ow R1.n S.n (S.n+1) (S.n+2) (tx rs) 0 [] S R2:=⟨hc,⟨kk2.z hw,kk2.z hp,kk2.z ht,q1.trans kk2,Nat.le_refl _,Nat.le_succ _,Nat.le_add_right ..,by(exact Nat.ne_of_lt (Nat.le_refl S.n.succ)),by(exact Nat.ne_of_lt (Nat.le_of_lt (Nat.le_refl S.n.succ.succ))),by(exact Nat.ne_of_lt (Nat.le_refl (S.n+1).succ))⟩,q1.le,by(exact Nat.ne_of_gt l1),by(exact Nat.ne_of_gt l2),by(exact Nat.ne_of_gt l3)⟩
 refine⟨rfl,hI8<|gH8<|gR8 rfl hc<| .e (gT0 hc) ⟨nofun,.i<|gA1<|(jA8 kk2.wf ok rfl hc).imp λu S3 q=> ?_⟩⟩;have J3:=J.go w q.2 q.1;refine lD6<|(jC4 w rs (A:=[]) (L:=[]) ok (by show rs.length+0<100;(exact Nat.lt_of_le_of_lt hl (Nat.le_add_left (Nat.succ 5) 94))) rfl J3 rfl rfl rfl .nil gC4 _ (by omega)).imp λfl m' S4 q=> ?_;obtain⟨rfl,rfl,L,h1,h2,J4⟩:=q;exact Nx.nx<|gF0<|gR8 rfl J4.I.hw<| .i ⟨_,_,_,L,rfl,h1,h2,J4.I⟩
theorem jD8{S:St}{l:List V}(h:gF4 200 l l=true):gK3 S .eq (.tup l) (.tup l)=some true/\gK3 S .ne (.tup l) (.tup l)=some false:=by have e:eqV S (.tup l) (.tup l)=some true:=show(if gF4 200 l l then some true else none)=_ from if_pos h;exact⟨e,bk e rfl⟩
theorem jD9{S:St}{k j:Nat}{l:List V}(a:S.h k=some (.lst l))(b:S.h j=some (.lst l))(h:gF4 200 l l=true):gK3 S .ne (.loc k) (.loc j)=some false:=by
 have e:eqV S (.loc k) (.loc j)=some true:=by show(match gD4 S (.loc k)with|some x=>(gD4 S (.loc j)).bind λy=>eqL x y|none=>eqD S (.loc k) (.loc j))=_;rw[gV5 a];refine bk (gV5 b) ?_;unfold eqL;rw[if_neg (by simp),if_pos h]
 exact bk e rfl
noncomputable def toO(r:Row):V:= .tup [.int r.n,.int r.g,gG9 r.v]
theorem Row.ok.m{r:Row}(h:r.ok):r.v∈vals++tras:=by
 cases o:r.o with
 |true=>exact ma (h.obj o).2.2
 |false=>exact mb (h.tra o).2.2
theorem iT8{r:Row}(h:r.ok):same 70 (toO r) (toO r)=true:=by
 show gF4 69 [.int r.n,.int r.g,gG9 r.v] [.int r.n,.int r.g,gG9 r.v]=true;refine gP6 (gJ0 (f:=60) λz hz=> ?_) (show 60+3+1<=69 by decide);rcases mC hz with rfl|hz
 ·exact gO5 (f:=1) (beq_self_eq_true _) (by decide)
 rcases mC hz with rfl|hz
 ·exact gO5 (f:=1) (beq_self_eq_true _) (by decide)
 ·rw[List.mem_singleton.mp hz];exact(kv h.m).told.2
theorem hK2{rs:List Row}{p:Row->Bool}{e:Row->V}(hl:rs.length<=5)(h:∀r,r∈rs->same 70 (e r) (e r)=true):gF4 200 ((rs.filter p).map e) ((rs.filter p).map e)=true:=by
 refine gP6 (gJ0 (f:=70) λz hz=> ?_) (show _<=200 by
  rw[List.length_map]
  exact Nat.le_trans (Nat.add_le_add_right (Nat.add_le_add_left (Nat.le_trans (List.length_filter_le p rs) hl) 70) 1) (by decide))
 obtain⟨r,hr,rfl⟩:=List.mem_map.mp hz;exact h r (List.mem_filter.mp hr).1
theorem kF9{L:List LR}{p:Row->Bool}{e:Row->V}:(L.filter λx=>p x.r).map (λx=>e x.r)=((L.map (·.r)).filter p).map e:=by rw[List.filter_map,List.map_map];rfl
section
variable{f:Nat}{m:Lo}{S:St}{Q:QP}
theorem iX1{wk lp lt:Nat}{L:List LR}(w:Wf S)(ok:∀x,x∈L->x.r.ok)(hl:L.length<=5)(e13:m 13=some (.loc wk))(hw:S.h wk=some (.ins 5 [11,17] [.loc lp,.loc lt]))(hp:S.h lp=some (.lst (pcs L)))
  (k:∀j S',S.n<=j->S'.h j=some (.lst (((L.map (·.r)).filter (·.o)).map toO))->S'.h lp=some (.frz (.lst (pcs L)))->Kp [lp] S S'->Q (.loc j) S'):
  W (evE prog (f+200) (.lcomp [14] (.tupE [(.attr (.var 14) 7),(.attr (.var 14) 8),(.callF 19 [(.attr (.var 14) 15)])]) [(.mk (.one 14) (.ex (.attr (.var 13) 11)) [])]) m S) Q:=by
 have k0:=Kp.upd (o:= .frz (.lst (pcs L))) w hp;refine gE8<|iC5<|gV8 e13 hw rfl<|gY8 hp<|iK6 hp ?_;refine(gE3 (K:=120) (enc:=pcV) (u:=λδ=>true) (e:=λx=>toO x.r) (J:=λS'=>Kp [] (S.upd lp (.frz (.lst (pcs L)))) S') (L.filter (·.r.o)) [] (by have:=List.length_filter_le (λx:LR=>x.r.o) L;show 0+_<1000;(exact hO6 (nl2 (Nat.le_trans this hl) rfl))) (λx hx f S' j=> ?_) (.refl k0.wf) _ (by have:=List.length_filter_le (λx:LR=>x.r.o) L;(exact nl1 (Nat.le_trans this hl) rfl))).imp λz S' q=> ?_
 ·have okx:=ok x (List.mem_filter.mp hx).1;refine⟨_,rfl,gO2 ⟨rfl,nofun,λδ=> ?_⟩⟩;refine gJ7<|gA0<|hB9 rfl rfl rfl rfl<|m_v rfl<|gA0<|hB9 rfl rfl rfl rfl<|m_v rfl<|gA0<|gA3<|gA0<|hB9 rfl rfl rfl rfl<|m_v okx.kv<|gA1<|(hE8 okx.m j.wf).k1 λS2 k2=> ?_;exact gA1<|gI4 rfl<|gI4 rfl<|gD1<|z_v (gM2 okx.m)<|gC6 ⟨rfl,rfl,j.trans k2⟩
 ·obtain⟨rfl,k1⟩:=q;rw[List.nil_append,List.filter_eq_self.mpr λδ δ=>rfl,kF9 (p:=λr=>r.o) (e:=toO)];have kk1:=(k0.trans k1.nil).nw (o:= .lst (((L.map (·.r)).filter (·.o)).map toO));exact k _ _ (Nat.le_trans k0.le k1.le) gA6 (gH3 k1.wf (k1.z gC9)) kk1
theorem iC3{wk lp lt:Nat}{L:List LR}(w:Wf S)(ok:∀x,x∈L->x.r.ok)(hl:L.length<=5)(e13:m 13=some (.loc wk))(hw:S.h wk=some (.ins 5 [11,17] [.loc lp,.loc lt]))(ht:S.h lt=some (.lst (trs L)))
  (k:∀j S',S.n<=j->S'.h j=some (.lst (((L.map (·.r)).filter (!·.o)).map λr=>gG9 r.v))->S'.h lt=some (.frz (.lst (trs L)))->Kp [lt] S S'->Q (.loc j) S'):
  W (evE prog (f+200) (.lcomp [18,19] (.callF 19 [(.var 19)]) [(.mk (.tup [18,19]) (.ex (.attr (.var 13) 17)) [])]) m S) Q:=by
 have k0:=Kp.upd (o:= .frz (.lst (trs L))) w ht;refine gE8<|iC5<|gV8 e13 hw rfl<|gY8 ht<|iK6 ht ?_;refine(gE3 (K:=120) (enc:=trV) (u:=λδ=>true) (e:=λx=>gG9 x.r.v) (J:=λS'=>Kp [] (S.upd lt (.frz (.lst (trs L)))) S') (L.filter (!·.r.o)) [] (by have:=List.length_filter_le (λx:LR=> !x.r.o) L;show 0+_<1000;(exact hO6 (nl2 (Nat.le_trans this hl) rfl))) (λx hx f S' j=> ?_) (.refl k0.wf) _ (by have:=List.length_filter_le (λx:LR=> !x.r.o) L;(exact nl1 (Nat.le_trans this hl) rfl))).imp λz S' q=> ?_
 ·have okx:=ok x (List.mem_filter.mp hx).1;refine⟨_,rfl,gO2 ⟨rfl,nofun,λδ=> ?_⟩⟩;refine gA3<|gN0 rfl okx.kv<|gA1<|(hE8 okx.m j.wf).k1 λS2 k2=> ?_;exact⟨rfl,gM2 okx.m,j.trans k2⟩
 ·obtain⟨rfl,k1⟩:=q;rw[List.nil_append,List.filter_eq_self.mpr λδ δ=>rfl,kF9 (p:=λr=> !r.o) (e:=λr=>gG9 r.v)];have kk1:=(k0.trans k1.nil).nw (o:= .lst (((L.map (·.r)).filter (!·.o)).map λr=>gG9 r.v));exact k _ _ (Nat.le_trans k0.le k1.le) gA6 (gH3 k1.wf (k1.z gC9)) kk1
theorem jO5{kr:Nat}{rs:List Row}(w:Wf S)(ok:∀r,r∈rs->r.ok)(hl:rs.length<=5)(e4:m 4=some (.loc kr))(hr:S.h kr=some (.frz (.lst (rs.map Row.V))))
  (k:∀j S',S.n<=j->S'.h j=some (.lst ((rs.filter (·.o)).map toO))->Kp [] S S'->Q (.loc j) S'):
  W (evE prog (f+200) (.lcomp [16] (.tupE [(.sub (.var 16) (.lit (.int 1))),(.sub (.var 16) (.lit (.int 2))),(.callF 19 [(.sub (.var 16) (.lit (.int 3)))])]) [(.mk (.one 16) (.ex (.var 4)) [(.cmp .eq (.sub (.var 16) (.lit (.int 0))) (.lit (.str jI7)))])]) m S) Q:=by
 refine gE8<|iC5<|gA7 e4<|hK9 hr<|jW3 ?_;refine(gE3 (K:=120) (enc:=Row.V) (u:=λr=>r.o) (e:=toO) (J:=λS'=>Kp [] S S') rs [] (by show 0+_<1000;(exact hO6 (nl2 hl rfl))) (λx hx f S' j=> ?_) (.refl w) _ (by(exact nl1 hl rfl))).imp λz S' q=> ?_
 ·have okx:=ok x hx;refine⟨_,rfl,gT9<|gC7<|hA7 rfl rfl rfl<|m_v rfl<|gA2<| .i ?_⟩;rw[iT2];refine If.s (λh=>gO2 ⟨h.symm,nofun,λδ=> ?_⟩) λh=>⟨h.symm,λδ=>j,nofun⟩
  refine gJ7<|gA0<|hA7 rfl rfl rfl<|m_v rfl<|gA0<|hA7 rfl rfl rfl<|m_v rfl<|gA0<|gA3<|gA0<|hA7 rfl rfl rfl<|m_v okx.kv<|gA1<|(hE8 okx.m j.wf).k1 λS2 k2=> ?_;exact gA1<|gI4 rfl<|gI4 rfl<|gD1<|z_v (gM2 okx.m)<|gC6 ⟨rfl,rfl,j.trans k2⟩
 ·obtain⟨rfl,k1⟩:=q;rw[List.nil_append];exact k _ _ k1.le gA6 k1.nw
theorem jO4{kr:Nat}{rs:List Row}(w:Wf S)(ok:∀r,r∈rs->r.ok)(hl:rs.length<=5)(e4:m 4=some (.loc kr))(hr:S.h kr=some (.frz (.lst (rs.map Row.V))))
  (k:∀j S',S.n<=j->S'.h j=some (.lst ((rs.filter (!·.o)).map λr=>gG9 r.v))->Kp [] S S'->Q (.loc j) S'):
  W (evE prog (f+200) (.lcomp [16] (.callF 19 [(.sub (.var 16) (.lit (.int 3)))]) [(.mk (.one 16) (.ex (.var 4)) [(.cmp .eq (.sub (.var 16) (.lit (.int 0))) (.lit (.str jC6)))])]) m S) Q:=by
 refine gE8<|iC5<|gA7 e4<|hK9 hr<|jW3 ?_;refine(gE3 (K:=120) (enc:=Row.V) (u:=λr=> !r.o) (e:=λr=>gG9 r.v) (J:=λS'=>Kp [] S S') rs [] (by show 0+_<1000;(exact hO6 (nl2 hl rfl))) (λx hx f S' j=> ?_) (.refl w) _ (by(exact nl1 hl rfl))).imp λz S' q=> ?_
 ·have okx:=ok x hx;refine⟨_,rfl,gT9<|gC7<|hA7 rfl rfl rfl<|m_v rfl<|gA2<| .i ?_⟩;rw[kS7];refine If.s (λh=>gO2 ⟨h.symm,nofun,λδ=> ?_⟩) λh=>⟨h.symm,λδ=>j,nofun⟩
  refine gA3<|gA0<|hA7 rfl rfl rfl<|m_v okx.kv<|gA1<|(hE8 okx.m j.wf).k1 λS2 k2=> ?_;exact⟨rfl,gM2 okx.m,j.trans k2⟩
 ·obtain⟨rfl,k1⟩:=q;rw[List.nil_append];exact k _ _ k1.le gA6 k1.nw
end
theorem hK4:∀ {rs:List Row},(∀r,r∈rs->r.ok)->(tl rs).length<=600*rs.length
 | [],_=>Nat.le_refl _
 |r::rs,h=>by
  have ih:=hK4 λx hx=>h x (mO _ hx);have ol:=(gU5 (h r (mS)).m).2.2
  have:r.part.length<=15+(gI5 r.v).length:=by
   cases o:r.o with
   |true=>
    rw[hD2 o];simp only[List.length_append];show 1+(1+(1+(1+(3+(1+(_+7))))))<=_
    lia
   |false=>
    rw[hK5 o];simp only[List.length_append];show 7+(1+_)<=_;lia
  show([10]++(r.part++tl rs)).length<=600*(rs.length+1);rw[List.length_append,List.length_append];show 1+_<=_;lia
theorem hA3:∀rs:List Row,gL8 (rs.map λr=>V.bytes r.part)=some (rs.map Row.part)
 | []=>rfl
 |r::rs=>show(yOf (.bytes r.part)).bind (λi=>(hO3 yOf (rs.map λr=>V.bytes r.part)).bind λl=>some (i::l))=_ from bk rfl (bk (hA3 rs) rfl)
theorem kF3{k:Nat}{rs:List Row}{S:St}{Q:QP}(ok:∀r,r∈rs->r.ok)(hl:rs.length<=5)(e:S.h k=some (.lst (rs.map λr=>V.bytes r.part)))(h:Q (.bytes (tx rs)) S):W (callBM S .bytesJoin (.bytes [10]) [.loc k]) Q:=by
 show W ((yOf (V.bytes [10])).bind λsep=>(a1 [V.loc k]).bind λv=>(gD4 S v).bind λl=>(gL8 l).bind λl=>if small (gE7 sep l).length then some (V.bytes (gE7 sep l),S)else none) Q;refine Wo (a:=[10]) rfl (Wo (a:= .loc k) rfl (Wo (gV5 e) (Wo (hA3 rs) (Wi ?_ (Ws ?_)))))
 ·rw[hQ6];refine dT ?_;have a:=hK4 ok;rw[jC8,List.length_append]at a;lia
 ·rw[hQ6];exact h
theorem jD4{rs:List Row}{L:List LR}(ok:∀r,r∈rs->r.ok)(hl:rs.length<=5)(e:L.map (·.r)=rs)(inc:L.Pairwise λx y=>x.b<y.b):Pla L:=pla (λx hx=>ok _ (e▸List.mem_map_of_mem hx)) (by rw[←List.length_map (f:=λx:LR=>x.r),e];exact hl) inc
theorem kO5{f p kr kq n:Nat}{rs:List Row}{m:Lo}{S:St}(I:Rws p kr kq n rs m S)(hn:n<=5)(n3:kr≠kq):X (exB prog (f+500) lG6 m S) λfl δ δ=>fl= .rt (.bool true):=by
 obtain⟨_,e4,e5,_,hr,hq,w,ok,ln⟩:=I;have hl:rs.length<=5:=Nat.le_trans (Nat.le_of_eq ln) hn;have P0:Pla (gL2 0 rs):=jD4 ok hl (gS2 0 rs) (hQ1 0 rs);have de:=hM7 ok (gS2 0 rs);refine e12 (iB6 P0) λl el sl=> ?_;have dl:kK8 rs= .tup l:=de.trans el;refine hZ4<|gA0<|gA3<|gA0<|gR7 e4 hr<|gA1<|(kN8 w hr ok hl).imp λu S1 q=> ?_;obtain⟨wk,lp,lt,Sz,rfl,k0,hr0,I1⟩:=q;have hq1:=I1.kp.z (k0.one n3.symm hq);have hr1:=I1.kp.z hr0;refine gA0<|gA3<|gA0<|gA7 e4<|hK9 hr1<|gA1<|(lD0 I1.kp.wf (dpl ok hl)).k1 λS2 k2=> ?_;have I2:=I1.keep k2;have hq2:=k2.z hq1;have hr2:=k2.z hr1;have lq:=Wf.lt w hq;have lr:=Wf.lt w hr;have lp0:S.n<=lp:=Nat.le_trans k0.le I1.lw.2.1;refine gA1 ⟨rfl,gB6<|gC7<|(jH8 (x:=9) (L:=gL2 0 rs) I2.kp.wf rfl I2.hw (.inl I2.hp) (.inl I2.ht) I2.lw.2.2.2.2.2 P0).imp λu S3 q=> ?_⟩;obtain⟨rfl,k3⟩:=q;have hq3:=k3.one (by(exact lG1 (Nat.lt_of_lt_of_le lq lp0))) hq2;have hr3:=k3.one (by(exact lG1 (Nat.lt_of_lt_of_le lr lp0))) hr2;have l3:S.n<=S3.n:=Nat.le_trans k0.le (Nat.le_trans I2.kp.le k3.le);refine gF1 rfl (by rw[dl];rfl)<| .e (by rw[←de,dl];exact(jD8 sl).2)<|If.f<|gB0<|Nx.nx ?_;refine gC0<|gA3<|gA0<|gC3<|gA2 ⟨rfl,gA0<|gR7 e5 hq3<|gA1<|kF3 ok hl hq3<|gA0<|gA2<|gA1<|(jA9 k3.wf ok hl).imp λu S4 q=> ?_⟩;obtain⟨wk4,lp4,lt4,L,rfl,eL,inc,I4⟩:=q;have okL:∀x,x∈L->x.r.ok:=λx hx=>ok _ (eL▸List.mem_map_of_mem hx);have hlL:L.length<=5:=by rw[←List.length_map (f:=λx:LR=>x.r),eL];exact hl
 refine e06 (I4.lw) λlw4 ll4 lt4' n1 n2 n4=> ?_;have hr4:=I4.kp.z hr3;refine gB6<|gC7<|iX1 I4.kp.wf okL hlL rfl I4.hw I4.hp λj S5 lj hj hp5 k5=> ?_;have hr5:=k5.one (Nat.ne_of_lt (Nat.lt_of_lt_of_le lr (Nat.le_trans l3 ll4))) hr4;have hw5:=k5.one n1 I4.hw;have ht5:=k5.one n4.symm I4.ht;rw[eL]at hj;refine jO5 k5.wf ok hl e4 hr5 λj' S6 δ hj' k6=> .e (jD9 (k6.z hj) hj' (hK2 hl λr h=>iT8 (ok r h)))<|If.f<|gB0<|Nx.nx ?_;have hr6:=k6.z hr5;have hw6:=k6.z hw5;have ht6:=k6.z ht5;have hp6:=k6.z hp5;refine gB6<|gC7<|iC3 k6.wf okL hlL rfl hw6 ht6 λj S7 lj hj ht7 k7=> ?_;have hr7:=k7.one (by lia) hr6;have hw7:=k7.one n2 hw6;have hp7:=k7.one n4 hp6;rw[eL]at hj;refine jO4 k7.wf ok hl e4 hr7 λj' S8 δ hj' k8=> .e (jD9 (k8.z hj) hj' (hK2 hl λr h=>gO5 (kv (ok r h).m).told.2 (by decide)))<|If.f<|gB0<|Nx.nx ?_;have P1:Pla L:=jD4 ok hl eL inc;have de1:=hM7 ok eL;refine gF0<|gC7<|(jH8 (x:=13) (L:=L) k8.wf rfl (k8.z hw7) (.inr (k8.z hp7)) (.inr (k8.z ht7)) n4 P1).k1 λS9 k9=> ?_;exact gF1 rfl (by rw[dl];rfl)<| .e (by rw[←de1,dl];exact(jD8 sl).1) rfl
theorem hlaw(l:List Int)(hl:l.length<=63):∃S',gA4 prog 600 0 [.lst (l.map .int)] ⟨λδ=>none,0⟩=some (.bool true,S'):=by obtain⟨v,S',e,h⟩:=kO6 (f:=0) hl λI hn n3=>kO5 I hn n3;exact⟨S',e.trans (by rw[h])⟩
section
set_option tactic.hygienic true
open PySem PySem.W PyProof.Rows
noncomputable section
noncomputable abbrev pw:Program:=PySem.Challenge.pw_nn0236_01
noncomputable def body:List Stmt:=PySem.Challenge.pw_nn0236_01.main.body
noncomputable def jN1:Stmt:= .Pass ⟨0,0,0,0⟩
noncomputable def kW5:Nat->List Stmt->Stmt
 |_,[]=>jN1
 |0,s::_=>s
 |n+1,_::r=>kW5 n r
noncomputable def st(i:Nat):Stmt:=kW5 i body
noncomputable def jU0:Stmt->List Stmt
 | .ClassDef _ _ _ b _ _ _ _ _ _ _=>b
 |_=> []
noncomputable def me(i j:Nat):Stmt:=kW5 j (jU0 (st i))
noncomputable def e(P:Params)(n:Str)(t:Tok)(v:Value):DictEntry:=⟨PyData.keyHash P n,.str n t,v⟩
noncomputable def fn(s:Stmt)(qual:Str)(globals:Addr)(closure:List (Str×Addr))(dV kV doc pm:Value)(an:Option Addr)(cd ct:Value)(bi:Addr):Data:=match s with
 | .FunctionDef n a b _ _ _ sc _ _ _=> .func {name:=n,qualname:=qual,params:=a,body:= .stmts b,scope:=sc,globals:=globals,closure:=closure,defaults:=dV,kwdefaults:=kV,doc:=doc,pyModule:=pm,annotations:=an,code:=cd,closureTuple:=ct,builtins:=bi}
 |_=> .plain
noncomputable def er(P:Params)(n:Str)(t:Tok)(a:Addr):DictEntry:=e P n t (.ref a)
noncomputable def hW6:Nat->BT->List Obj->BT
 |_,t,[]=>t
 |i,t,o::r=>hW6 (i+1) (t.ins i o) r
noncomputable def grow(l:List Obj):BT:=hW6 0 .nil l
noncomputable def hB3:List (Nat×Obj)->BT->BT
 | [],t=>t
 |(a,o)::r,t=>hB3 r (t.set a λ_=>o)
noncomputable def env:Env:= {scope:=PySem.Challenge.pw_nn0236_01.main.scope,locals:=mainNs,globals:=mainNs,cells:=[],code:= .ref 13,frame:=some 14}
noncomputable abbrev cE:Code:= .body body env
noncomputable def es3(P:Params):List DictEntry:=[e P "__doc__" 166 .none,
 e P "__package__" 167 .none,
 e P "__loader__" 168 (.builtin "__main__.__loader__#opaque"),
 e P "__spec__" 169 .none,
 er P "__annotations__" 170 6,
 er P "__builtins__" 171 4,
 e P "__file__" 173 (.str "/claim/cut.py" 172),
 e P "__cached__" 174 .none,
 er P "_wall" 193 21,
 er P "WHITE" 202 22,
 er P "DELIMITERS" 213 23,
 e P "LINE_FEED" 215 (.int 10 214),
 e P "RETURN" 217 (.int 13 216),
 e P "COMMENT" 219 (.int 37 218),
 e P "MOST_FIGURES_cursor" 221 (.int 20 220),
 er P "is_white" 228 30,
 er P "is_regular" 235 37,
 er P "is_figure" 242 44,
 er P "Cursor" 375 147,
 er P "PaperError" 417 176,
 er P "SyntaxFault" 433 189,
 e P "MOST_FIGURES_decimals" 437 (.int 40 436),
 e P "PLUS" 439 (.int 43 438),
 e P "MINUS" 441 (.int 45 440),
 e P "POINT" 443 (.int 46 442),
 e P "ZERO" 445 (.int 48 444),
 er P "Decimal" 559 285,
 er P "sign_text" 566 296,
 er P "read_decimal" 578 303,
 e P "MOST_HOPS" 582 (.int 30 581),
 er P "Name" 611 320,
 er P "String" 642 342,
 er P "Stream" 673 363,
 er P "Reference" 711 391,
 er P "kind_of" 718 402,
 er P "told_plain" 726 409,
 er P "told" 732 414,
 er P "told_objects" 733 414,
 er P "Lookup" 785 446,
 er P "Shelf" 848 500,
 er P "OWN_KEYS" 857 503,
 er P "trailer_of" 866 510,
 er P "is_cross_stream" 875 517,
 e P "PAREN" 879 (.int 40 878),
 e P "CLOSE_PAREN" 881 (.int 41 880),
 e P "LESS" 883 (.int 60 882),
 e P "GREATER" 885 (.int 62 884),
 e P "SLASH" 887 (.int 47 886),
 e P "BACKSLASH" 889 (.int 92 888),
 e P "HASH" 891 (.int 35 890),
 er P "SIGNS" 896 518,
 er P "hex_worth" 903 525,
 er P "plain_escape" 910 532,
 er P "name_text" 925 540,
 er P "octal" 935 547,
 er P "escaped_codes" 943 554,
 er P "literal" 954 561,
 er P "hex_string" 960 566,
 er P "run_token" 970 573,
 er P "delimited_token" 979 580,
 er P "next_token" 988 587,
 er P "is_sign" 996 594,
 er P "is_object_stream" 1007 601,
 er P "OF_THE_FILE" 1013 602,
 er P "drop_file_streams" 1022 609,
 e P "MOST_DEPTH" 1026 (.int 40 1025),
 er P "Frame" 1063 633,
 er P "is_whole" 1070 644,
 er P "take_reference" 1080 651,
 er P "word_value" 1088 658,
 er P "plain_value" 1100 665,
 er P "dict_of" 1106 670,
 er P "close_frame" 1117 677,
 er P "object_from" 1132 685,
 er P "read_object" 1139 692,
 er P "length_of" 1148 699,
 er P "line_end_before" 1157 706,
 er P "read_stream" 1170 714,
 er P "skip_word" 1179 721,
 er P "take_number" 1189 728,
 er P "read_indirect" 1203 736,
 er P "Piece" 1249 760,
 er P "Walk" 1278 781,
 er P "head_end" 1287 792,
 er P "take_piece" 1301 799,
 er P "take_trailer" 1312 806,
 er P "pass_word" 1325 813,
 er P "walked" 1335 820,
 er P "table_of" 1344 827,
 er P "is_of_type" 1354 834,
 er P "trailers_of" 1360 839,
 er P "joined" 1370 846,
 er P "last_catalog" 1380 853,
 er P "shelf_from" 1391 860,
 er P "_law_draw" 1402 867,
 er P "_law_value" 1411 874,
 er P "_law_trailer" 1419 881,
 er P "_law_octets" 1425 886,
 er P "_law_kind" 1433 893,
 er P "_law_due" 1439 898,
 er P "_law_walk" 1449 905,
 er P "law" 1455 910]
noncomputable def v3(P:Params)(v:Value)(k n:Nat):Obj:=⟨.type "dict",none,.dict ((e P "__name__" 165 v)::(es3 P).take k).toArray n,#[]⟩
noncomputable def tri:List (Nat×Nat×Addr)->List Value
 | []=> []
 |(a,b,c)::r=> .int a 0:: .int b 0:: .ref c::tri r
noncomputable def fs12:List Value:=tri [(1,0,20),(11,0,29),(13,0,36),(15,0,43),(17,0,50),(94,0,157),(103,0,185),(111,0,197),(156,0,295),(158,0,302),(182,0,309),(186,0,330),(191,0,352),(196,0,373),(204,0,401),(226,0,408),(240,0,413),(250,0,420),(269,0,456),(293,0,509),(299,0,516),(313,0,524),(321,0,531),(333,0,539),(349,0,546),(356,0,553),(365,0,560),(385,0,565),(400,0,572),(408,0,579),(426,0,586),(435,0,593),(438,0,600),(445,0,608),(452,0,615),(460,0,643),(462,0,650),(471,0,657),(479,0,664),(496,0,669),(501,0,676),(511,0,684),(531,0,691),(533,0,698),(538,0,705),(546,0,713),(561,0,720),(568,0,727),(573,0,735),(585,0,742),(596,0,770),(601,0,791),(608,0,798),(617,0,805),(628,0,812),(643,0,819),(654,0,826),(660,0,833),(663,0,838),(670,0,845),(677,0,852),(685,0,859),(694,0,866),(700,0,873),(714,0,880),(724,0,885),(736,0,892),(739,0,897),(759,0,904),(767,0,909)]
noncomputable def v12(k:Nat):Obj:=⟨.none,none,.fields (fs12.take k).toArray,#[]⟩
noncomputable def lI4(P:Params):Obj:=⟨(.type "type"),none,(.cls ⟨"PaperError",[(.type "Exception")],[(.ref 176),(.type "Exception"),(.type "BaseException"),(.type "object")],175,"PaperError",true,[],[],false,none,false⟩),#[(some (.ref 152)),none,(some (.str "PaperError" 378)),(some (.str "PaperError" 386)),(some (.builtin "Exception.__new__")),(some (.bool true))]⟩
noncomputable def lI3(P:Params):Obj:=⟨(.type "type"),none,(.cls ⟨"Lookup",[(.type "object")],[(.ref 446),(.type "object")],445,"Lookup",true,[],[],false,none,false⟩),#[none,none,(some (.str "Lookup" 734)),(some (.str "Lookup" 742)),(some (.builtin "object.__new__")),(some (.bool true))]⟩
noncomputable def o12(_:Params):Obj:=v12 210
noncomputable def tp(l:List Value):Obj:=⟨.type "tuple",none,.seq l.toArray 0,#[]⟩
noncomputable def fi(l:List Value):Obj:=⟨.none,none,.fields l.toArray,#[]⟩
noncomputable def ty(n:String)(l:List Value):Obj:=⟨.type n,none,.fields l.toArray,#[]⟩
noncomputable def di(l:List DictEntry)(n:Nat):Obj:=⟨.type "dict",none,.dict l.toArray n,#[]⟩
noncomputable def gd(a:Addr)(t:Tok):Obj:=ty "getset_descriptor" [.str "__dict__" t,.ref a,.builtin "function.__dict__",.builtin "function.__dict__#set"]
noncomputable def gw(a:Addr)(t:Tok):Obj:=ty "getset_descriptor" [.str "__weakref__" t,.ref a,.builtin "ExceptionGroup.__weakref__",.none]
noncomputable def su(a:Addr):Obj:=ty "super" [.ref a,.ref a,.ref a]
noncomputable def si(a:Addr):Obj:=ty "builtin_function_or_method" [.builtin "object.__init_subclass__",.ref a]
noncomputable def bp:Obj:=ty "builtin_function_or_method" [.builtin "type.__prepare__",.type "type"]
noncomputable def co(n:Str)(b m s:List Value)(a:Addr)(t:Tok)(f:Option Value)(w:String):Obj:=⟨.type "type",none,.cls ⟨n,b,.ref a::m,a-1,n,true,[],s,false,none,false⟩,#[f,none,some (.str n t),some (.str n (t+8)),some (.builtin w),some (.bool true)]⟩
noncomputable def cp(n:Str)(a:Addr)(t:Tok):Obj:=co n [.type "object"] [.type "object"] [] a t none "object.__new__"
noncomputable def nd(P:Params)(q:Str)(l:Nat)(m:Str×Tok)(t:Tok)(X:List DictEntry)(k:Nat):Obj:=di (e P "__module__" t (.str m.1 m.2)::e P "__qualname__" (t+2) (.str q (t+1))::e P "__firstlineno__" (t+4) (.int l (t+3))::X) k
noncomputable def cl0(P:Params)(l:Nat)(m:Str×Tok)(t:Tok)(X Y:List DictEntry)(k:Nat):Obj:=di (e P "__module__" t (.str m.1 m.2)::e P "__firstlineno__" (t+4) (.int l (t+3))::X++Y) k
noncomputable def fr(a b:Addr)(m:Str)(t:Tok):Obj:=⟨.type "frame",none,.plain,#[some (.ref a),some (.ref 3),some (.ref b),none,some (.str m t),none,some (.ref 0)]⟩
noncomputable def cd(n q:Str)(t:Tok)(l c f:Nat)(a:Addr)(b:Bool)(x:Addr)(u v w:Value)(k:Nat):Obj:=⟨.type "code",none,.fields #[.str n t,.str q (t+1),.str "/claim/cut.py" (t+2),.int l 0,.int c 0,.int 0 0,.int 0 0,.int f 0,.ref a,.bool b,.int 181 0,.ref x,.none,u,v,w,.int k 0,.int l 0,.str "/claim/cut.py" (k+1)],#[]⟩
noncomputable def sTs:Tok->List Str->List Value
 |_,[]=> []
 |t,s::r=> .str s t::sTs (t+1) r
noncomputable def gb(d:Value)(s:Stmt)(n q:Str)(a:Addr)(t:Tok)(v:List Str)(l c:Nat)(m:Str×Tok):List Obj:=
 [tp [],fi [],tp (sTs (t+3) v),tp [],⟨.none,none,fn s q 0 [] .none .none .none .none none .none .none 0,#[]⟩,cd n q t l c 3 a true (a+1) (.ref (a+2)) (.ref (a+3)) (.ref (a+4)) (t+3+v.length),
  ⟨.type "function",none,fn s q 3 [] d .none .none (.str m.1 m.2) none (.ref (a+5)) .none 0,#[]⟩]
noncomputable abbrev ga:=gb .none
noncomputable def kQ3:Nat->List Obj->Obj
 |_,[]=>⟨.none,none,.plain,#[]⟩
 |0,o::_=>o
 |n+1,_::r=>kQ3 n r
noncomputable def m0:Str×Tok:=("__main__",164)
noncomputable def m1:Str×Tok:=("paperhold.cursor",194)
noncomputable def m2:Str×Tok:=("paperhold.errors",376)
noncomputable def m3:Str×Tok:=("paperhold.decimals",434)
noncomputable def m4:Str×Tok:=("paperhold.objects",579)
noncomputable def m5:Str×Tok:=("paperhold.crossstream",849)
noncomputable def m6:Str×Tok:=("paperhold.lexer",876)
noncomputable def m7:Str×Tok:=("paperhold.packed",997)
noncomputable def m8:Str×Tok:=("paperhold.paper",1008)
noncomputable def m9:Str×Tok:=("paperhold.reader",1023)
noncomputable def m10:Str×Tok:=("paperhold.mending",1204)
noncomputable def m11:Str×Tok:=("law_nn0236_01",1392)
noncomputable def lF0(P:Params):List DictEntry:=[er P "__init__" 267 59,er P "is_done" 274 66,er P "peek" 284 74,er P "take" 292 81,er P "starts" 300 88,er P "skip" 308 95,er P "skip_white" 316 102,er P "take_regular" 324 109,er P "skip_line_end" 331 116,er P "take_line" 338 123,er P "number" 347 130,er P "find" 356 137,er P "find_last" 364 144,er P "__static_attributes__" 368 145]
noncomputable def lE9(P:Params):List DictEntry:=[er P "__init__" 400 166,er P "told" 407 173,er P "__static_attributes__" 410 174]
noncomputable def lE8(P:Params):List DictEntry:=[er P "__static_attributes__" 430 187]
noncomputable def lE7(P:Params):List DictEntry:=[er P "__init__" 466 205,er P "plus" 474 212,er P "minus" 482 219,er P "times" 490 226,er P "negated" 497 233,er P "compared" 505 240,er P "is_whole" 512 247,er P "floor" 519 254,er P "rounded" 527 261,er P "told" 534 268,er P "text" 542 275,er P "least_text" 549 282,er P "__static_attributes__" 552 283]
noncomputable def lE6(P:Params):List DictEntry:=[er P "__init__" 602 317,er P "__static_attributes__" 604 318]
noncomputable def lE5(P:Params):List DictEntry:=[er P "__init__" 632 339,er P "__static_attributes__" 635 340]
noncomputable def lE4(P:Params):List DictEntry:=[er P "__init__" 663 360,er P "__static_attributes__" 666 361]
noncomputable def lE3(P:Params):List DictEntry:=[er P "__init__" 694 381,er P "pair" 701 388,er P "__static_attributes__" 704 389]
noncomputable def lE2(P:Params):List DictEntry:=[er P "__init__" 754 429,er P "fetch" 766 436,er P "get" 775 443,er P "__static_attributes__" 778 444]
noncomputable def lE1(P:Params):List DictEntry:=[er P "put" 807 464,er P "add" 815 471,er P "drop" 823 478,er P "numbers" 830 485,er P "root" 838 492,er P "told" 844 497,er P "__static_attributes__" 845 498]
noncomputable def jX5(P:Params):List DictEntry:=[er P "__init__" 1046 623,er P "wants_key" 1053 630,er P "__static_attributes__" 1056 631]
noncomputable def jX4(P:Params):List DictEntry:=[er P "__init__" 1229 750,er P "told" 1236 757,er P "__static_attributes__" 1242 758]
noncomputable def jX3(P:Params):List DictEntry:=[er P "__init__" 1268 778,er P "__static_attributes__" 1271 779]
noncomputable def objs(P:Params):List Obj:=List.flatten [
[boot_o_0 P,boot_o_1 P,⟨.none,none,(.dict #[e P "type.__subclasses__.Exception.0" 414 (.int 176 0),e P "type.__subclasses__.Exception.n" 415 (.int 1 0)] 2),#[]⟩,v3 P (.str "law_nn0236_01" 1392) 102 103,boot_o_4 P,boot_o_5 P,boot_o_6 P,boot_o_7 P,boot_o_8 P,boot_o_9 P,boot_o_10 P,tp [],o12 P,cd "<module>" "<module>" 182 1 0 0 11 false 12 .none .none .none 185,fr 13 3 "__main__" 164],
ga (st 0) "_wall" "_wall" 15 187 ["k"] 1 1 m0,
[tp [(.int 0 196),(.int 9 197),(.int 10 198),(.int 12 199),(.int 13 200),(.int 32 201)],tp [(.int 40 203),(.int 41 204),(.int 60 205),(.int 62 206),(.int 91 207),(.int 93 208),(.int 123 209),(.int 125 210),(.int 47 211),(.int 37 212)]],
ga (st 8) "is_white" "is_white" 24 222 ["code"] 11 1 m1,
ga (st 9) "is_regular" "is_regular" 31 229 ["code"] 13 1 m1,
ga (st 10) "is_figure" "is_figure" 38 236 ["code"] 15 1 m1,
[tp [],bp,nd P "Cursor" 17 m1 250 (lF0 P) 17,tp [],fi (tri [(19,4,58),(24,4,65),(27,4,73),(31,4,80),(38,4,87),(41,4,94),(47,4,101),(58,4,108),(64,4,115),(75,4,122),(78,4,129),(88,4,136),(91,4,143)]),cd "Cursor" "Cursor" 245 17 0 0 48 false 49 .none .none .none 248,fr 50 47 "paperhold.cursor" 194,tp [(.int 0 255),(.int (-1) 257)]],
gb (.ref 52) (me 11 0) "__init__" "Cursor.__init__" 53 258 ["self","data","at","end"] 19 4 m1,
ga (me 11 1) "is_done" "Cursor.is_done" 60 268 ["self"] 24 1 m1,
[tp [(.int 0 275)]],
gb (.ref 67) (me 11 2) "peek" "Cursor.peek" 68 276 ["self","ahead","spot"] 27 2 m1,
ga (me 11 3) "take" "Cursor.take" 75 285 ["self","code"] 31 1 m1,
ga (me 11 4) "starts" "Cursor.starts" 82 293 ["self","word"] 38 2 m1,
ga (me 11 5) "skip" "Cursor.skip" 89 301 ["self","word"] 41 2 m1,
ga (me 11 6) "skip_white" "Cursor.skip_white" 96 309 ["self","code"] 47 1 m1,
ga (me 11 7) "take_regular" "Cursor.take_regular" 103 317 ["self","first"] 58 1 m1,
ga (me 11 8) "skip_line_end" "Cursor.skip_line_end" 110 325 ["self"] 64 1 m1,
ga (me 11 9) "take_line" "Cursor.take_line" 117 332 ["self"] 75 1 m1,
ga (me 11 10) "number" "Cursor.number" 124 339 ["self","first","number"] 78 1 m1,
ga (me 11 11) "find" "Cursor.find" 131 348 ["self","word","first"] 88 3 m1,
ga (me 11 12) "find_last" "Cursor.find_last" 138 357 ["self","word"] 91 2 m1,
[tp [(.str "at" 365),(.str "data" 366),(.str "end" 367)],cl0 P 17 m1 250 (lF0 P) [er P "__dict__" 370 148,er P "__weakref__" 372 149,e P "__doc__" 373 .none] 4,cp "Cursor" 147 243,gd 147 369,gw 147 371,su 147,si 147,tp [(.type "Exception")],bp,nd P "PaperError" 94 m2 385 (lE9 P) 6,tp [],fi (tri [(96,4,165),(101,4,172)]),cd "PaperError" "PaperError" 380 94 0 0 155 false 156 .none .none .none 383,fr 157 154 "paperhold.errors" 376,tp [(.int (-1) 391)]],
gb (.ref 159) (me 13 0) "__init__" "PaperError.__init__" 160 392 ["self","what","at"] 96 3 m2,
ga (me 13 1) "told" "PaperError.told" 167 401 ["self"] 101 1 m2,
[tp [(.str "at" 408),(.str "what" 409)],cl0 P 94 m2 385 (lE9 P) [er P "__weakref__" 412 177,e P "__doc__" 413 .none] 3,co "PaperError" [(.type "Exception")] [(.type "Exception"),(.type "BaseException"),(.type "object")] [(.ref 189)] 176 378 (some (.ref 152)) "Exception.__new__",gw 176 411,su 176,si 176,tp [(.ref 176)],bp,nd P "SyntaxFault" 103 m2 425 (lE8 P) 4,tp [],fi (tri []),cd "SyntaxFault" "SyntaxFault" 420 103 0 0 183 false 184 .none .none .none 423,fr 185 182 "paperhold.errors" 376,tp [],cl0 P 103 m2 425 (lE8 P) [e P "__doc__" 431 .none] 2,co "SyntaxFault" [(.ref 176)] [(.ref 176),(.type "Exception"),(.type "BaseException"),(.type "object")] [] 189 418 (some (.ref 180)) "Exception.__new__",su 189,si 189,tp [],bp,nd P "Decimal" 111 m3 453 (lE7 P) 16,tp [],fi (tri [(113,4,204),(120,4,211),(123,4,218),(126,4,225),(129,4,232),(132,4,239),(135,4,246),(138,4,253),(141,4,260),(144,4,267),(147,4,274),(154,4,281)]),cd "Decimal" "Decimal" 448 111 0 0 195 false 196 .none .none .none 451,fr 197 194 "paperhold.decimals" 434],
ga (me 21 0) "__init__" "Decimal.__init__" 199 458 ["self","top","places"] 113 3 m3,
ga (me 21 1) "plus" "Decimal.plus" 206 467 ["self","other"] 120 2 m3,
ga (me 21 2) "minus" "Decimal.minus" 213 475 ["self","other"] 123 2 m3,
ga (me 21 3) "times" "Decimal.times" 220 483 ["self","other"] 126 2 m3,
ga (me 21 4) "negated" "Decimal.negated" 227 491 ["self"] 129 1 m3,
ga (me 21 5) "compared" "Decimal.compared" 234 498 ["self","other"] 132 2 m3,
ga (me 21 6) "is_whole" "Decimal.is_whole" 241 506 ["self"] 135 1 m3,
ga (me 21 7) "floor" "Decimal.floor" 248 513 ["self"] 138 1 m3,
ga (me 21 8) "rounded" "Decimal.rounded" 255 520 ["self","places"] 141 2 m3,
ga (me 21 9) "told" "Decimal.told" 262 528 ["self"] 144 1 m3,
ga (me 21 10) "text" "Decimal.text" 269 535 ["self","numerals"] 147 1 m3,
ga (me 21 11) "least_text" "Decimal.least_text" 276 543 ["self"] 154 1 m3,
[tp [(.str "places" 550),(.str "top" 551)],cl0 P 111 m3 453 (lE7 P) [er P "__dict__" 554 286,er P "__weakref__" 556 287,e P "__doc__" 557 .none] 4,cp "Decimal" 285 446,gd 285 553,gw 285 555,su 285,si 285],
ga (st 22) "sign_text" "sign_text" 290 560 ["number"] 156 1 m3,
ga (st 23) "read_decimal" "read_decimal" 297 567 ["octets","begun","top","numerals","places","code"] 158 1 m3,
[tp [],bp,nd P "Name" 182 m4 590 (lE6 P) 5,tp [],fi (tri [(184,4,316)]),cd "Name" "Name" 585 182 0 0 307 false 308 .none .none .none 588,fr 309 306 "paperhold.objects" 579],
ga (me 26 0) "__init__" "Name.__init__" 311 595 ["self","text"] 184 2 m4,
[tp [(.str "text" 603)],cl0 P 182 m4 590 (lE6 P) [er P "__dict__" 606 321,er P "__weakref__" 608 322,e P "__doc__" 609 .none] 4,cp "Name" 320 583,gd 320 605,gw 320 607,su 320,si 320,tp [],bp,nd P "String" 186 m4 619 (lE5 P) 5,tp [],fi (tri [(188,4,338)]),cd "String" "String" 614 186 0 0 328 false 329 .none .none .none 617,fr 330 327 "paperhold.objects" 579,tp [(.bool false)]],
gb (.ref 332) (me 27 0) "__init__" "String.__init__" 333 624 ["self","octets","is_hex"] 188 3 m4,
[tp [(.str "is_hex" 633),(.str "octets" 634)],cl0 P 186 m4 619 (lE5 P) [er P "__dict__" 637 343,er P "__weakref__" 639 344,e P "__doc__" 640 .none] 4,cp "String" 342 612,gd 342 636,gw 342 638,su 342,si 342,tp [],bp,nd P "Stream" 191 m4 650 (lE4 P) 5,tp [],fi (tri [(193,4,359)]),cd "Stream" "Stream" 645 191 0 0 350 false 351 .none .none .none 648,fr 352 349 "paperhold.objects" 579],
ga (me 28 0) "__init__" "Stream.__init__" 354 655 ["self","head","octets"] 193 3 m4,
[tp [(.str "head" 664),(.str "octets" 665)],cl0 P 191 m4 650 (lE4 P) [er P "__dict__" 668 364,er P "__weakref__" 670 365,e P "__doc__" 671 .none] 4,cp "Stream" 363 643,gd 363 667,gw 363 669,su 363,si 363,tp [],bp,nd P "Reference" 196 m4 681 (lE3 P) 6,tp [],fi (tri [(198,4,380),(202,4,387)]),cd "Reference" "Reference" 676 196 0 0 371 false 372 .none .none .none 679,fr 373 370 "paperhold.objects" 579],
ga (me 29 0) "__init__" "Reference.__init__" 375 686 ["self","number","generation"] 198 3 m4,
ga (me 29 1) "pair" "Reference.pair" 382 695 ["self"] 202 1 m4,
[tp [(.str "generation" 702),(.str "number" 703)],cl0 P 196 m4 681 (lE3 P) [er P "__dict__" 706 392,er P "__weakref__" 708 393,e P "__doc__" 709 .none] 4,cp "Reference" 391 674,gd 391 705,gw 391 707,su 391,si 391],
ga (st 30) "kind_of" "kind_of" 396 712 ["value"] 204 1 m4,
ga (st 31) "told_plain" "told_plain" 403 719 ["kind","value"] 226 2 m4,
[tp [],fi (tri []),⟨.none,none,(fn (st 32) "told" 0 [] .none .none .none .none none .none .none 0),#[]⟩,cd "told" "told" 727 240 1 3 410 true 411 .none .none (.ref 412) 730,⟨(.type "function"),none,(fn (st 32) "told" 3 [] .none .none .none (.str "paperhold.objects" 579) none (.ref 413) .none 0),#[]⟩,tp [],bp,nd P "Lookup" 250 m4 741 (lE2 P) 7,tp [],fi (tri [(252,4,428),(256,4,435),(267,4,442)]),cd "Lookup" "Lookup" 736 250 0 0 418 false 419 .none .none .none 739,fr 420 417 "paperhold.objects" 579,tp [.none,.none]],
gb (.ref 422) (me 34 0) "__init__" "Lookup.__init__" 423 746 ["self","table","trailer"] 252 3 m4,
ga (me 34 1) "fetch" "Lookup.fetch" 430 755 ["self","value","here","hop","generation","found"] 256 2 m4,
ga (me 34 2) "get" "Lookup.get" 437 767 ["self","head","key"] 267 3 m4,
[tp [(.str "table" 776),(.str "trailer" 777)],cl0 P 250 m4 741 (lE2 P) [er P "__dict__" 780 447,er P "__weakref__" 782 448,e P "__doc__" 783 .none] 4,co "Lookup" [(.type "object")] [(.type "object")] [(.ref 500)] 446 734 none "object.__new__",gd 446 779,gw 446 781,su 446,si 446,tp [(.ref 446)],bp,nd P "Shelf" 269 m4 793 (lE1 P) 10,tp [],fi (tri [(271,4,463),(274,4,470),(277,4,477),(281,4,484),(284,4,491),(288,4,496)]),cd "Shelf" "Shelf" 788 269 0 0 454 false 455 .none .none .none 791,fr 456 453 "paperhold.objects" 579],
ga (me 35 0) "put" "Shelf.put" 458 798 ["self","number","generation","value"] 271 4 m4,
ga (me 35 1) "add" "Shelf.add" 465 808 ["self","value"] 274 2 m4,
ga (me 35 2) "drop" "Shelf.drop" 472 816 ["self","number"] 277 2 m4,
ga (me 35 3) "numbers" "Shelf.numbers" 479 824 ["self"] 281 1 m4,
ga (me 35 4) "root" "Shelf.root" 486 831 ["self","found"] 284 1 m4,
[tp [],fi (tri []),⟨.none,none,(fn (me 35 5) "Shelf.told" 0 [] .none .none .none .none none .none .none 0),#[]⟩,cd "told" "Shelf.told" 839 288 1 3 493 true 494 .none .none (.ref 495) 842,⟨(.type "function"),none,(fn (me 35 5) "Shelf.told" 3 [] .none .none .none (.str "paperhold.objects" 579) none (.ref 496) .none 0),#[]⟩,tp [],cl0 P 269 m4 793 (lE1 P) [e P "__doc__" 846 .none] 2,co "Shelf" [(.ref 446)] [(.ref 446),(.type "object")] [] 500 786 (some (.ref 451)) "object.__new__",su 500,si 500,tp [(.str "Length" 851),(.str "Filter" 852),(.str "DecodeParms" 853),(.str "W" 854),(.str "Index" 855),(.str "Type" 856)]],
ga (st 38) "trailer_of" "trailer_of" 504 858 ["head","found","key"] 293 1 m5,
ga (st 39) "is_cross_stream" "is_cross_stream" 511 867 ["shelf","value","kind"] 299 2 m5,
[tp [(.int 91 892),(.int 93 893),(.int 123 894),(.int 125 895)]],
ga (st 49) "hex_worth" "hex_worth" 519 897 ["code"] 313 1 m6,
ga (st 50) "plain_escape" "plain_escape" 526 904 ["code"] 321 1 m6,
[tp [(.int (-1) 912)]],
gb (.ref 533) (st 51) "name_text" "name_text" 534 913 ["octets","at","signs","place","code","high","low"] 333 2 m6,
ga (st 52) "octal" "octal" 541 926 ["cursor","first","code","taken"] 349 2 m6,
ga (st 53) "escaped_codes" "escaped_codes" 548 936 ["cursor","code"] 356 1 m6,
ga (st 54) "literal" "literal" 555 944 ["cursor","opening","codes","depth","code"] 365 1 m6,
[tp [],fi (tri []),⟨.none,none,(fn (st 55) "hex_string" 0 [] .none .none .none .none none .none .none 0),#[]⟩,cd "hex_string" "hex_string" 955 385 1 3 562 true 563 .none .none (.ref 564) 958,⟨(.type "function"),none,(fn (st 55) "hex_string" 3 [] .none .none .none (.str "paperhold.lexer" 876) none (.ref 565) .none 0),#[]⟩],
ga (st 56) "run_token" "run_token" 567 961 ["cursor","at","run","number"] 400 2 m6,
ga (st 57) "delimited_token" "delimited_token" 574 971 ["cursor","code","at"] 408 3 m6,
ga (st 58) "next_token" "next_token" 581 980 ["cursor","at","code"] 426 1 m6,
ga (st 59) "is_sign" "is_sign" 588 989 ["token","sign"] 435 2 m6,
ga (st 61) "is_object_stream" "is_object_stream" 595 999 ["shelf","value","word"] 438 2 m7,
[tp [(.str "Size" 1010),(.str "Prev" 1011),(.str "XRefStm" 1012)]],
ga (st 64) "drop_file_streams" "drop_file_streams" 603 1014 ["shelf","number","value"] 445 1 m8,
[tp [],bp,nd P "Frame" 452 m9 1034 (jX5 P) 6,tp [],fi (tri [(454,4,622),(458,4,629)]),cd "Frame" "Frame" 1029 452 0 0 613 false 614 .none .none .none 1032,fr 615 612 "paperhold.reader" 1023],
ga (me 67 0) "__init__" "Frame.__init__" 617 1039 ["self","mark"] 454 2 m9,
ga (me 67 1) "wants_key" "Frame.wants_key" 624 1047 ["self"] 458 1 m9,
[tp [(.str "items" 1054),(.str "mark" 1055)],cl0 P 452 m9 1034 (jX5 P) [er P "__dict__" 1058 634,er P "__weakref__" 1060 635,e P "__doc__" 1061 .none] 4,cp "Frame" 633 1027,gd 633 1057,gw 633 1059,su 633,si 633],
ga (st 68) "is_whole" "is_whole" 638 1064 ["value"] 460 1 m9,
ga (st 69) "take_reference" "take_reference" 645 1071 ["cursor","number","probe","generation"] 462 2 m9,
ga (st 70) "word_value" "word_value" 652 1081 ["worth","at"] 471 2 m9,
ga (st 71) "plain_value" "plain_value" 659 1089 ["cursor","token","lets_references","kind","worth","at"] 479 3 m9,
[tp [],fi (tri []),⟨.none,none,(fn (st 72) "dict_of" 0 [] .none .none .none .none none .none .none 0),#[]⟩,cd "dict_of" "dict_of" 1101 496 1 3 666 true 667 .none .none (.ref 668) 1104,⟨(.type "function"),none,(fn (st 72) "dict_of" 3 [] .none .none .none (.str "paperhold.reader" 1023) none (.ref 669) .none 0),#[]⟩],
ga (st 73) "close_frame" "close_frame" 671 1107 ["frames","worth","at","opening","frame"] 501 3 m9,
[tp [(.bool true)]],
gb (.ref 678) (st 74) "object_from" "object_from" 679 1118 ["cursor","token","lets_references","frames","kind","worth","at","is_opening","value"] 511 3 m9,
ga (st 75) "read_object" "read_object" 686 1133 ["cursor"] 531 1 m9,
ga (st 76) "length_of" "length_of" 693 1140 ["head","shelf","value"] 533 2 m9,
ga (st 77) "line_end_before" "line_end_before" 700 1149 ["data","begun","end"] 538 3 m9,
[tp [.none]],
gb (.ref 707) (st 78) "read_stream" "read_stream" 708 1158 ["cursor","head","shelf","begun","length","probe","end"] 546 3 m9,
ga (st 79) "skip_word" "skip_word" 715 1171 ["cursor","word","probe"] 561 2 m9,
ga (st 80) "take_number" "take_number" 722 1180 ["cursor","kind","worth","at"] 568 1 m9,
[tp [.none]],
gb (.ref 729) (st 81) "read_indirect" "read_indirect" 730 1190 ["cursor","shelf","number","generation","kind","worth","at","value"] 573 2 m9,
[tp [],bp,nd P "Piece" 585 m10 1213 (jX4 P) 6,tp [],fi (tri [(587,4,749),(594,4,756)]),cd "Piece" "Piece" 1208 585 0 0 740 false 741 .none .none .none 1211,fr 742 739 "paperhold.mending" 1204],
ga (me 83 0) "__init__" "Piece.__init__" 744 1218 ["self","number","generation","begun","end","value"] 587 6 m10,
ga (me 83 1) "told" "Piece.told" 751 1230 ["self"] 594 1 m10,
[tp [(.str "begun" 1237),(.str "end" 1238),(.str "generation" 1239),(.str "number" 1240),(.str "value" 1241)],cl0 P 585 m10 1213 (jX4 P) [er P "__dict__" 1244 761,er P "__weakref__" 1246 762,e P "__doc__" 1247 .none] 4,cp "Piece" 760 1206,gd 760 1243,gw 760 1245,su 760,si 760,tp [],bp,nd P "Walk" 596 m10 1257 (jX3 P) 5,tp [],fi (tri [(598,4,777)]),cd "Walk" "Walk" 1252 596 0 0 768 false 769 .none .none .none 1255,fr 770 767 "paperhold.mending" 1204],
ga (me 84 0) "__init__" "Walk.__init__" 772 1262 ["self"] 598 1 m10,
[tp [(.str "pieces" 1269),(.str "trailers" 1270)],cl0 P 596 m10 1257 (jX3 P) [er P "__dict__" 1273 782,er P "__weakref__" 1275 783,e P "__doc__" 1276 .none] 4,cp "Walk" 781 1250,gd 781 1272,gw 781 1274,su 781,si 781],
ga (st 85) "head_end" "head_end" 786 1279 ["cursor","probe","turn"] 601 1 m10,
ga (st 86) "take_piece" "take_piece" 793 1288 ["cursor","shelf","walk","begun","behind","number","generation","value"] 608 3 m10,
ga (st 87) "take_trailer" "take_trailer" 800 1302 ["cursor","at","walk","behind","value"] 617 3 m10,
ga (st 88) "pass_word" "pass_word" 807 1313 ["cursor","walk","begun","kind","worth","at","end"] 628 2 m10,
ga (st 89) "walked" "walked" 814 1326 ["data","shelf","walk","cursor"] 643 2 m10,
ga (st 90) "table_of" "table_of" 821 1336 ["pieces","table","piece"] 654 1 m10,
ga (st 91) "is_of_type" "is_of_type" 828 1345 ["shelf","head","word","kind"] 660 3 m10,
[tp [],fi (tri []),⟨.none,none,(fn (st 92) "trailers_of" 0 [] .none .none .none .none none .none .none 0),#[]⟩,cd "trailers_of" "trailers_of" 1355 663 2 3 835 true 836 .none .none (.ref 837) 1358,⟨(.type "function"),none,(fn (st 92) "trailers_of" 3 [] .none .none .none (.str "paperhold.mending" 1204) none (.ref 838) .none 0),#[]⟩],
ga (st 93) "joined" "joined" 840 1361 ["trailers","found","trailer","key"] 670 1 m10,
ga (st 94) "last_catalog" "last_catalog" 847 1371 ["shelf","pieces","seen","piece"] 677 2 m10,
ga (st 95) "shelf_from" "shelf_from" 854 1381 ["plain","walk","pieces","shelf","root"] 685 3 m10,
ga (st 97) "_law_draw" "_law_draw" 861 1394 ["pen","many","spot"] 694 2 m11,
ga (st 98) "_law_value" "_law_value" 868 1403 ["pen","way","head"] 700 1 m11,
ga (st 99) "_law_trailer" "_law_trailer" 875 1412 ["pen","trailer"] 714 1 m11,
[tp [],fi (tri []),⟨.none,none,(fn (st 100) "_law_octets" 0 [] .none .none .none .none none .none .none 0),#[]⟩,cd "_law_octets" "_law_octets" 1420 724 1 3 882 true 883 .none .none (.ref 884) 1423,⟨(.type "function"),none,(fn (st 100) "_law_octets" 3 [] .none .none .none (.str "law_nn0236_01" 1392) none (.ref 885) .none 0),#[]⟩],
ga (st 101) "_law_kind" "_law_kind" 887 1426 ["value","head"] 736 1 m11,
[tp [],fi (tri []),⟨.none,none,(fn (st 102) "_law_due" 0 [] .none .none .none .none none .none .none 0),#[]⟩,cd "_law_due" "_law_due" 1434 739 1 3 894 true 895 .none .none (.ref 896) 1437,⟨(.type "function"),none,(fn (st 102) "_law_due" 3 [] .none .none .none (.str "law_nn0236_01" 1392) none (.ref 897) .none 0),#[]⟩],
ga (st 103) "_law_walk" "_law_walk" 899 1440 ["rows","way","at","row"] 759 1 m11,
[tp [],fi (tri []),⟨.none,none,(fn (st 104) "law" 0 [] .none .none .none .none none .none .none 0),#[]⟩,cd "law" "law" 1450 767 1 3 906 true 907 .none .none (.ref 908) 1453,⟨(.type "function"),none,(fn (st 104) "law" 3 [] .none .none .none (.str "law_nn0236_01" 1392) none (.ref 909) .none 0),#[]⟩]]
noncomputable def gI1:Life:= {}
noncomputable def T0(P:Params):BT:=hB3 [(3,v3 P (.str "__main__" 164) 8 9),(12,v12 0),(2,boot_o_2 P)] (grow ((objs P).take 15))
noncomputable def S0(w:World)(os:OsState):SharedT:=⟨T0 w.params,15,gI1,#[],boot_drawn,187,os⟩
noncomputable def T1(P:Params):BT:=hB3 [(3,v3 P (.str "paperhold.cursor" 194) 18 19),(12,v12 12),(2,boot_o_2 P)] (grow ((objs P).take 45))
noncomputable def S1(w:World)(os:OsState):SharedT:=⟨T1 w.params,45,gI1,#[],boot_drawn,243,os⟩
noncomputable def T2(P:Params):BT:=hB3 [(3,v3 P (.str "paperhold.cursor" 194) 19 20),(12,v12 15),(2,boot_o_2 P)] (grow ((objs P).take 152))
noncomputable def S2(w:World)(os:OsState):SharedT:=⟨T2 w.params,152,gI1,#[],boot_drawn,376,os⟩
noncomputable def T3(P:Params):BT:=hB3 [(3,v3 P (.str "paperhold.errors" 376) 20 21),(12,v12 18),(176,lI4 P)] (grow ((objs P).take 180))
noncomputable def S3(w:World)(os:OsState):SharedT:=⟨T3 w.params,180,gI1,#[],boot_drawn,418,os⟩
noncomputable def T4(P:Params):BT:=hB3 [(3,v3 P (.str "paperhold.decimals" 434) 26 27),(12,v12 21)] (grow ((objs P).take 192))
noncomputable def S4(w:World)(os:OsState):SharedT:=⟨T4 w.params,192,gI1,#[],boot_drawn,446,os⟩
noncomputable def T5(P:Params):BT:=hB3 [(3,v3 P (.str "paperhold.decimals" 434) 27 28),(12,v12 24)] (grow ((objs P).take 290))
noncomputable def S5(w:World)(os:OsState):SharedT:=⟨T5 w.params,290,gI1,#[],boot_drawn,560,os⟩
noncomputable def T6(P:Params):BT:=hB3 [(3,v3 P (.str "paperhold.objects" 579) 31 32),(12,v12 33)] (grow ((objs P).take 325))
noncomputable def S6(w:World)(os:OsState):SharedT:=⟨T6 w.params,325,gI1,#[],boot_drawn,612,os⟩
noncomputable def T7(P:Params):BT:=hB3 [(3,v3 P (.str "paperhold.objects" 579) 32 33),(12,v12 36)] (grow ((objs P).take 347))
noncomputable def S7(w:World)(os:OsState):SharedT:=⟨T7 w.params,347,gI1,#[],boot_drawn,643,os⟩
noncomputable def T8(P:Params):BT:=hB3 [(3,v3 P (.str "paperhold.objects" 579) 33 34),(12,v12 39)] (grow ((objs P).take 368))
noncomputable def S8(w:World)(os:OsState):SharedT:=⟨T8 w.params,368,gI1,#[],boot_drawn,674,os⟩
noncomputable def T9(P:Params):BT:=hB3 [(3,v3 P (.str "paperhold.objects" 579) 38 39),(12,v12 51)] (grow ((objs P).take 415))
noncomputable def S9(w:World)(os:OsState):SharedT:=⟨T9 w.params,415,gI1,#[],boot_drawn,734,os⟩
noncomputable def T10(P:Params):BT:=hB3 [(3,v3 P (.str "paperhold.objects" 579) 39 40),(12,v12 54),(446,lI3 P)] (grow ((objs P).take 451))
noncomputable def S10(w:World)(os:OsState):SharedT:=⟨T10 w.params,451,gI1,#[],boot_drawn,786,os⟩
noncomputable def T11(P:Params):BT:=hB3 [(3,v3 P (.str "paperhold.objects" 579) 40 41),(12,v12 57)] (grow ((objs P).take 503))
noncomputable def S11(w:World)(os:OsState):SharedT:=⟨T11 w.params,503,gI1,#[],boot_drawn,849,os⟩
noncomputable def T12(P:Params):BT:=hB3 [(3,v3 P (.str "paperhold.lexer" 876) 58 59),(12,v12 84)] (grow ((objs P).take 567))
noncomputable def S12(w:World)(os:OsState):SharedT:=⟨T12 w.params,567,gI1,#[],boot_drawn,961,os⟩
noncomputable def T13(P:Params):BT:=hB3 [(3,v3 P (.str "paperhold.reader" 1023) 66 67),(12,v12 102)] (grow ((objs P).take 610))
noncomputable def S13(w:World)(os:OsState):SharedT:=⟨T13 w.params,610,gI1,#[],boot_drawn,1027,os⟩
noncomputable def T14(P:Params):BT:=hB3 [(3,v3 P (.str "paperhold.reader" 1023) 71 72),(12,v12 117)] (grow ((objs P).take 666))
noncomputable def S14(w:World)(os:OsState):SharedT:=⟨T14 w.params,666,gI1,#[],boot_drawn,1101,os⟩
noncomputable def T15(P:Params):BT:=hB3 [(3,v3 P (.str "paperhold.mending" 1204) 81 82),(12,v12 147)] (grow ((objs P).take 737))
noncomputable def S15(w:World)(os:OsState):SharedT:=⟨T15 w.params,737,gI1,#[],boot_drawn,1206,os⟩
noncomputable def T16(P:Params):BT:=hB3 [(3,v3 P (.str "paperhold.mending" 1204) 82 83),(12,v12 150)] (grow ((objs P).take 765))
noncomputable def S16(w:World)(os:OsState):SharedT:=⟨T16 w.params,765,gI1,#[],boot_drawn,1250,os⟩
noncomputable def T17(P:Params):BT:=hB3 [(3,v3 P (.str "paperhold.mending" 1204) 88 89),(12,v12 168)] (grow ((objs P).take 821))
noncomputable def S17(w:World)(os:OsState):SharedT:=⟨T17 w.params,821,gI1,#[],boot_drawn,1336,os⟩
noncomputable def T18(P:Params):BT:=hB3 [(3,v3 P (.str "law_nn0236_01" 1392) 100 101),(12,v12 204)] (grow ((objs P).take 899))
noncomputable def S18(w:World)(os:OsState):SharedT:=⟨T18 w.params,899,gI1,#[],boot_drawn,1440,os⟩
noncomputable def T19(P:Params):BT:=hB3 [(3,v3 P (.str "law_nn0236_01" 1392) 102 103),(12,v12 210)] (grow ((objs P).take 911))
noncomputable def S19(w:World)(os:OsState):SharedT:=⟨T19 w.params,911,gI1,#[],boot_drawn,1456,os⟩
noncomputable def q0:Pos:=⟨0,0,0,0⟩
noncomputable def p0:Pos:=⟨0,0,0,0⟩
end
end
section
set_option tactic.hygienic true
open PySem PySem.W PyProof.Rows Mine
theorem kE8(w:World)(os:OsState):segRunT treeTable pw w 11 (some (.ref 6)) 1 198 (S0 w os) (piecesOf ((body.drop 0).take 11) env cE ⟨0,0,0,0⟩ [topFrame q0])=some (.next,S1 w os,cE,⟨15,0,16,27⟩):=by rw[PySem.W.Fast.te10110043849684766642,PySem.W.Fast.te14364793385576792824];kernel_rfl
theorem kE7(w:World)(os:OsState):segRunT treeTable pw w 11 (some (.ref 6)) 1 621 (S1 w os) (piecesOf ((body.drop 11).take 1) env cE ⟨15,0,16,27⟩ [topFrame q0])=some (.next,S2 w os,cE,⟨17,0,92,16⟩):=by rw[PySem.W.Fast.te10110043849684766642,PySem.W.Fast.te14364793385576792824];kernel_rfl
theorem kE6(w:World)(os:OsState):segRunT treeTable pw w 11 (some (.ref 6)) 1 278 (S2 w os) (piecesOf ((body.drop 12).take 2) env cE ⟨17,0,92,16⟩ [topFrame q0])=some (.next,S3 w os,cE,⟨94,0,102,35⟩):=by rw[PySem.W.Fast.te10110043849684766642,PySem.W.Fast.te14364793385576792824];kernel_rfl
theorem kE5(w:World)(os:OsState):segRunT treeTable pw w 11 (some (.ref 6)) 1 268 (S3 w os) (piecesOf ((body.drop 14).take 7) env cE ⟨94,0,102,35⟩ [topFrame q0])=some (.next,S4 w os,cE,⟨110,0,110,4⟩):=by rw[PySem.W.Fast.te10110043849684766642,PySem.W.Fast.te14364793385576792824];kernel_rfl
theorem kE4(w:World)(os:OsState):segRunT treeTable pw w 11 (some (.ref 6)) 1 572 (S4 w os) (piecesOf ((body.drop 21).take 1) env cE ⟨110,0,110,4⟩ [topFrame q0])=some (.next,S5 w os,cE,⟨111,0,155,17⟩):=by rw[PySem.W.Fast.te10110043849684766642,PySem.W.Fast.te14364793385576792824];kernel_rfl
theorem kE3(w:World)(os:OsState):segRunT treeTable pw w 11 (some (.ref 6)) 1 304 (S5 w os) (piecesOf ((body.drop 22).take 5) env cE ⟨111,0,155,17⟩ [topFrame q0])=some (.next,S6 w os,cE,⟨182,0,185,24⟩):=by rw[PySem.W.Fast.te10110043849684766642,PySem.W.Fast.te14364793385576792824];kernel_rfl
theorem kE2(w:World)(os:OsState):segRunT treeTable pw w 11 (some (.ref 6)) 1 226 (S6 w os) (piecesOf ((body.drop 27).take 1) env cE ⟨182,0,185,24⟩ [topFrame q0])=some (.next,S7 w os,cE,⟨186,0,190,28⟩):=by rw[PySem.W.Fast.te10110043849684766642,PySem.W.Fast.te14364793385576792824];kernel_rfl
theorem kE1(w:World)(os:OsState):segRunT treeTable pw w 11 (some (.ref 6)) 1 225 (S7 w os) (piecesOf ((body.drop 28).take 1) env cE ⟨186,0,190,28⟩ [topFrame q0])=some (.next,S8 w os,cE,⟨191,0,195,28⟩):=by rw[PySem.W.Fast.te10110043849684766642,PySem.W.Fast.te14364793385576792824];kernel_rfl
theorem kE0(w:World)(os:OsState):segRunT treeTable pw w 11 (some (.ref 6)) 1 351 (S8 w os) (piecesOf ((body.drop 29).take 5) env cE ⟨191,0,195,28⟩ [topFrame q0])=some (.next,S9 w os,cE,⟨249,0,249,12⟩):=by rw[PySem.W.Fast.te10110043849684766642,PySem.W.Fast.te14364793385576792824];kernel_rfl
theorem jM5(w:World)(os:OsState):segRunT treeTable pw w 11 (some (.ref 6)) 1 295 (S9 w os) (piecesOf ((body.drop 34).take 1) env cE ⟨249,0,249,12⟩ [topFrame q0])=some (.next,S10 w os,cE,⟨250,0,268,40⟩):=by rw[PySem.W.Fast.te10110043849684766642,PySem.W.Fast.te14364793385576792824];kernel_rfl
theorem jM4(w:World)(os:OsState):segRunT treeTable pw w 11 (some (.ref 6)) 1 402 (S10 w os) (piecesOf ((body.drop 35).take 1) env cE ⟨250,0,268,40⟩ [topFrame q0])=some (.next,S11 w os,cE,⟨269,0,290,49⟩):=by rw[PySem.W.Fast.te10110043849684766642,PySem.W.Fast.te14364793385576792824];kernel_rfl
theorem jM3(w:World)(os:OsState):segRunT treeTable pw w 11 (some (.ref 6)) 1 395 (S11 w os) (piecesOf ((body.drop 36).take 20) env cE ⟨269,0,290,49⟩ [topFrame q0])=some (.next,S12 w os,cE,⟨385,0,399,62⟩):=by rw[PySem.W.Fast.te10110043849684766642,PySem.W.Fast.te14364793385576792824];kernel_rfl
theorem jM2(w:World)(os:OsState):segRunT treeTable pw w 11 (some (.ref 6)) 1 236 (S12 w os) (piecesOf ((body.drop 56).take 11) env cE ⟨385,0,399,62⟩ [topFrame q0])=some (.next,S13 w os,cE,⟨451,0,451,10⟩):=by rw[PySem.W.Fast.te10110043849684766642,PySem.W.Fast.te14364793385576792824];kernel_rfl
theorem jM1(w:World)(os:OsState):segRunT treeTable pw w 11 (some (.ref 6)) 1 380 (S13 w os) (piecesOf ((body.drop 67).take 5) env cE ⟨451,0,451,10⟩ [topFrame q0])=some (.next,S14 w os,cE,⟨479,0,495,58⟩):=by rw[PySem.W.Fast.te10110043849684766642,PySem.W.Fast.te14364793385576792824];kernel_rfl
theorem jM0(w:World)(os:OsState):segRunT treeTable pw w 11 (some (.ref 6)) 1 334 (S14 w os) (piecesOf ((body.drop 72).take 11) env cE ⟨479,0,495,58⟩ [topFrame q0])=some (.next,S15 w os,cE,⟨584,0,584,8⟩):=by rw[PySem.W.Fast.te10110043849684766642,PySem.W.Fast.te14364793385576792824];kernel_rfl
theorem jL9(w:World)(os:OsState):segRunT treeTable pw w 11 (some (.ref 6)) 1 262 (S15 w os) (piecesOf ((body.drop 83).take 1) env cE ⟨584,0,584,8⟩ [topFrame q0])=some (.next,S16 w os,cE,⟨585,0,595,67⟩):=by rw[PySem.W.Fast.te10110043849684766642,PySem.W.Fast.te14364793385576792824];kernel_rfl
theorem jL8(w:World)(os:OsState):segRunT treeTable pw w 11 (some (.ref 6)) 1 390 (S16 w os) (piecesOf ((body.drop 84).take 6) env cE ⟨585,0,595,67⟩ [topFrame q0])=some (.next,S17 w os,cE,⟨643,0,653,15⟩):=by rw[PySem.W.Fast.te10110043849684766642,PySem.W.Fast.te14364793385576792824];kernel_rfl
theorem jL7(w:World)(os:OsState):segRunT treeTable pw w 11 (some (.ref 6)) 1 370 (S17 w os) (piecesOf ((body.drop 90).take 13) env cE ⟨643,0,653,15⟩ [topFrame q0])=some (.next,S18 w os,cE,⟨739,0,758,82⟩):=by rw[PySem.W.Fast.te10110043849684766642,PySem.W.Fast.te14364793385576792824];kernel_rfl
theorem jL6(w:World)(os:OsState):segRunT treeTable pw w 11 (some (.ref 6)) 1 59 (S18 w os) (piecesOf ((body.drop 103).take 2) env cE ⟨739,0,758,82⟩ [topFrame q0])=some (.next,S19 w os,cE,⟨767,0,787,87⟩):=by rw[PySem.W.Fast.te10110043849684766642,PySem.W.Fast.te14364793385576792824];kernel_rfl
end
section
set_option tactic.hygienic true
open PySem PySem.W PyProof.Rows Mine
noncomputable section
theorem iB9:opening pw=plainProg pw.main.scope.names:=by kernel_rfl
theorem iZ0(s:Shared):fenceModules? pw s=some s:=by kernel_rfl
theorem jU9:∀w:World,(fencedOpening treeTable pw w 12420).map (λs=>(s.heap,s.gens,s.drawn,s.toks))=some (boot_heap w.params,Array.mk [],boot_drawn,boot_toks):=boot_open iB9 (by decide) iZ0
theorem lI1:behindTheImports pw=body:=by kernel_rfl
theorem kD8(w:World)(os:OsState):topGo treeTable pw w 11 (some (.ref 6)) 12 ⟨boot_heap w.params,#[],boot_drawn,boot_toks,os⟩ (topStub pw)=some ((S0 w os).abs,⟨denote treeTable cE,cE,p0,[topFrame q0]⟩):=by rw[PySem.W.Fast.te11892475500146522536,PySem.W.Fast.te15667345088766844465,PySem.W.Fast.te14364793385576792824];kernel_rfl
theorem jB5(w:World)(os:OsState):segRun treeTable pw w 11 (some (.ref 6)) 1 1 (S0 w os).abs (blockOf body env cE p0 [topFrame q0])=some (.next,(S0 w os).abs,cE,⟨0,0,0,0⟩):=by rw[PySem.W.Fast.te14374325043358763698,PySem.W.Fast.te14364793385576792824];kernel_rfl
noncomputable def gI2(P:Params):Heap:=⟨⟨objs P⟩,gI1⟩
theorem kI5(w:World)(os:OsState):topRun treeTable pw w 11 (some (.ref 6)) 2 (S19 w os).abs ⟨doneF .next,cE,⟨767,0,787,87⟩,[topFrame q0]⟩=some ⟨gI2 w.params,#[],boot_drawn,1456,os⟩:=by rw[PySem.W.Fast.te14082659384304107361,PySem.W.Fast.te14364793385576792824];kernel_rfl
end
end
section
set_option tactic.hygienic true
open PySem PySem.W PyProof.Rows Mine
noncomputable section
theorem split(a m:Nat):body.drop a=(body.drop a).take m++body.drop (a+m):=by rw[←List.drop_drop,List.take_append_drop]
theorem step{w:World}{a m n N:Nat}{s s':SharedT}{r:Shared}{pos p':Pos}(h:segRunT treeTable pw w 11 (some (.ref 6)) 1 n s (piecesOf ((body.drop a).take m) env cE pos [topFrame q0])=some (.next,s',cE,p'))
  (k:topRun treeTable pw w 11 (some (.ref 6)) N s'.abs (restOf (body.drop (a+m)) env cE p' [topFrame q0])=some r):
  topRun treeTable pw w 11 (some (.ref 6)) (n+N) s.abs (restOf (body.drop a) env cE pos [topFrame q0])=some r:=by
 rw[split a m];exact piece_app (segRun_of h) k
theorem iZ8:body.drop (103+2)=[]:=by kernel_rfl
theorem kV8(w:World)(os:OsState):topRun treeTable pw w 11 (some (.ref 6)) (198+(621+(278+(268+(572+(304+(226+(225+(351+(295+(402+(395+(236+(380+(334+(262+(390+(370+(59+2))))))))))))))))))) (S0 w os).abs (restOf (body.drop 0) env cE ⟨0,0,0,0⟩ [topFrame q0])=some ⟨gI2 w.params,#[],boot_drawn,1456,os⟩:=(step (kE8 w os) (step (kE7 w os) (step (kE6 w os) (step (kE5 w os) (step (kE4 w os) (step (kE3 w os) (step (kE2 w os) (step (kE1 w os) (step (kE0 w os) (step (jM5 w os) (step (jM4 w os) (step (jM3 w os) (step (jM2 w os) (step (jM1 w os) (step (jM0 w os) (step (jL9 w os) (step (jL8 w os) (step (jL7 w os) (step (jL6 w os) (by rw[iZ8];exact kI5 w os))))))))))))))))))))
theorem kC9(w:World)(os:OsState):topRun treeTable pw w 11 (some (.ref 6)) (12+(1+(198+(621+(278+(268+(572+(304+(226+(225+(351+(295+(402+(395+(236+(380+(334+(262+(390+(370+(59+2))))))))))))))))))))) ⟨boot_heap w.params,#[],boot_drawn,boot_toks,os⟩ (topStub pw)=some ⟨gI2 w.params,#[],boot_drawn,1456,os⟩:=by have h:=kV8 w os;rw[List.drop_zero]at h;exact go_top (kD8 w os) (piece_block (jB5 w os) h)
end
end
section
set_option tactic.hygienic true
open PySem PySem.W PyProof.Rows Mine PySem.Calls
noncomputable section
noncomputable def asK:List Addr:=[3,20,21,22,23,29,30,36,37,43,44,52,58,59,65,66,67,73,74,80,81,87,88,94,95,101,102,108,109,115,116,122,123,129,130,136,137,143,144,145,146,147,148,149,159,165,166,172,173,174,175,176,177,187,188,189,204,205,211,212,218,219,225,226,232,233,239,240,246,247,253,254,260,261,267,268,274,275,281,282,283,284,285,286,287,295,296,302,303,316,317,318,319,320,321,322,332,338,339,340,341,342,343,344,359,360,361,362,363,364,365,380,381,387,388,389,390,391,392,393,401,402,408,409,413,414,422,428,429,435,436,442,443,444,445,446,447,448,463,464,470,471,477,478,484,485,491,492,496,497,498,499,500,503,509,510,516,517,518,524,525,531,532,533,539,540,546,547,553,554,560,561,565,566,572,573,579,580,586,587,593,594,600,601,602,608,609,622,623,629,630,631,632,633,634,635,643,644,650,651,657,658,664,665,669,670,676,677,678,684,685,691,692,698,699,705,706,707,713,714,720,721,727,728,729,735,736,749,750,756,757,758,759,760,761,762,777,778,779,780,781,782,783,791,792,798,799,805,806,812,813,819,820,826,827,833,834,838,839,845,846,852,853,859,860,866,867,873,874,880,881,885,886,892,893,897,898,904,905,909,910]
noncomputable def K(P:Params):Frag:=asK.map λa=>(a,kQ3 a (objs P))
noncomputable def loose:List Str:=(["_wall","WHITE","DELIMITERS","LINE_FEED","RETURN","COMMENT","MOST_FIGURES_cursor","is_white","is_regular","is_figure","Cursor","PaperError","SyntaxFault","MOST_FIGURES_decimals","PLUS","MINUS","POINT","ZERO","Decimal","sign_text","read_decimal","MOST_HOPS","Name","String","Stream","Reference","kind_of","told_plain","told","told_objects","Lookup","Shelf","OWN_KEYS","trailer_of","is_cross_stream","PAREN","CLOSE_PAREN","LESS","GREATER","SLASH","BACKSLASH","HASH","SIGNS","hex_worth","plain_escape","name_text","octal","escaped_codes","literal","hex_string","run_token","delimited_token","next_token","is_sign","is_object_stream","OF_THE_FILE","drop_file_streams","MOST_DEPTH","Frame","is_whole","take_reference","word_value","plain_value","dict_of","close_frame","object_from","read_object","length_of","line_end_before","read_stream","skip_word","take_number","read_indirect","Piece","Walk","head_end","take_piece","take_trailer","pass_word","walked","table_of","is_of_type","trailers_of","joined","last_catalog","shelf_from","_law_draw","_law_value","_law_trailer","_law_octets","_law_kind","_law_due","_law_walk"]:List String).map Str.ofString
noncomputable def q:Program:= {PySem.Challenge.pw_nn0236_01 with main:= {PySem.Challenge.pw_nn0236_01.main with body:=[st 104]}}
noncomputable abbrev Xt:Shared->Bool:=λ_=>true
theorem kP2(P:Params):asK=(K P).map (·.1):=by kernel_rfl
noncomputable def HK:Hook:=kHook K asK kP2
theorem jK5(w:World):((boot_heap w.params).isNs mainGlobals&&(#[]:Array GenState).size==0,(boot_heap w.params).objs.size,(boot_heap w.params).nsMap mainGlobals "__annotations__")=(true,11,some (.ref 6)):=by rw[PySem.W.Fast.te8920871248978507458];kernel_rfl
theorem kX7(w:World)(os:OsState):(staticsOk (importedModules pw.main.body) (boot_heap w.params) (gI2 w.params)&&namesBound pw (gI2 w.params)&&gensDone ⟨gI2 w.params,#[],boot_drawn,1456,os⟩&&laidKept (boot_heap w.params) (gI2 w.params))=true:=by rw[PySem.W.Fast.te5923862056798008813];kernel_rfl
theorem kX5(w:World)(os:OsState):HK.obs ⟨gI2 w.params,#[],boot_drawn,1456,os⟩=HK.val w:=by kernel_rfl
theorem kX6(w:World)(os:OsState):openSeen q loose (importedModules pw.main.body) Xt true ⟨gI2 w.params,#[],boot_drawn,1456,os⟩=openGood q loose:=by rw[PySem.W.Fast.te4187177175401517315,PySem.W.Fast.te5923862056798008813];kernel_rfl
end
end
section
set_option tactic.hygienic true
open PySem PySem.W PyProof.Rows Mine PySem.Calls
noncomputable section
theorem jO3:LeftO pw q loose Xt HK.obs HK.val 12420:=by refine LeftO.of_pieces (H₀:=boot_heap) (H₁:=gI2) (gs₀:= #[]) (gs₁:= #[]) (d₀:=boot_drawn) (d₁:=boot_drawn) (k₀:=boot_toks) (k₁:=1456) (m₀:=11) (ann:=some (.ref 6)) jU9 jK5 kC9 (by decide) λw=>funext λos=> ?_;exact Prod.ext (kX7 w os) (Prod.ext (kX6 w os) (kX5 w os))
theorem jK7:OpenLaw.wellSaid PySem.Challenge.rw_nn0236_01=true:=by rw[PySem.W.Fast.te9446332074065402090];kernel_rfl
end
end
section
set_option tactic.hygienic true
open PySem PySem.W PyProof.Rows Mine PySem.Calls
noncomputable section
noncomputable def kJ2:Stmt->Arguments
 | .FunctionDef _ a _ _ _ _ _ _ _ _=>a
 |_=> {posonlyargs:=[],args:=[],vararg:=none,kwonlyargs:=[],kw_defaults:=[],kwarg:=none,defaults:=[]}
noncomputable def kJ1:Stmt->List Stmt
 | .FunctionDef _ _ b _ _ _ _ _ _ _=>b
 |_=> []
noncomputable def jR0:Stmt->Scope
 | .FunctionDef _ _ _ _ _ _ sc _ _ _=>sc
 |_=> {kind:= .function,names:=[],isGenerator:=false,isCoroutine:=false,more:=[]}
noncomputable def kZ7:Stmt->Pos
 | .FunctionDef _ _ _ _ _ _ _ _ _ p=>p
 |_=>⟨0,0,0,0⟩
noncomputable def dLaw:DefRec:=⟨Str.ofString "law",kJ2 (st 104),kJ1 (st 104),jR0 (st 104),kZ7 (st 104)⟩
noncomputable abbrev rL:OpenRow:=PySem.Challenge.rw_nn0236_01.row
noncomputable abbrev XP0:(Str->Option Value)->Heap->Prop:=λ_ _=>True
theorem jQ5:defOf q rL.name=some (dLaw,[]):=by kernel_rfl
theorem kY7:rL.prog.theDef rL.name=some (dLaw.params,dLaw.body,dLaw.scope):=by kernel_rfl
theorem kY8:kwWritten? dLaw.params.kwonlyargs dLaw.params.kw_defaults=some []:=by kernel_rfl
theorem kW2:(chainsOk q&&opensWell rL.prog&&(frees rL.toRowW&&rL.within.isEmpty))=true:=by kernel_rfl
theorem jV1:rL.prog.bare:=⟨rfl,rfl,rfl,rfl,rfl,by decide+kernel⟩
theorem hQ0:rL.toRowW.promised:=⟨[.list []],by decide+kernel,by decide+kernel⟩
theorem jQ4(call:WalkO q loose XP0 HK.says rL.toRowW dLaw [] λf vs=>PySem.call f vs):PySem.Challenge.rw_nn0236_01.Holds:=holds_law jK7 λk1=>holds_open (r:=rL) (q:=q) (loose:=loose) (Xt:=Xt) (XP:=XP0) (Yf:=HK.obs) (Ya:=HK.val) (YP:=HK.says) (N:=12420) jO3 HK.of HK.keeps (λ_ _=>trivial) (λ_ _ _ _ _=>trivial) jQ5 kY7 kY8 (λs _=>recFacts_nil rfl) rfl k1 kW2 jV1 hQ0 call
end
end
section
open PySem PySem.W PyProof.Rows PySem.Calls
noncomputable abbrev VP:=Value->Shared->Prop
noncomputable abbrev UP:=Unit->Shared->Prop
noncomputable abbrev XE:=PySem.Expr
noncomputable abbrev NKs:=List (Str×NameKind)
theorem wIf{α:Type}{c:Prop}[Decidable c]{m m':Sem α}{Q:α->Shared->Prop}(e:c)(h:wpAny M A m Q E s):wpAny M A (if c then m else m') Q E s:=by rw[if_pos e];exact h
theorem jI8{α:Type}{c:Prop}[Decidable c]{m m':Sem α}{Q:α->Shared->Prop}(e:¬c)(h:wpAny M A m' Q E s):wpAny M A (if c then m else m') Q E s:=by rw[if_neg e];exact h
theorem gG5{α β:Type}[BEq α](n y:α)(e:β)(r:List (α×β)):List.lookup n ((y,e)::r)=if(n==y)=true then some e else List.lookup n r:=by show(match n==y with|true=>some e|false=>List.lookup n r)=_;cases n==y<;>rfl
noncomputable def nmL:List String:=["script","cells","cell","pen","rows","parts","turn","number","generation","own","due","pieces","told","found","piece","value","row","trailers","at","trailer","many","spot","way","head","text","one","key","last","root","places","some","catalogs","kept","keep","plain","walk","shelf","table","begun","place","kind","get","seen","word","numbers","drop","top","octets","part","data","cursor","skip_white","is_done","peek","code","probe","end","take_regular","behind","worth","take","skip","signs","high","low","run","numerals","token","lets_references","frames","is_opening","wants_key","items","sign","opening","mark","frame","skip_line_end","length","fetch","self","ahead","starts","first","here","hop","__init__","is_hex"]
noncomputable def nm(x:Nat):Str:=match nmL[x]? with
 |some s=>Str.ofString s
 |none=>⟨#[2000000+x]⟩
theorem kF4:((nmL.map Str.ofString).all λs=>s.cps.toList.head?.any λc=>decide (c<1000))=true:=by decide+kernel
theorem iW3:(nmL.map Str.ofString).Nodup:=by decide+kernel
theorem gP9{x y:Nat}(h:nm x=nm y):x=y:=by
 have low:∀(x:Nat) (s:String),nmL[x]?=some s->∃c,(Str.ofString s).cps.toList.head?=some c/\c<1000:=by
  intro x s e;have:=List.all_eq_true.mp kF4 (Str.ofString s) (List.mem_map_of_mem (List.mem_of_getElem? e))
  cases q:(Str.ofString s).cps.toList.head? with
  |none=>rw[q]at this;cases this
  |some c=>rw[q]at this;exact⟨c,rfl,oX this⟩
 unfold nm at h
 cases hx:nmL[x]? with
 |none=>
  rw[hx]at h
  cases hy:nmL[y]? with
  |none=>rw[hy]at h;dsimp only at h;injection h with h;have:=congrArg (λa:Array Nat=>a[0]?) h;simp at this;exact this
  |some s=>
   rw[hy]at h;dsimp only at h;obtain⟨c,e,l⟩:=low _ _ hy
   rw[←h]at e;simp at e;exact absurd l (Nat.not_lt.mpr (Nat.le_trans (by decide:1000<=2000000) (Nat.le_trans (Nat.le_add_right ..) (Nat.le_of_eq e))))
 |some s=>
  rw[hx]at h
  cases hy:nmL[y]? with
  |none=>
   rw[hy]at h;dsimp only at h;obtain⟨c,e,l⟩:=low _ _ hx
   rw[h]at e;simp at e;exact absurd l (Nat.not_lt.mpr (Nat.le_trans (by decide:1000<=2000000) (Nat.le_trans (Nat.le_add_right ..) (Nat.le_of_eq e))))
  |some s'=>
   rw[hy]at h;dsimp only at h;have hx':(nmL.map Str.ofString)[x]?=some (Str.ofString s):=by rw[List.getElem?_map,hx];rfl
   have hy':(nmL.map Str.ofString)[y]?=some (Str.ofString s):=by rw[List.getElem?_map,hy,h];rfl
   exact(List.getElem?_inj (List.getElem?_eq_some_iff.mp hx').1 iW3).mp (hx'.trans hy'.symm)
noncomputable def clL:List Addr:=[320,363,391,760,147,781,500,633,285,342]
noncomputable def cl(c:Nat):Addr:=clL.getD c 0
noncomputable def attsL:List (List Nat):=[[24],[23,47],[7,8],[7,8,38,56,15],[49,18,56],[11,17],[37,19],[75,72],[46,29],[47,87]]
noncomputable def jQ0(c:Nat)(ns:List Nat):Prop:=c<10/\∀x∈ns,x∈attsL.getD c []
noncomputable abbrev PP:Program:=PySem.Challenge.rw_nn0236_01.row.prog
inductive Own where
 |free|keep|priv
 |mut(k:Nat)|mutD(k:Nat)
structure Gh where
 rho:Nat->Option Addr
 own:Addr->Own
noncomputable def asc(ns:List Nat)(vals:List Value):Str->Option Value:=λs=>((ns.map nm).zip vals).lookup s
inductive DKi(w:World)(h:Heap)(a:Addr)(ks:List V)(vals:List Value):Prop
 |mk (l:List Int):ks=l.map .int->vals.length=l.length->h.DictOf (intKind PP w) a (l.zip vals)->DKi w h a ks vals
inductive DKs(w:World)(h:Heap)(a:Addr)(ks:List V)(vals:List Value):Prop
 |mk (l:List Str):ks=l.map (λs=> .str s.cps.toList)->vals.length=l.length->(∀s∈l,s.cps.toList.length<=1000000)->h.DictOf (strKind PP w) a (l.zip vals)->DKs w h a ks vals
noncomputable def DK(w:World)(h:Heap)(a:Addr)(ks:List V)(vals:List Value):Prop:=(a==sysModules)=false/\(DKi w h a ks vals\/DKs w h a ks vals)
inductive StrX(l:List Nat)(x:Value):Prop
 |mk (s:Str) (t:Tok):x= .str s t->s.cps.toList=l->l.length<=1000000->StrX l x
inductive BytX(l:List Nat)(x:Value):Prop
 |mk (b:Array UInt8) (t:Tok):x= .bytes b t->b.toList.map UInt8.toNat=l->l.length<=1000000->BytX l x
inductive TupX(g:Gh)(h:Heap)(P:List Value->Prop)(x:Value):Prop
 |mk (a:Addr) (its:Array Value) (n:Nat):x= .ref a->g.own a= .keep->h.get? a=some ({cls:= .type "tuple",data:= .seq its n}:Obj)->its.size<=1000000->P its.toList->TupX g h P x
inductive LstX(g:Gh)(h:Heap)(P:List Value->Prop)(x:Value):Prop
 |mk (a:Addr) (its:Array Value):x= .ref a->g.own a= .keep->h.PlainList a its->its.size<=1000000->P its.toList->LstX g h P x
inductive DctX(w:World)(g:Gh)(h:Heap)(ks:List V)(P:List Value->Prop)(x:Value):Prop
 |mk (a:Addr) (vals:List Value):x= .ref a->g.own a= .keep->DK w h a ks vals->ks.length<=1000000->P vals->DctX w g h ks P x
inductive InsX(g:Gh)(h:Heap)(c:Nat)(ns:List Nat)(P:List Value->Prop)(x:Value):Prop
 |mk (a d:Addr) (vals:List Value):x= .ref a->jQ0 c ns->g.own a= .keep->g.own d= .keep->h.get? a=some (instObj (cl c) d)->h.Ns d (asc ns vals)->vals.length=ns.length->P vals->InsX g h c ns P x
inductive ConsX(P:Value->Prop)(Q:List Value->Prop)(xs:List Value):Prop
 |mk (y:Value) (ys:List Value):xs=y::ys->P y->Q ys->ConsX P Q xs
section
variable(w:World)(g:Gh)(h:Heap)
mutual
noncomputable def RV:V->Value->Prop
 | .none,x=>x= .none
 | .bool b,x=>x= .bool b
 | .int i,x=>∃t,x= .int i t
 | .str l,x=>StrX l x
 | .bytes l,x=>BytX l x
 | .tup l,x=>TupX g h (λys=>RVs l ys) x
 | .lst l,x=>LstX g h (λys=>RVs l ys) x
 | .dct ks vs,x=>DctX w g h ks (λys=>RVs vs ys) x
 | .ob c ns vs,x=>InsX g h c ns (λys=>RVs vs ys) x
 | .loc k,x=>∃a,x= .ref a/\g.rho k=some a
noncomputable def RVs:List V->List Value->Prop
 | [],xs=>xs=[]
 |v::r,xs=>ConsX (λy=>RV v y) (λys=>RVs r ys) xs
end
end
section
structure Ext(X:Addr->Prop)(g:Gh)(h:Heap)(g':Gh)(h':Heap):Prop where
 keep:∀a,g.own a= .keep->g'.own a= .keep/\h'.get? a=h.get? a
 priv:∀a,g.own a= .priv->g'.own a= .priv/\(¬X a->h'.get? a=h.get? a)
 rho:∀k a,g.rho k=some a->g'.rho k=some a
structure KpS(g:Gh)(h:Heap)(g':Gh)(h':Heap):Prop where
 keep:∀a,g.own a= .keep->g'.own a= .keep/\h'.get? a=h.get? a
 rho:∀k a,g.rho k=some a->g'.rho k=some a
noncomputable abbrev noX:Addr->Prop:=λδ=>False
theorem Ext.refl(X:Addr->Prop)(g:Gh)(h:Heap):Ext X g h g h:=⟨λδ e=>⟨e,rfl⟩,λδ e=>⟨e,λδ=>rfl⟩,λδ δ e=>e⟩
theorem Ext.trans{X:Addr->Prop}{g g' g'':Gh}{h h' h'':Heap}(x:Ext X g h g' h')(y:Ext X g' h' g'' h''):Ext X g h g'' h'':=
 ⟨λa e=>⟨(y.keep a (x.keep a e).1).1,(y.keep a (x.keep a e).1).2.trans (x.keep a e).2⟩,
  λa e=>⟨(y.priv a (x.priv a e).1).1,λn=>((y.priv a (x.priv a e).1).2 n).trans ((x.priv a e).2 n)⟩,λk a e=>y.rho k a (x.rho k a e)⟩
theorem Ext.weak{X Y:Addr->Prop}{g g':Gh}{h h':Heap}(x:Ext X g h g' h')(i:∀a,X a->Y a):Ext Y g h g' h':=⟨x.keep,λa e=>⟨(x.priv a e).1,λn=>(x.priv a e).2 λq=>n (i a q)⟩,x.rho⟩
theorem Ext.no{X:Addr->Prop}{g g':Gh}{h h':Heap}(x:Ext noX g h g' h'):Ext X g h g' h':=x.weak λδ q=>q.elim
section
variable{w:World}{g g':Gh}{h h':Heap}{X:Addr->Prop}{a:Addr}
theorem IsList.same{its:Array Value}(e:h'.get? a=h.get? a):h.PlainList a its->h'.PlainList a its:=λ⟨o,q⟩=>⟨o,e.trans q⟩
theorem DictOf.same{T:Type}[DecidableEq T]{knd:KeyKind PP w T}{kvs:List (T×Value)}(e:h'.get? a=h.get? a):h.DictOf knd a kvs->h'.DictOf knd a kvs:=λ⟨o,es,ep,q,r⟩=>⟨o,es,ep,e.trans q,r⟩
theorem Ns.same{m:Str->Option Value}(e:h'.get? a=h.get? a):h.Ns a m->h'.Ns a m:=λ⟨o,es,ep,q,r⟩=>⟨o,es,ep,e.trans q,r⟩
theorem DK.same{ks:List V}{vals:List Value}(e:h'.get? a=h.get? a):DK w h a ks vals->DK w h' a ks vals
 |⟨n,.inl ⟨l,q1,q2,q3⟩⟩=>⟨n,.inl ⟨l,q1,q2,DictOf.same e q3⟩⟩
 |⟨n,.inr ⟨l,q1,q2,q4,q3⟩⟩=>⟨n,.inr ⟨l,q1,q2,q4,DictOf.same e q3⟩⟩
mutual
theorem RV.monoK(x:KpS g h g' h'):∀ {v:V}{y:Value},RV w g h v y->RV w g' h' v y
 | .none,y,r=>r
 | .bool b,y,r=>r
 | .int i,y,r=>r
 | .str l,y,r=>r
 | .bytes l,y,r=>r
 | .tup l,y,r=>by
  obtain⟨a,its,n,rfl,o,t,z,q⟩:=r
  exact⟨a,its,n,rfl,(x.keep a o).1,(x.keep a o).2.trans t,z,RVs.monoK x q⟩
 | .lst l,y,r=>by
  obtain⟨a,its,rfl,o,t,z,q⟩:=r
  exact⟨a,its,rfl,(x.keep a o).1,IsList.same (x.keep a o).2 t,z,RVs.monoK x q⟩
 | .dct ks vs,y,r=>by
  obtain⟨a,its,rfl,o,t,z,q⟩:=r
  exact⟨a,its,rfl,(x.keep a o).1,DK.same (x.keep a o).2 t,z,RVs.monoK x q⟩
 | .ob c ns vs,y,r=>by
  obtain⟨a,d,vals,rfl,hc,o,od,i,n,z,q⟩:=r
  exact⟨a,d,vals,rfl,hc,(x.keep a o).1,(x.keep d od).1,(x.keep a o).2.trans i,Ns.same (x.keep d od).2 n,z,RVs.monoK x q⟩
 | .loc k,y,r=>by obtain⟨a,rfl,e⟩:=r;exact⟨a,rfl,x.rho k a e⟩
theorem RVs.monoK(x:KpS g h g' h'):∀ {l:List V}{ys:List Value},RVs w g h l ys->RVs w g' h' l ys
 | [],ys,r=>r
 |v::l,ys,r=>by obtain⟨y,ys,rfl,a,b⟩:=r;exact⟨y,ys,rfl,RV.monoK x a,RVs.monoK x b⟩
end
theorem RV.mono(x:Ext X g h g' h'){v:V}{y:Value}(r:RV w g h v y):RV w g' h' v y:=RV.monoK ⟨x.keep,x.rho⟩ r
theorem RVs.mono(x:Ext X g h g' h'){l:List V}{ys:List Value}(r:RVs w g h l ys):RVs w g' h' l ys:=RVs.monoK ⟨x.keep,x.rho⟩ r
theorem RVs.length:∀ {l:List V}{ys:List Value},RVs w g h l ys->ys.length=l.length
 | [],ys,r=>by cases r;rfl
 |v::l,ys,r=>by obtain⟨y,ys,rfl,a,b⟩:=r;rw[List.length_cons,List.length_cons,RVs.length b]
theorem RVs.get:∀ {l:List V}{ys:List Value}{i:Nat}{v:V},RVs w g h l ys->l[i]?=some v->∃y,ys[i]?=some y/\RV w g h v y
 | [],_,_,_,_,e=>by simp at e
 |u::l,ys,i,v,r,e=>by
  obtain⟨y,ys,rfl,a,b⟩:=r
  cases i with
  |zero=>simp at e;subst e;exact⟨y,rfl,a⟩
  |succ i=>simp at e;obtain⟨z,p,q⟩:=RVs.get b e;exact⟨z,by simpa using p,q⟩
theorem RVs.append:∀ {l m:List V}{ys zs:List Value},RVs w g h l ys->RVs w g h m zs->RVs w g h (l++m) (ys++zs)
 | [],m,ys,zs,a,b=>by cases a;exact b
 |v::l,m,ys,zs,a,b=>by obtain⟨y,ys,rfl,p,q⟩:=a;exact⟨y,ys++zs,rfl,p,RVs.append q b⟩
theorem RVs.snoc{l:List V}{v:V}{ys:List Value}{y:Value}(a:RVs w g h l ys)(b:RV w g h v y):RVs w g h (l++ [v]) (ys++ [y]):=a.append ⟨y,[],rfl,b,rfl⟩
theorem RVs.set:∀ {l:List V}{v:V}{ys:List Value}{y:Value}(i:Nat),RVs w g h l ys->RV w g h v y->RVs w g h (l.set i v) (ys.set i y)
 | [],_,_,_,_,a,_=>by cases a;exact rfl
 |u::l,v,ys,y,i,a,b=>by
  obtain⟨z,zs,rfl,p,q⟩:=a
  cases i with
  |zero=>exact⟨y,zs,rfl,b,q⟩
  |succ i=>exact⟨z,zs.set i y,rfl,p,RVs.set i q b⟩
noncomputable def SzOk(h:Heap)(d:Addr)(n:Nat):Prop:=∃o es ep,h.get? d=some o/\o.data= .dict es ep/\es.size<=n
theorem SzOk.same{h h':Heap}{d:Addr}{n:Nat}(e:h'.get? d=h.get? d):SzOk h d n->SzOk h' d n:=λ⟨o,es,ep,q,r⟩=>⟨o,es,ep,e.trans q,r⟩
inductive LstP(w:World)(g:Gh)(h:Heap)(k:Nat)(l:List V):Prop
 |mk (a:Addr) (its:Array Value):g.rho k=some a->g.own a= .mut k->h.PlainList a its->its.size<=1000000->RVs w g h l its.toList->LstP w g h k l
inductive DctP(w:World)(g:Gh)(h:Heap)(k:Nat)(ks vs:List V):Prop
 |mk (a:Addr) (vals:List Value):g.rho k=some a->g.own a= .mut k->DK w h a ks vals->ks.length<=1000000->RVs w g h vs vals->DctP w g h k ks vs
inductive InsP(w:World)(g:Gh)(h:Heap)(k c:Nat)(ns:List Nat)(vs:List V):Prop
 |mk (a d:Addr) (vals:List Value):g.rho k=some a->jQ0 c ns->g.own a= .mut k->g.own d= .mutD k->h.get? a=some (instObj (cl c) d)->h.Ns d (asc ns vals)->vals.length=ns.length->RVs w g h vs vals->SzOk h d ns.length->InsP w g h k c ns vs
noncomputable def PlR(w:World)(g:Gh)(h:Heap)(k:Nat):O->Prop
 | .lst l=>LstP w g h k l
 | .dct ks vs=>DctP w g h k ks vs
 | .ins c ns vs=>InsP w g h k c ns vs
 | .frz v=>∃a,g.rho k=some a/\RV w g h v (.ref a)
theorem PlR.monoK{k:Nat}(x:KpS g h g' h')(m:∀a,g.own a= .mut k\/g.own a= .mutD k->g'.own a=g.own a/\h'.get? a=h.get? a):∀ {o:O},PlR w g h k o->PlR w g' h' k o
 | .lst l,⟨a,its,r,o,t,z,q⟩=>⟨a,its,x.rho k a r,(m a (.inl o)).1.trans o,IsList.same (m a (.inl o)).2 t,z,q.monoK x⟩
 | .dct ks vs,⟨a,its,r,o,t,z,q⟩=>⟨a,its,x.rho k a r,(m a (.inl o)).1.trans o,DK.same (m a (.inl o)).2 t,z,q.monoK x⟩
 | .ins c ns vs,⟨a,d,vals,r,hc,o,od,i,n,z,q,sz⟩=>⟨a,d,vals,x.rho k a r,hc,(m a (.inl o)).1.trans o,(m d (.inr od)).1.trans od,(m a (.inl o)).2.trans i,Ns.same (m d (.inr od)).2 n,z,q.monoK x,SzOk.same (m d (.inr od)).2 sz⟩
 | .frz v,⟨a,r,q⟩=>⟨a,x.rho k a r,q.monoK x⟩
theorem PlR.mono{k:Nat}(x:Ext X g h g' h')(m:∀a,g.own a= .mut k\/g.own a= .mutD k->g'.own a=g.own a/\h'.get? a=h.get? a){o:O}(p:PlR w g h k o):PlR w g' h' k o:=PlR.monoK ⟨x.keep,x.rho⟩ m p
end
structure Rep(w:World)(sA:Shared)(g:Gh)(S:St)(s:Shared):Prop where
 same:∃h tk,s= {sA with heap:=h,toks:=tk}
 kept:∀b o,sA.heap.get? b=some o->g.own b= .keep/\s.heap.get? b=some o
 live:∀a,g.own a≠ .free->(s.heap.get? a).isSome=true
 pl:∀k o,S.h k=some o->PlR w g s.heap k o
 emp:∀k,S.n<=k->S.h k=none/\g.rho k=none
section
variable{w:World}{sA:Shared}{g g':Gh}{S S':St}{s s':Shared}{h':Heap}{tk₀:Nat}{a d:Addr}{k:Nat}
theorem Rep.fresh(R:Rep w sA g S s):∀a,s.heap.objs.size<=a->g.own a= .free:=λa z=>by
 cases q:g.own a with
 |free=>rfl
 |_=>
  have:=R.live a (by rw[q];nofun);refine e11 (Option.isSome_iff_exists.mp this) λo e=> ?_;exact absurd (Heap.lt_size e) (Nat.not_lt.mpr z)
theorem Rep.stays(R:Rep w sA g S s):∀b o,sA.heap.get? b=some o->s.heap.get? b=some o:=λb o e=>(R.kept b o e).2
theorem Rep.at_(R:Rep w sA g S s){h:Heap}{t:Nat}:∃hG tA,({s with heap:=h,toks:=t}:Shared)= {sA with heap:=hG,toks:=tA}:=by obtain⟨_,_,rfl⟩:=R.same;exact⟨h,t,rfl⟩
theorem Rep.tk(R:Rep w sA g S s)(tk:Nat):Rep w sA g S {s with toks:=tk}:=⟨by obtain⟨h,t,rfl⟩:=R.same;exact⟨h,tk,rfl⟩,R.kept,R.live,R.pl,R.emp⟩
theorem Rep.touch(R:Rep w sA g S s)(e:∀b,g.own b≠ .free->h'.get? b=s.heap.get? b):Rep w sA g S {s with heap:=h',toks:=tk₀}/\Ext noX g s.heap g h':=by
 have x:Ext noX g s.heap g h':=⟨λb q=>⟨q,e b (by rw[q];nofun)⟩,λb q=>⟨q,λδ=>e b (by rw[q];nofun)⟩,λδ δ q=>q⟩
 refine⟨⟨R.at_,λb o q=>⟨(R.kept b o q).1,(x.keep b (R.kept b o q).1).2.trans (R.kept b o q).2⟩,λb q=>by rw[e b q];exact R.live b q,λk o q=>(R.pl k o q).mono x λb p=>⟨rfl,e b ?_⟩,R.emp⟩,x⟩;rcases p with p|p<;>(rw[p];nofun)
theorem Rep.turnPriv(R:Rep w sA g S s)(o:g.own a= .priv)(la:(h'.get? a).isSome=true)(e:∀b,b≠a->g.own b≠ .free->h'.get? b=s.heap.get? b):Rep w sA g S {s with heap:=h',toks:=tk₀}/\Ext (· =a) g s.heap g h':=by
 have x:Ext (· =a) g s.heap g h':=⟨λb q=>⟨q,e b (by rintro rfl;rw[o]at q;cases q) (by rw[q];nofun)⟩,λb q=>⟨q,λn=>e b n (by rw[q];nofun)⟩,λδ δ q=>q⟩
 refine⟨⟨R.at_,λb o q=>⟨(R.kept b o q).1,(x.keep b (R.kept b o q).1).2.trans (R.kept b o q).2⟩,λb q=>(by by_cases n:b=a;(rw[n];exact la);(rw[e b n q];exact R.live b q)),λk o' q=>(R.pl k o' q).mono x λb p=>⟨rfl,e b ?_ ?_⟩,R.emp⟩,x⟩
 ·rintro rfl;rcases p with p|p<;>(rw[o]at p;cases p)
 ·rcases p with p|p<;>(rw[p];nofun)
noncomputable def Gh.put(g:Gh)(a:Addr)(o:Own):Gh:=⟨g.rho,λb=>if b=a then o else g.own b⟩
noncomputable def Gh.nm(g:Gh)(k:Nat)(a:Addr):Gh:=⟨λj=>if j=k then some a else g.rho j,g.own⟩
theorem gC1{o:Own}:(g.put a o).own a=o:=if_pos rfl
theorem gB7{b:Addr}{o:Own}(n:b≠a):(g.put a o).own b=g.own b:=if_neg n
theorem Rep.own(R:Rep w sA g S s)(f:g.own a= .free)(z:(s.heap.get? a).isSome=true)(o:Own):Rep w sA (g.put a o) S s/\Ext noX g s.heap (g.put a o) s.heap:=by
 have ne:∀b,g.own b≠ .free->b≠a:=λb q e=>q (e▸f);have x:Ext noX g s.heap (g.put a o) s.heap:=⟨λb q=>⟨(gB7 (ne b (by rw[q];nofun))).trans q,rfl⟩,λb q=>⟨(gB7 (ne b (by rw[q];nofun))).trans q,λδ=>rfl⟩,λδ δ q=>q⟩
 refine⟨⟨R.same,λb o' q=>⟨(x.keep b (R.kept b o' q).1).1,(R.kept b o' q).2⟩,λb q=>(by by_cases e:b=a;(rw[e];exact z);(exact R.live b (by rwa[gB7 e]at q))),λk o' q=>(R.pl k o' q).mono x λb p=>⟨gB7 (ne b ?_),rfl⟩,R.emp⟩,x⟩;rcases p with p|p<;>(rw[p];nofun)
set_option tactic.hygienic true in
theorem Rep.place(R:Rep w sA g S s){a:Addr}{o:O}(p:Ext noX g s.heap (g.nm S.n a) s.heap->PlR w (g.nm S.n a) s.heap S.n o):Rep w sA (g.nm S.n a) (S.new o) s/\Ext noX g s.heap (g.nm S.n a) s.heap:=by
 have hr:∀k b,g.rho k=some b->k≠S.n:=λk b e q=>by rw[q,(R.emp S.n (Nat.le_refl _)).2]at e;cases e
 have x:Ext noX g s.heap (g.nm S.n a) s.heap:=⟨λb q=>⟨q,rfl⟩,λb q=>⟨q,λδ=>rfl⟩,λk b q=>(if_neg (hr k b q)).trans q⟩
 refine⟨⟨R.same,R.kept,R.live,λk o' q=> ?_,λk q=> ?_⟩,x⟩
 ·simp only[St.new]at q
  split at q
  ·rename_i e;cases q;subst e;exact p x
  ·exact(R.pl k o' q).mono x λb δ=>⟨rfl,rfl⟩
 ·simp only[St.new]at q⊢;have:k≠S.n:=by(exact Nat.ne_of_gt q)
  exact⟨(if_neg this).trans (R.emp k (by(exact Nat.le_trans (Nat.le_succ S.n) q))).1,(if_neg this).trans (R.emp k (by(exact Nat.le_trans (Nat.le_succ S.n) q))).2⟩
end
end
section
variable{w:World}{sA:Shared}{g g':Gh}{S S':St}{s s':Shared}{h':Heap}{tk₀:Nat}{a d:Addr}{k:Nat}
theorem Rep.lt(R:Rep w sA g S s){o:O}(e:S.h k=some o):k<S.n:=by
 rcases Nat.lt_or_ge k S.n with q|q
 ·exact q
 ·rw[(R.emp k q).1]at e;cases e
set_option tactic.hygienic true in
theorem Rep.upd(R:Rep w sA g S s)(x:Ext noX g s.heap g' h')(hn:k<S.n)(m:∀j,j≠k->∀a,g.own a= .mut j\/g.own a= .mutD j->g'.own a=g.own a/\h'.get? a=s.heap.get? a)
  (f:∀a,g'.own a≠ .free->(h'.get? a).isSome=true)(rh:∀j,S.n<=j->g'.rho j=none){o:O}(p:PlR w g' h' k o):Rep w sA g' (S.upd k o) {s with heap:=h',toks:=tk₀}:=by
 refine⟨R.at_,λb o' q=>⟨(x.keep b (R.kept b o' q).1).1,(x.keep b (R.kept b o' q).1).2.trans (R.kept b o' q).2⟩,f,λj o' q=> ?_,λj q=>⟨?_,rh j q⟩⟩
 ·simp only[St.upd]at q
  split at q
  ·rename_i e;cases q;subst e;exact p
  ·rename_i e;exact(R.pl j o' q).mono x (m j e)
 ·simp only[St.upd];rw[if_neg (by show¬j=k;have:S.n<=j:=q;(exact jW2 (Nat.lt_of_lt_of_le hn this)))];exact(R.emp j q).1
inductive FrzX(w:World)(sA:Shared)(g:Gh)(S':St)(s:Shared)(P:Gh->Prop):Prop
 |mk (g':Gh):Ext noX g s.heap g' s.heap->Rep w sA g' S' s->P g'->FrzX w sA g S' s P
theorem kF6{j:Nat}{o o':Own}(h:g.own a=o)(h':g.own d=o')(n:o≠o'):d≠a:=λe=>n (by rw[←h,←h',e])
theorem Rep.thaw(R:Rep w sA g S s)(hn:k<S.n)(o:g.own a= .mut k)(hs:(s.heap.get? a).isSome=true):Ext noX g s.heap (g.put a .keep) s.heap/\(∀j,j≠k->∀b,g.own b= .mut j\/g.own b= .mutD j->(g.put a .keep).own b=g.own b/\s.heap.get? b=s.heap.get? b)/\
  (∀b,(g.put a .keep).own b≠ .free->(s.heap.get? b).isSome=true):=by
 refine⟨⟨λb q=>⟨(gB7 (by rintro rfl;rw[o]at q;cases q)).trans q,rfl⟩,λb q=>⟨(gB7 (by rintro rfl;rw[o]at q;cases q)).trans q,λδ=>rfl⟩,λδ δ q=>q⟩,λj ne b q=>⟨gB7 ?_,rfl⟩,
  λb q=>(by by_cases e:b=a;(rw[e];exact hs);(exact R.live b (by rwa[gB7 e]at q)))⟩
 rintro rfl;rw[o]at q;rcases q with q|q<;>cases q
 exact ne rfl
theorem Rep.norm(R:Rep w sA g S s){v:V}{x:Value}(r:RV w g s.heap v x):RV w g s.heap (norm S v) x:=by
 cases v with
 |loc k=>
  cases e:S.h k with
  |none=>rw[show Mine.norm S (V.loc k)=V.loc k from(show(match S.h k with|some (.frz v)=>v|_=>V.loc k)=_ by rw[e])];exact r
  |some o=>
   cases o with
   |frz v=>
    rw[show Mine.norm S (V.loc k)=v from(show(match S.h k with|some (.frz v)=>v|_=>V.loc k)=_ by rw[e])];refine e12 (R.pl _ _ e) λa q z=> ?_;obtain⟨b,rfl,q'⟩:=r;rw[q]at q';cases q'
    exact z
   |_=>rw[show Mine.norm S (V.loc k)=V.loc k from(show(match S.h k with|some (.frz v)=>v|_=>V.loc k)=_ by rw[e])];exact r
 |_=>exact r
theorem Rep.norms(R:Rep w sA g S s):∀ {l:List V}{xs:List Value},RVs w g s.heap l xs->RVs w g s.heap (l.map (Mine.norm S)) xs
 | [],_,r=>r
 |v::l,_,⟨y,ys,e,p,q⟩=>⟨y,ys,e,R.norm p,R.norms q⟩
theorem Rep.freeze(R:Rep w sA g S s){o:O}{v:V}{b:Addr}(hk:S.h k=some o)(q1:g.rho k=some b)(q2:g.own b= .mut k)(hs:(s.heap.get? b).isSome=true)(z:∀g',Ext noX g s.heap g' s.heap->g'.own b= .keep->RV w g' s.heap v (.ref b)):
  FrzX w sA g (S.upd k (.frz v)) s (λg'=>RV w g' s.heap v (.ref b)):=by
 refine e03 (R.thaw (R.lt hk) q2 hs) λx m fr=> ?_;have z:=z _ x gC1;exact⟨_,x,R.upd x (R.lt hk) m fr (λj q=>(R.emp j q).2) ⟨b,q1,z⟩,z⟩
theorem Rep.freezeL(R:Rep w sA g S s){l:List V}{b:Addr}(hk:S.h k=some (.lst l))(rb:g.rho k=some b):
  FrzX w sA g (S.upd k (.frz (.lst l))) s (λg'=>RV w g' s.heap (.lst l) (.ref b)):=by
 obtain⟨a,its,q1,q2,q3,q4,q5⟩:=R.pl _ _ hk;rw[q1]at rb;cases rb;exact R.freeze hk q1 q2 (let ⟨_,ho⟩:=q3;by rw[ho];rfl) λg' x k=>⟨b,its,rfl,k,q3,q4,q5.mono x⟩
theorem Rep.freezeD(R:Rep w sA g S s){ks vs:List V}{b:Addr}(hk:S.h k=some (.dct ks vs))(rb:g.rho k=some b):
  FrzX w sA g (S.upd k (.frz (.dct ks vs))) s (λg'=>RV w g' s.heap (.dct ks vs) (.ref b)):=by
 obtain⟨a,its,q1,q2,q3,q4,q5⟩:=R.pl _ _ hk;rw[q1]at rb;cases rb;exact R.freeze hk q1 q2 (by rcases q3 with⟨_,⟨_,_,_,o,_,_,ho,_⟩|⟨_,_,_,_,o,_,_,ho,_⟩⟩<;>(rw[ho];rfl)) λg' x k=>⟨b,its,rfl,k,q3,q4,q5.mono x⟩
theorem Rep.freezeI(R:Rep w sA g S s){c:Nat}{ns:List Nat}{vs:List V}{b:Addr}(hk:S.h k=some (.ins c ns vs))(rb:g.rho k=some b):
  ∃g',Ext noX g s.heap g' s.heap/\Rep w sA g' (S.upd k (.frz (.ob c ns (vs.map (Mine.norm S))))) s/\RV w g' s.heap (.ob c ns (vs.map (Mine.norm S))) (.ref b):=by
 obtain⟨a,d,vals,p1,p0,p2,p3,p4,p5,p6,p7⟩:=R.pl _ _ hk;rw[rb]at p1;cases p1;refine e32 p5 λo es ep hd r5=> ?_;obtain⟨x,m,fr⟩:=R.thaw (R.lt hk) p2 (by rw[p4];rfl);have nd:d≠b:=kF6 (j:=0) p2 p3 (by nofun);have od:(g.put b .keep).own d= .mutD k:=(gB7 nd).trans p3;have x':Ext noX g s.heap ((g.put b .keep).put d .keep) s.heap:=x.trans ⟨λc q=>⟨(gB7 (by rintro rfl;rw[od]at q;cases q)).trans q,rfl⟩,λc q=>⟨(gB7 (by rintro rfl;rw[od]at q;cases q)).trans q,λδ=>rfl⟩,λδ δ q=>q⟩;have z:RV w ((g.put b .keep).put d .keep) s.heap (.ob c ns (vs.map (Mine.norm S))) (.ref b):=⟨b,d,vals,rfl,p0,(gB7 nd.symm).trans gC1,gC1,p4,⟨o,es,ep,hd,r5⟩,p6,(R.norms p7).mono x'⟩
 refine⟨_,x',R.upd x' (R.lt hk) (λj ne c q=>⟨?_,rfl⟩) (λc q=> ?_) (λj q=>(R.emp j q).2) ⟨b,rb,z⟩,z⟩
 ·have:c≠d:=by rintro rfl;rw[p3]at q;rcases q with q|q<;>cases q;exact ne rfl
  exact(gB7 this).trans (m j ne c q).1
 ·by_cases n:c=d
  ·rw[n,hd];rfl
  ·exact fr c (by rwa[gB7 n]at q)
theorem Rep.givenI(R:Rep w sA g S s){c:Nat}{ns:List Nat}{vs:List V}{b:Addr}(hk:S.h k=some (.ins c ns vs))(rb:g.rho k=some b):∃vals,RVs w g s.heap vs vals:=by obtain⟨a,d,vals,p1,p0,p2,p3,p4,p5,p6,p7⟩:=R.pl _ _ hk;exact⟨vals,p7⟩
mutual
theorem gQ6:∀(f:Nat){g:Gh}{S S':St}{v v':V}{x:Value},Rep w sA g S s->frz f v S=some (v',S')->RV w g s.heap v x->FrzX w sA g S' s (λg'=>RV w g' s.heap v' x)
 |0,_,_,_,_,_,_,_,e,_=>nomatch e
 |f+1,g,S,S',v,v',x,R,e,r=>by
  revert r;refine hM3 (G:=λv v' S'=>RV w g s.heap v x->FrzX w sA g S' s (λg'=>RV w g' s.heap v' x)) e (λδ r=>⟨g,.refl _ _ _,R,r⟩) (λk l hk r=> ?_) (λk ks vs hk r=> ?_) (λk v hk r=> ?_) (λk c ns vs δ δ r=>⟨g,.refl _ _ _,R,r⟩) (λk c ns vs q q' hk δ h1 h2 r=> ?_)
  ·obtain⟨b,rfl,rb⟩:=r;exact R.freezeL hk rb
  ·obtain⟨b,rfl,rb⟩:=r;exact R.freezeD hk rb
  ·obtain⟨b,rfl,rb⟩:=r;refine e12 (R.pl _ _ hk) λa q1 q2=> ?_;rw[q1]at rb;cases rb;exact⟨g,.refl _ _ _,R,q2⟩
  ·obtain⟨b,rfl,rb⟩:=r;refine e11 (R.givenI hk rb) λvals rv=> ?_;obtain⟨gA,xA,RA,_⟩:=gZ5 f R (S':=q.2) (l':=q.1) h1 rv;refine e13 (RA.freezeI (gM8 h2) (xA.rho _ _ rb)) λgB xB RB rB=> ?_;exact⟨gB,xA.trans xB,RB,rB⟩
theorem gZ5:∀(f:Nat){g:Gh}{S S':St}{l l':List V}{xs:List Value},Rep w sA g S s->gV6 f l S=some (l',S')->RVs w g s.heap l xs->FrzX w sA g S' s (λg'=>RVs w g' s.heap l' xs)
 |0,_,_,_,_,_,_,_,e,_=>nomatch e
 |f+1,g,S,S',[],l',xs,R,e,r=>by cases e;exact⟨g,.refl _ _ _,R,r⟩
 |f+1,g,S,S',v::l,l',xs,R,e,r=>by obtain⟨y,ys,rfl,p,q⟩:=r;refine hE1 (G:=λq=>FrzX w sA g q.2 s (λg'=>RVs w g' s.heap q.1 (y::ys))) e λr r' eB eA=> ?_;obtain⟨gA,xA,RA,rA⟩:=gQ6 f R (v':=r.1) (S':=r.2) eB p;obtain⟨gB,xB,RB,rB⟩:=gZ5 f RA (l':=r'.1) (S':=r'.2) eA (q.mono xA);exact⟨gB,xA.trans xB,RB,y,ys,rfl,rA.mono xB,rB⟩
end
end
section
noncomputable def kZ3:List (String×Value):=[("_wall",Value.ref 21),("WHITE",Value.ref 22),("DELIMITERS",Value.ref 23),("LINE_FEED",Value.int 10 214),("RETURN",Value.int 13 216),("COMMENT",Value.int 37 218),("MOST_FIGURES_cursor",Value.int 20 220),("is_white",Value.ref 30),("is_regular",Value.ref 37),("is_figure",Value.ref 44),("Cursor",Value.ref 147),("PaperError",Value.ref 176),("SyntaxFault",Value.ref 189),("MOST_FIGURES_decimals",Value.int 40 436),("PLUS",Value.int 43 438),("MINUS",Value.int 45 440),("POINT",Value.int 46 442),("ZERO",Value.int 48 444),("Decimal",Value.ref 285),("sign_text",Value.ref 296),("read_decimal",Value.ref 303),("MOST_HOPS",Value.int 30 581),("Name",Value.ref 320),("String",Value.ref 342),("Stream",Value.ref 363),("Reference",Value.ref 391),("kind_of",Value.ref 402),("told_plain",Value.ref 409),("told",Value.ref 414),("told_objects",Value.ref 414),("Lookup",Value.ref 446),("Shelf",Value.ref 500),("OWN_KEYS",Value.ref 503),("trailer_of",Value.ref 510),("is_cross_stream",Value.ref 517),("PAREN",Value.int 40 878),("CLOSE_PAREN",Value.int 41 880),("LESS",Value.int 60 882),("GREATER",Value.int 62 884),("SLASH",Value.int 47 886),("BACKSLASH",Value.int 92 888),("HASH",Value.int 35 890),("SIGNS",Value.ref 518),("hex_worth",Value.ref 525),("plain_escape",Value.ref 532),("name_text",Value.ref 540),("octal",Value.ref 547)]
noncomputable def kZ2:List (String×Value):=[("escaped_codes",Value.ref 554),("literal",Value.ref 561),("hex_string",Value.ref 566),("run_token",Value.ref 573),("delimited_token",Value.ref 580),("next_token",Value.ref 587),("is_sign",Value.ref 594),("is_object_stream",Value.ref 601),("OF_THE_FILE",Value.ref 602),("drop_file_streams",Value.ref 609),("MOST_DEPTH",Value.int 40 1025),("Frame",Value.ref 633),("is_whole",Value.ref 644),("take_reference",Value.ref 651),("word_value",Value.ref 658),("plain_value",Value.ref 665),("dict_of",Value.ref 670),("close_frame",Value.ref 677),("object_from",Value.ref 685),("read_object",Value.ref 692),("length_of",Value.ref 699),("line_end_before",Value.ref 706),("read_stream",Value.ref 714),("skip_word",Value.ref 721),("take_number",Value.ref 728),("read_indirect",Value.ref 736),("Piece",Value.ref 760),("Walk",Value.ref 781),("head_end",Value.ref 792),("take_piece",Value.ref 799),("take_trailer",Value.ref 806),("pass_word",Value.ref 813),("walked",Value.ref 820),("table_of",Value.ref 827),("is_of_type",Value.ref 834),("trailers_of",Value.ref 839),("joined",Value.ref 846),("last_catalog",Value.ref 853),("shelf_from",Value.ref 860),("_law_draw",Value.ref 867),("_law_value",Value.ref 874),("_law_trailer",Value.ref 881),("_law_octets",Value.ref 886),("_law_kind",Value.ref 893),("_law_due",Value.ref 898),("_law_walk",Value.ref 905),("law",Value.ref 910)]
noncomputable def gtab:List (Str×Value):=(kZ3++kZ2).map λp=>(Str.ofString p.1,p.2)
noncomputable def gnL:List String:=["BACKSLASH","CLOSE_PAREN","COMMENT","DELIMITERS","GREATER","HASH","LESS","LINE_FEED","MINUS","MOST_DEPTH","MOST_FIGURES_cursor","MOST_FIGURES_decimals","MOST_HOPS","OF_THE_FILE","OWN_KEYS","PAREN","PLUS","POINT","RETURN","SIGNS","SLASH","WHITE","ZERO"]
noncomputable def faL:List Addr:=[910,867,874,881,886,893,898,905,860,827,846,839,517,510,853,834,609,601,409,414,402,820,44,37,792,799,736,728,587,580,540,573,303,692,685,594,665,651,644,677,670,721,714,699,813,806,59,66,74,81,88,95,102,109,116,130,317,360,381,750,778,429,436,443,478,485,492,497,623,630]
noncomputable def fa(g:Nat):Addr:=faL.getD g 0
noncomputable def gS7(sc:NKs)(n:Str):Bool:=match sc.lookup n with
 |some .local=>true
 |some .cell=>true
 |_=>false
theorem hQ9{sc:NKs}{n:Str}{G:Prop}(h:gS7 sc n=true)(a:sc.lookup n=some .local->G)(b:sc.lookup n=some .cell->G):G:=by
 have h:(match sc.lookup n with|some .local=>true|some .cell=>true|_=>false)=true:=h
 cases e:sc.lookup n with
 |none=>rw[e]at h;cases h
 |some k=>
  rw[e]at h;cases k<;>first|exact a e|exact b e|cases h
noncomputable def iL3(sc:NKs)(n:Str):Bool:=sc.lookup n==some .globalImplicit
noncomputable def iA7(sc:NKs)(n:Str)(v:Value):Bool:=iL3 sc n&&gtab.lookup n==some v&&n !=("__debug__":Str)
noncomputable def gY5(sc:NKs)(n:Str)(m:String):Bool:=iL3 sc n&&(gtab.lookup n).isNone&&n==Str.ofString m&& !(["__doc__","__package__","__loader__","__spec__","__annotations__","__builtins__","__file__","__cached__","__name__","__debug__"].map Str.ofString).contains n
noncomputable abbrev PE:=XE
noncomputable def hN0(e:PE):Option (Str×Pos):=if h:e.ctorIdx=23 then PySem.Expr.Name.elim (motive_1:=λδ=>Option (Str×Pos)) e h (λn p=>some (n,p))else none
noncomputable def jA3(e:PE):Option (Const×Nat×Pos):=if h:e.ctorIdx=19 then PySem.Expr.Constant.elim (motive_1:=λδ=>Option (Const×Nat×Pos)) e h (λc k p=>some (c,k,p))else none
noncomputable def dUn(e:PE):Option (UnaryOp×PE×Pos):=if h:e.ctorIdx=3 then PySem.Expr.UnaryOp.elim (motive_1:=λδ=>Option (UnaryOp×PE×Pos)) e h (λo x p=>some (o,x,p))else none
noncomputable def kR6(e:PE):Option (PE×Operator×PE×Pos):=if h:e.ctorIdx=2 then PySem.Expr.BinOp.elim (motive_1:=λδ=>Option (PE×Operator×PE×Pos)) e h (λl o r p=>some (l,o,r,p))else none
noncomputable def kL9(e:PE):Option (PE×List CmpOp×List PE×Pos):=if h:e.ctorIdx=15 then PySem.Expr.Compare.elim (motive_1:=λδ=>Option (PE×List CmpOp×List PE×Pos)) e h (λl o r p=>some (l,o,r,p))else none
noncomputable def iO7(e:PE):Option (BoolOp×List PE×Pos):=if h:e.ctorIdx=0 then PySem.Expr.BoolOp.elim (motive_1:=λδ=>Option (BoolOp×List PE×Pos)) e h (λo l p=>some (o,l,p))else none
noncomputable def dIf(e:PE):Option (PE×PE×PE×Pos):=if h:e.ctorIdx=5 then PySem.Expr.IfExp.elim (motive_1:=λδ=>Option (PE×PE×PE×Pos)) e h (λa b c p=>some (a,b,c,p))else none
noncomputable def iO6(e:PE):Option (List PE×Nat×Pos):=if h:e.ctorIdx=25 then PySem.Expr.Tuple.elim (motive_1:=λδ=>Option (List PE×Nat×Pos)) e h (λl k p=>some (l,k,p))else none
noncomputable def jT2(e:PE):Option (List PE×Pos):=if h:e.ctorIdx=24 then PySem.Expr.List.elim (motive_1:=λδ=>Option (List PE×Pos)) e h (λl p=>some (l,p))else none
noncomputable def jT6(e:PE):Option (List (Option PE)×List PE×Pos):=if h:e.ctorIdx=6 then PySem.Expr.Dict.elim (motive_1:=λδ=>Option (List (Option PE)×List PE×Pos)) e h (λk l p=>some (k,l,p))else none
noncomputable def jW7(e:PE):Option (PE×Str×Pos):=if h:e.ctorIdx=20 then PySem.Expr.Attribute.elim (motive_1:=λδ=>Option (PE×Str×Pos)) e h (λo n p=>some (o,n,p))else none
noncomputable def jW6(e:PE):Option (PE×PE×Pos):=if h:e.ctorIdx=21 then PySem.Expr.Subscript.elim (motive_1:=λδ=>Option (PE×PE×Pos)) e h (λo j p=>some (o,j,p))else none
noncomputable def lB5(e:PE):Option (Option PE×Option PE×Option PE×Pos):=if h:e.ctorIdx=26 then PySem.Expr.Slice.elim (motive_1:=λδ=>Option (Option PE×Option PE×Option PE×Pos)) e h (λl u s p=>some (l,u,s,p))else none
noncomputable def hS0(e:PE):Option (PE×List PE×List Keyword×Pos):=if h:e.ctorIdx=16 then PySem.Expr.Call.elim (motive_1:=λδ=>Option (PE×List PE×List Keyword×Pos)) e h (λf l k p=>some (f,l,k,p))else none
noncomputable def dLC(e:PE):Option (PE×List Comprehension×Scope×Pos):=if h:e.ctorIdx=8 then PySem.Expr.ListComp.elim (motive_1:=λδ=>Option (PE×List Comprehension×Scope×Pos)) e h (λe c s p=>some (e,c,s,p))else none
noncomputable def dDC(e:PE):Option (PE×PE×List Comprehension×Scope×Pos):=if h:e.ctorIdx=10 then PySem.Expr.DictComp.elim (motive_1:=λδ=>Option (PE×PE×List Comprehension×Scope×Pos)) e h (λk v c s p=>some (k,v,c,s,p))else none
section
variable{e:PE}{G:PE->Prop}
theorem gL7{q}(h:hN0 e=some q)(k:G (.Name q.1 q.2)):G e:=by
 by_cases c:e.ctorIdx=23
 ·exact PySem.Expr.Name.elim (motive_1:=λe=>hN0 e=some q->G e) e c (λδ δ h=>sS (G:=λq=>G (.Name q.1 q.2)) h.symm k) h
 ·exact nn ((dif_neg c).symm.trans h)
theorem hE4{q}(h:jA3 e=some q)(k:G (.Constant q.1 q.2.1 q.2.2)):G e:=by
 by_cases c:e.ctorIdx=19
 ·exact PySem.Expr.Constant.elim (motive_1:=λe=>jA3 e=some q->G e) e c (λδ δ δ h=>sS (G:=λq=>G (.Constant q.1 q.2.1 q.2.2)) h.symm k) h
 ·exact nn ((dif_neg c).symm.trans h)
theorem hR6{q}(h:dUn e=some q)(k:G (.UnaryOp q.1 q.2.1 q.2.2)):G e:=by
 by_cases c:e.ctorIdx=3
 ·exact PySem.Expr.UnaryOp.elim (motive_1:=λe=>dUn e=some q->G e) e c (λδ δ δ h=>sS (G:=λq=>G (.UnaryOp q.1 q.2.1 q.2.2)) h.symm k) h
 ·exact nn ((dif_neg c).symm.trans h)
theorem hY6{q}(h:kR6 e=some q)(k:G (.BinOp q.1 q.2.1 q.2.2.1 q.2.2.2)):G e:=by
 by_cases c:e.ctorIdx=2
 ·exact PySem.Expr.BinOp.elim (motive_1:=λe=>kR6 e=some q->G e) e c (λδ δ δ δ h=>sS (G:=λq=>G (.BinOp q.1 q.2.1 q.2.2.1 q.2.2.2)) h.symm k) h
 ·exact nn ((dif_neg c).symm.trans h)
theorem hE5{q}(h:kL9 e=some q)(k:G (.Compare q.1 q.2.1 q.2.2.1 q.2.2.2)):G e:=by
 by_cases c:e.ctorIdx=15
 ·exact PySem.Expr.Compare.elim (motive_1:=λe=>kL9 e=some q->G e) e c (λδ δ δ δ h=>sS (G:=λq=>G (.Compare q.1 q.2.1 q.2.2.1 q.2.2.2)) h.symm k) h
 ·exact nn ((dif_neg c).symm.trans h)
theorem gT3{q}(h:iO7 e=some q)(k:G (.BoolOp q.1 q.2.1 q.2.2)):G e:=by
 by_cases c:e.ctorIdx=0
 ·exact PySem.Expr.BoolOp.elim (motive_1:=λe=>iO7 e=some q->G e) e c (λδ δ δ h=>sS (G:=λq=>G (.BoolOp q.1 q.2.1 q.2.2)) h.symm k) h
 ·exact nn ((dif_neg c).symm.trans h)
theorem jT3{q}(h:dIf e=some q)(k:G (.IfExp q.1 q.2.1 q.2.2.1 q.2.2.2)):G e:=by
 by_cases c:e.ctorIdx=5
 ·exact PySem.Expr.IfExp.elim (motive_1:=λe=>dIf e=some q->G e) e c (λδ δ δ δ h=>sS (G:=λq=>G (.IfExp q.1 q.2.1 q.2.2.1 q.2.2.2)) h.symm k) h
 ·exact nn ((dif_neg c).symm.trans h)
theorem gN7{q}(h:iO6 e=some q)(k:G (.Tuple q.1 q.2.1 q.2.2)):G e:=by
 by_cases c:e.ctorIdx=25
 ·exact PySem.Expr.Tuple.elim (motive_1:=λe=>iO6 e=some q->G e) e c (λδ δ δ h=>sS (G:=λq=>G (.Tuple q.1 q.2.1 q.2.2)) h.symm k) h
 ·exact nn ((dif_neg c).symm.trans h)
theorem hR7{q}(h:jT2 e=some q)(k:G (.List q.1 q.2)):G e:=by
 by_cases c:e.ctorIdx=24
 ·exact PySem.Expr.List.elim (motive_1:=λe=>jT2 e=some q->G e) e c (λδ δ h=>sS (G:=λq=>G (.List q.1 q.2)) h.symm k) h
 ·exact nn ((dif_neg c).symm.trans h)
theorem hR9{q}(h:jT6 e=some q)(k:G (.Dict q.1 q.2.1 q.2.2)):G e:=by
 by_cases c:e.ctorIdx=6
 ·exact PySem.Expr.Dict.elim (motive_1:=λe=>jT6 e=some q->G e) e c (λδ δ δ h=>sS (G:=λq=>G (.Dict q.1 q.2.1 q.2.2)) h.symm k) h
 ·exact nn ((dif_neg c).symm.trans h)
theorem hE6{q}(h:jW7 e=some q)(k:G (.Attribute q.1 q.2.1 q.2.2)):G e:=by
 by_cases c:e.ctorIdx=20
 ·exact PySem.Expr.Attribute.elim (motive_1:=λe=>jW7 e=some q->G e) e c (λδ δ δ h=>sS (G:=λq=>G (.Attribute q.1 q.2.1 q.2.2)) h.symm k) h
 ·exact nn ((dif_neg c).symm.trans h)
theorem gU9{q}(h:jW6 e=some q)(k:G (.Subscript q.1 q.2.1 q.2.2)):G e:=by
 by_cases c:e.ctorIdx=21
 ·exact PySem.Expr.Subscript.elim (motive_1:=λe=>jW6 e=some q->G e) e c (λδ δ δ h=>sS (G:=λq=>G (.Subscript q.1 q.2.1 q.2.2)) h.symm k) h
 ·exact nn ((dif_neg c).symm.trans h)
theorem kL5{q}(h:lB5 e=some q)(k:G (.Slice q.1 q.2.1 q.2.2.1 q.2.2.2)):G e:=by
 by_cases c:e.ctorIdx=26
 ·exact PySem.Expr.Slice.elim (motive_1:=λe=>lB5 e=some q->G e) e c (λδ δ δ δ h=>sS (G:=λq=>G (.Slice q.1 q.2.1 q.2.2.1 q.2.2.2)) h.symm k) h
 ·exact nn ((dif_neg c).symm.trans h)
theorem hH6{q}(h:hS0 e=some q)(k:G (.Call q.1 q.2.1 q.2.2.1 q.2.2.2)):G e:=by
 by_cases c:e.ctorIdx=16
 ·exact PySem.Expr.Call.elim (motive_1:=λe=>hS0 e=some q->G e) e c (λδ δ δ δ h=>sS (G:=λq=>G (.Call q.1 q.2.1 q.2.2.1 q.2.2.2)) h.symm k) h
 ·exact nn ((dif_neg c).symm.trans h)
theorem jA1{q}(h:dLC e=some q)(k:G (.ListComp q.1 q.2.1 q.2.2.1 q.2.2.2)):G e:=by
 by_cases c:e.ctorIdx=8
 ·exact PySem.Expr.ListComp.elim (motive_1:=λe=>dLC e=some q->G e) e c (λδ δ δ δ h=>sS (G:=λq=>G (.ListComp q.1 q.2.1 q.2.2.1 q.2.2.2)) h.symm k) h
 ·exact nn ((dif_neg c).symm.trans h)
theorem jA2{q}(h:dDC e=some q)(k:G (.DictComp q.1 q.2.1 q.2.2.1 q.2.2.2.1 q.2.2.2.2)):G e:=by
 by_cases c:e.ctorIdx=10
 ·exact PySem.Expr.DictComp.elim (motive_1:=λe=>dDC e=some q->G e) e c (λδ δ δ δ δ h=>sS (G:=λq=>G (.DictComp q.1 q.2.1 q.2.2.1 q.2.2.2.1 q.2.2.2.2)) h.symm k) h
 ·exact nn ((dif_neg c).symm.trans h)
noncomputable def gN2(e:PE):Bool:=(hN0 e).isSome||((jW7 e).isSome||((jW6 e).isSome||((jA3 e).isSome||((dUn e).isSome||((kR6 e).isSome||(hS0 e).any λq=> !q.2.1.isEmpty)))))
theorem orb{a b:Bool}{G:Prop}(h:(a||b)=true)(k:a=true->G)(l:b=true->G):G:=by
 cases a
 ·exact l h
 ·exact k rfl
theorem sm{α:Type}{o:Option α}{G:Prop}(h:o.isSome=true)(k:∀a,o=some a->G):G:=by
 cases o with
 |none=>exact ff h
 |some a=>exact k a rfl
theorem iL1(h:gN2 e=true)(n:∀n p,G (.Name n p))(a:∀o n p,G (.Attribute o n p))(s:∀o j p,G (.Subscript o j p))(c:∀c k p,G (.Constant c k p))(u:∀o x p,G (.UnaryOp o x p))(b:∀l o r p,G (.BinOp l o r p))(k:∀f x l w p,G (.Call f (x::l) w p)):G e:=
 orb h (λh=>sm h λq h=>gL7 h (n _ _)) λh=>orb h (λh=>sm h λq h=>hE6 h (a _ _ _)) λh=>orb h (λh=>sm h λq h=>gU9 h (s _ _ _)) λh=>orb h (λh=>sm h λq h=>hE4 h (c _ _ _)) λh=>
  orb h (λh=>sm h λq h=>hR6 h (u _ _ _)) λh=>orb h (λh=>sm h λq h=>hY6 h (b _ _ _ _)) λh=>by
   cases d:hS0 e with
   |none=>rw[d]at h;exact ff h
   |some q=>
    rw[d]at h;refine hH6 d ?_;obtain⟨f,l,w⟩:=q
    cases l with
    |nil=>exact ff h
    |cons x l=>exact k _ _ _ _ _
end
noncomputable def one{α:Type}:List α->Option α| []=>none|a::r=>if r.isEmpty then some a else none
theorem gK7{α:Type}{l:List α}{a:α}(h:one l=some a):l=[a]:=by
 cases l with
 |nil=>exact nn h
 |cons x r=>
  cases r with
  |nil=>exact congrArg (λa=> [a]) (Option.some.inj h)
  |cons _ _=>exact nn h
noncomputable def two{α:Type}:List α->Option (α×α)| []=>none|a::r=>(one r).bind λb=>some (a,b)
theorem hJ0{α:Type}{l:List α}{a:α×α}(h:two l=some a):l=[a.1,a.2]:=by
 cases l with
 |nil=>exact nn h
 |cons x r=>exact bd h λb e h=>by rw[gK7 e,←Option.some.inj h]
theorem an{a b:Bool}{G:Prop}(h:(a&&b)=true)(k:a=true->b=true->G):G:=by rw[Bool.and_eq_true]at h;exact k h.1 h.2
theorem an3{a b c:Bool}{G:Prop}(h:(a&&(b&&c))=true)(k:a=true->b=true->c=true->G):G:=an h λh0 h=>an h λh1 h2=>k h0 h1 h2
theorem an4{a b c d:Bool}{G:Prop}(h:(a&&(b&&(c&&d)))=true)(k:a=true->b=true->c=true->d=true->G):G:=an h λh0 h=>an h λh1 h=>an h λh2 h3=>k h0 h1 h2 h3
theorem an5{a b c d e:Bool}{G:Prop}(h:(a&&(b&&(c&&(d&&e))))=true)(k:a=true->b=true->c=true->d=true->e=true->G):G:=an h λh0 h=>an h λh1 h=>an h λh2 h=>an h λh3 h4=>k h0 h1 h2 h3 h4
theorem an6{a b c d e f:Bool}{G:Prop}(h:(a&&(b&&(c&&(d&&(e&&f)))))=true)(k:a=true->b=true->c=true->d=true->e=true->f=true->G):G:=an h λh0 h=>an h λh1 h=>an h λh2 h=>an h λh3 h=>an h λh4 h5=>k h0 h1 h2 h3 h4 h5
theorem an7{a b c d e f g:Bool}{G:Prop}(h:(a&&(b&&(c&&(d&&(e&&(f&&g))))))=true)(k:a=true->b=true->c=true->d=true->e=true->f=true->g=true->G):G:=an h λh0 h=>an h λh1 h=>an h λh2 h=>an h λh3 h=>an h λh4 h=>an h λh5 h6=>k h0 h1 h2 h3 h4 h5 h6
theorem gB2{α:Type}{o:Option α}{p:α->Bool}{G:Prop}(h:o.any p=true)(k:∀a,o=some a->p a=true->G):G:=by
 cases o with
 |none=>exact ff h
 |some a=>exact k a rfl h
noncomputable def kN3(v:V)(c:Const):Bool:=match c with
 | .none=>gD0 v
 | .bool b=>bOf v==some b
 | .int j=>iOf v==some j
 | .str s=>sOf v==some s.cps.toList&&decide (s.cps.toList.length<=1000)
 | .bytes b=>yOf v==some (b.map UInt8.toNat)&&decide (b.length<=1000)
 |_=>false
noncomputable def hS1(v:V)(e:PE):Bool:=match jA3 e with
 |some q=>kN3 v q.1
 |none=>(dUn e).any λq=>q.1== .USub&&((jA3 q.2.1).any λq=>match q.1 with| .int j=>iOf v==some (-j)|_=>false)
noncomputable def lK3:BOp->Operator
 | .add=> .Add| .sub=> .Sub| .mul=> .Mult| .fdiv=> .FloorDiv| .mod=> .Mod
noncomputable def lH7(a:BOp)(o:Operator):Bool:=decide (o=lK3 a)
noncomputable def lU5:COp->CmpOp
 | .eq=> .Eq| .ne=> .NotEq| .lt=> .Lt| .le=> .LtE| .gt=> .Gt| .ge=> .GtE| .isn=> .Is| .notIsn=> .IsNot| .inn=> .In| .notIn=> .NotIn
noncomputable def ckC(a:COp)(o:CmpOp):Bool:=decide (o=lU5 a)
noncomputable def jX0(sc:NKs)(x:Nat)(e:PE):Bool:=(hN0 e).any λq=>q.1==nm x&&gS7 sc q.1&&q.1 !=("__debug__":Str)
noncomputable def few(l:List PE):Bool:=decide (l.length<=10)
noncomputable def jI1:BF->String
 | .len=> "len"| .int=> "int"| .sum=> "sum"| .sorted=> "sorted"| .tuple=> "tuple"| .list=> "list"| .dict=> "dict"| .str=> "str"| .chr=> "chr"| .min=> "min"| .bytes=> "bytes"
noncomputable def jI0:BM->String
 | .append=> "append"| .pop0=> "pop"| .strJoin=> "join"| .bytesJoin=> "join"| .encode=> "encode"| .get1=> "get"| .get2=> "get"| .pop1=> "pop"
noncomputable def lH8(sc:NKs):Kd->Str->Bool
 | .bool,n=>gY5 sc n "bool"
 | .int,n=>gY5 sc n "int"
 | .list,n=>gY5 sc n "list"
 | .dict,n=>gY5 sc n "dict"
 | .cls c,n=>decide (c<10)&&iA7 sc n (.ref (cl c))
noncomputable def gR9(sc:NKs)(names:NKs):NKs:=names.map λp=>if p.2== .free&&sc.lookup p.1==some .cell then(p.1,.cell)else p
noncomputable def jW9(sc:NKs)(vars:List Nat)(s:Scope):Bool:=
 s.kind== .function&& !s.isGenerator&& !s.isCoroutine&&s.names.all (λp=>(p.2== .local&&(vars.any (λx=>nm x==p.1)||p.1==(".0":Str))&&s.names.lookup p.1==some .local)||(p.2== .free&&sc.lookup p.1==some .cell)||p.2== .globalImplicit)&&
  vars.all (λx=>s.names.lookup (nm x)==some .local)
noncomputable def tgL:Tg->List Nat
 | .one x=> [x]
 | .tup xs=>xs
noncomputable def iD9:List Gn->List Nat
 | []=> []
 | .mk t _ _::r=>tgL t++iD9 r
theorem hC0(t:Tg)(i:It)(l:List ME)(r:List Gn):iD9 (.mk t i l::r)=tgL t++iD9 r:=rfl
noncomputable def jW8(vars:List Nat)(l:List Nat):Bool:=l.all vars.contains&&decide l.Nodup
noncomputable def iS9(sc:NKs):List Nat->List PE->Bool
 | [],es=>es.isEmpty
 |x::xs,es=>(match es with
  | []=>false
  |e::es=>jX0 sc x e&&iS9 sc xs es)
noncomputable def jH7(sc:NKs)(t:Tg)(e:PE):Bool:=match t with
 | .one x=>jX0 sc x e
 | .tup xs=>(iO6 e).any λq=>iS9 sc xs q.1&&few q.1
noncomputable def kR5(it:It)(e:PE):Bool:=match it with
 | .enum _=>(iO6 e).isSome
 |_=>true
noncomputable def lC2(k:List Nat)(e:PE):Bool:=(jA3 e).any λq=>match q.1 with
 | .str s=>s.cps.toList==k&&decide (k.length<=1000)
 |_=>false
noncomputable def hE7:List (List Nat)->List (Option PE)->Bool
 | [],es=>es.isEmpty
 |k::ks,es=>(match es with
  | []=>false
  |e::es=>e.any (lC2 k)&&(!ks.contains k&&hE7 ks es))
noncomputable def hQ4:ME->Bool
 | .lit v=>gD0 v
 |_=>false
noncomputable def hN5(e:PE):Option (Str×List PE):=(hS0 e).bind λq=>(hN0 q.1).bind λn=>if q.2.2.1.isEmpty then some (n.1,q.2.1)else none
noncomputable def jU3(e:PE):Option (PE×Str×List PE):=(hS0 e).bind λq=>(jW7 q.1).bind λa=>if q.2.2.1.isEmpty&&a.2.2.endLine==q.2.2.2.line then some (a.1,a.2.1,q.2.1)else none
mutual
noncomputable def ckE:Nat->NKs->ME->PE->Bool
 |0,_,_,_=>false
 |f+1,sc,m,e=>match m with
  | .lit v=>hS1 v e
  | .var x=>jX0 sc x e
  | .gv i=>(hN0 e).any λq=>gnL[i]?.map Str.ofString==some q.1&&iL3 sc q.1&&q.1 !=("__debug__":Str)
  | .bin op a b=>(kR6 e).any λq=>lH7 op q.2.1&&(ckE f sc a q.1&&ckE f sc b q.2.2.1)
  | .cmp op a b=>(kL9 e).any λq=>(one q.2.1).any λo=>(one q.2.2.1).any λr=>ckC op o&&(ckE f sc a q.1&&ckE f sc b r)
  | .chain oA oB a b c=>(kL9 e).any λq=>(two q.2.1).any λo=>(two q.2.2.1).any λr=>ckC oA o.1&&(ckC oB o.2&&(ckE f sc a q.1&&(ckE f sc b r.1&&ckE f sc c r.2)))
  | .andE l=>(iO7 e).any λq=>decide (q.1= .And)&&gP4 f sc l q.2.1
  | .orE l=>(iO7 e).any λq=>decide (q.1= .Or)&&gP4 f sc l q.2.1
  | .notE a=>(dUn e).any λq=>decide (q.1= .Not)&&ckE f sc a q.2.1
  | .ite c a b=>(dIf e).any λq=>ckE f sc c q.1&&(ckE f sc a q.2.1&&ckE f sc b q.2.2.1)
  | .tupE l=>(iO6 e).any λq=>gP4 f sc l q.1&&few q.1
  | .lstE l=>(jT2 e).any λq=>gP4 f sc l q.1&&few q.1
  | .dctE ks vs=>(jT6 e).any λq=>hE7 ks q.1&&(gP4 f sc vs q.2.1&&(few q.2.1&&decide (q.1.length=q.2.1.length)))
  | .attr a x=>(jW7 e).any λq=>q.2.1==nm x&&(ckE f sc a q.1&&gN2 q.1)
  | .sub a i=>(jW6 e).any λq=>ckE f sc a q.1&&(ckE f sc i q.2.1&&gN2 q.2.1)
  | .slc a lo hi=>(jW6 e).any λq=>(lB5 q.2.1).any λz=>z.2.2.1.isNone&&(ckE f sc a q.1&&(ckO f sc lo z.1&&ckO f sc hi z.2.1))
  | .callF g args=>(hN5 e).any λq=>iA7 sc q.1 (.ref (fa g))&&(gP4 f sc args q.2&&(few q.2&&decide (g<faL.length)))
  | .callC c args=>(hN5 e).any λq=>iA7 sc q.1 (.ref (cl c))&&(gP4 f sc args q.2&&(few q.2&&decide (c<10)))
  | .callM a x args=>(jU3 e).any λq=>q.2.1==nm x&&(ckE f sc a q.1&&(gN2 q.1&&(gP4 f sc args q.2.2&&few q.2.2)))
  | .callB b args=>(hN5 e).any λq=>gY5 sc q.1 (jI1 b)&&(gP4 f sc args q.2&&few q.2)
  | .callBM a b args=>(jU3 e).any λq=>q.2.1==Str.ofString (jI0 b)&&(ckE f sc a q.1&&(gN2 q.1&&(gP4 f sc args q.2.2&&few q.2.2)))
  | .isi a k=>(hN5 e).any λq=>(two q.2).any λz=>(hN0 z.2).any λt=>gY5 sc q.1 "isinstance"&&(ckE f sc a z.1&&lH8 sc k t.1)
  | .lcomp vars elt gs=>(dLC e).any λq=>jW8 vars (iD9 gs)&&(jW9 sc vars q.2.2.1&&(ckE f (gR9 sc q.2.2.1.names) elt q.1&&iP7 f sc (gR9 sc q.2.2.1.names) gs q.2.1))
  | .dcomp vars k v g=>(dDC e).any λq=>jW8 vars (iD9 [g])&&(jW9 sc vars q.2.2.2.1&&(ckE f (gR9 sc q.2.2.2.1.names) k q.1&&(ckE f (gR9 sc q.2.2.2.1.names) v q.2.1&&iP7 f sc (gR9 sc q.2.2.2.1.names) [g] q.2.2.1)))
noncomputable def ckO:Nat->NKs->ME->Option PE->Bool
 |0,_,_,_=>false
 |f+1,sc,m,e=>match e with
  |none=>hQ4 m
  |some e=>ckE f sc m e
noncomputable def gP4:Nat->NKs->List ME->List PE->Bool
 |0,_,_,_=>false
 |f+1,sc,l,es=>match l with
  | []=>es.isEmpty
  |m::l=>(match es with
   | []=>false
   |e::es=>ckE f sc m e&&gP4 f sc l es)
noncomputable def iP7:Nat->NKs->NKs->List Gn->List Comprehension->Bool
 |0,_,_,_,_=>false
 |f+1,sc,sc',gs,cs=>match gs with
  | []=>cs.isEmpty
  |g::gs=>(match cs with
   | []=>false
   |c::cs=>(match g with
    | .mk t it ifs=>decide (c.is_async=0)&&(kR5 it c.target&&(jH7 sc' t c.target&&(ckI f sc it c.iter&&(gP4 f sc' ifs c.ifs&&iP7 f sc' sc' gs cs))))))
noncomputable def ckI:Nat->NKs->It->PE->Bool
 |0,_,_,_=>false
 |f+1,sc,it,e=>match it with
  | .ex m=>ckE f sc m e
  | .range args=>(hN5 e).any λq=>gY5 sc q.1 "range"&&(gP4 f sc args q.2&&few q.2)
  | .enum m=>(hN5 e).any λq=>(one q.2).any λz=>gY5 sc q.1 "enumerate"&&ckE f sc m z
  | .rev m=>(hN5 e).any λq=>(one q.2).any λz=>gY5 sc q.1 "reversed"&&ckE f sc m z
end
noncomputable def gA9(e:PE):Bool:=decide (e.ctorIdx≠8)&&(decide (e.ctorIdx≠9)&&decide (e.ctorIdx≠10))
noncomputable abbrev PS:=PySem.Stmt
noncomputable def jT5(e:PS):Option (PE×Pos):=if h:e.ctorIdx=24 then PySem.Stmt.Expr.elim (motive_2:=λδ=>Option (PE×Pos)) e h (λv p=>some (v,p))else none
noncomputable def jT7(e:PS):Option (List PE×PE×Pos):=if h:e.ctorIdx=5 then PySem.Stmt.Assign.elim (motive_2:=λδ=>Option (List PE×PE×Pos)) e h (λt v p=>some (t,v,p))else none
noncomputable def lB7(e:PS):Option (PE×List PS×List PS×Pos):=if h:e.ctorIdx=12 then PySem.Stmt.If.elim (motive_2:=λδ=>Option (PE×List PS×List PS×Pos)) e h (λa b c p=>some (a,b,c,p))else none
noncomputable def lB3(e:PS):Option (PE×List PS×List PS×Pos):=if h:e.ctorIdx=11 then PySem.Stmt.While.elim (motive_2:=λδ=>Option (PE×List PS×List PS×Pos)) e h (λa b c p=>some (a,b,c,p))else none
noncomputable def lB8(e:PS):Option (PE×PE×List PS×List PS×Pos):=if h:e.ctorIdx=9 then PySem.Stmt.For.elim (motive_2:=λδ=>Option (PE×PE×List PS×List PS×Pos)) e h (λt i b c p=>some (t,i,b,c,p))else none
noncomputable def lB6(e:PS):Option (Option PE×Pos):=if h:e.ctorIdx=3 then PySem.Stmt.Return.elim (motive_2:=λδ=>Option (Option PE×Pos)) e h (λv p=>some (v,p))else none
noncomputable def lB4(e:PS):Option (List PS×List ExceptHandler×List PS×List PS×Pos):=if h:e.ctorIdx=17 then PySem.Stmt.Try.elim (motive_2:=λδ=>Option (List PS×List ExceptHandler×List PS×List PS×Pos)) e h (λa b c d p=>some (a,b,c,d,p))else none
noncomputable def jE9(e:PS):Bool:=decide (e.ctorIdx=27)
noncomputable def jE8(e:PS):Bool:=decide (e.ctorIdx=25)
section
variable{e:PS}{G:PS->Prop}
theorem jT4{q}(h:jT5 e=some q)(k:G (.Expr q.1 q.2)):G e:=by
 by_cases c:e.ctorIdx=24
 ·exact PySem.Stmt.Expr.elim (motive_2:=λe=>jT5 e=some q->G e) e c (λδ δ h=>sS (G:=λq=>G (.Expr q.1 q.2)) h.symm k) h
 ·exact nn ((dif_neg c).symm.trans h)
theorem hN1{q}(h:jT7 e=some q)(k:G (.Assign q.1 q.2.1 q.2.2)):G e:=by
 by_cases c:e.ctorIdx=5
 ·exact PySem.Stmt.Assign.elim (motive_2:=λe=>jT7 e=some q->G e) e c (λδ δ δ h=>sS (G:=λq=>G (.Assign q.1 q.2.1 q.2.2)) h.symm k) h
 ·exact nn ((dif_neg c).symm.trans h)
theorem kL7{q}(h:lB7 e=some q)(k:G (.If q.1 q.2.1 q.2.2.1 q.2.2.2)):G e:=by
 by_cases c:e.ctorIdx=12
 ·exact PySem.Stmt.If.elim (motive_2:=λe=>lB7 e=some q->G e) e c (λδ δ δ δ h=>sS (G:=λq=>G (.If q.1 q.2.1 q.2.2.1 q.2.2.2)) h.symm k) h
 ·exact nn ((dif_neg c).symm.trans h)
theorem kL3{q}(h:lB3 e=some q)(k:G (.While q.1 q.2.1 q.2.2.1 q.2.2.2)):G e:=by
 by_cases c:e.ctorIdx=11
 ·exact PySem.Stmt.While.elim (motive_2:=λe=>lB3 e=some q->G e) e c (λδ δ δ δ h=>sS (G:=λq=>G (.While q.1 q.2.1 q.2.2.1 q.2.2.2)) h.symm k) h
 ·exact nn ((dif_neg c).symm.trans h)
theorem kL8{q}(h:lB8 e=some q)(k:G (.For q.1 q.2.1 q.2.2.1 q.2.2.2.1 q.2.2.2.2)):G e:=by
 by_cases c:e.ctorIdx=9
 ·exact PySem.Stmt.For.elim (motive_2:=λe=>lB8 e=some q->G e) e c (λδ δ δ δ δ h=>sS (G:=λq=>G (.For q.1 q.2.1 q.2.2.1 q.2.2.2.1 q.2.2.2.2)) h.symm k) h
 ·exact nn ((dif_neg c).symm.trans h)
theorem kL6{q}(h:lB6 e=some q)(k:G (.Return q.1 q.2)):G e:=by
 by_cases c:e.ctorIdx=3
 ·exact PySem.Stmt.Return.elim (motive_2:=λe=>lB6 e=some q->G e) e c (λδ δ h=>sS (G:=λq=>G (.Return q.1 q.2)) h.symm k) h
 ·exact nn ((dif_neg c).symm.trans h)
theorem kL4{q}(h:lB4 e=some q)(k:G (.Try q.1 q.2.1 q.2.2.1 q.2.2.2.1 q.2.2.2.2)):G e:=by
 by_cases c:e.ctorIdx=17
 ·exact PySem.Stmt.Try.elim (motive_2:=λe=>lB4 e=some q->G e) e c (λδ δ δ δ δ h=>sS (G:=λq=>G (.Try q.1 q.2.1 q.2.2.1 q.2.2.2.1 q.2.2.2.2)) h.symm k) h
 ·exact nn ((dif_neg c).symm.trans h)
theorem iY0(h:jE9 e=true)(k:∀p,G (.Continue p)):G e:=PySem.Stmt.Continue.elim (motive_2:=G) e (oX h) k
theorem iX9(h:jE8 e=true)(k:∀p,G (.Pass p)):G e:=PySem.Stmt.Pass.elim (motive_2:=G) e (oX h) k
end
noncomputable def iL4(e:PE):Bool:=(hS0 e).isSome
noncomputable def jD7(e:PE):Bool:=(iO6 e).isNone
noncomputable def hD3:List Nat->Bool
 | []=>true
 |x::r=> !r.contains x&&hD3 r
theorem iW1(x:Nat)(r:List Nat):hD3 (x::r)=(!r.contains x&&hD3 r):=rfl
mutual
noncomputable def ckS:Nat->NKs->MS->PS->Bool
 |0,_,_,_=>false
 |f+1,sc,s,t=>match s with
  | .ex e=>(jT5 t).any λq=>ckE f sc e q.1&&iL4 q.1
  | .asg x e=>(jT7 t).any λq=>(one q.1).any λz=>jX0 sc x z&&ckE f sc e q.2.1
  | .asgA o x e=>(jT7 t).any λq=>(one q.1).any λz=>(jW7 z).any λz=>z.2.1==nm x&&(ckE f sc o z.1&&(gN2 z.1&&(ckE f sc e q.2.1&&gA9 q.2.1)))
  | .asgS o i e=>(jT7 t).any λq=>(one q.1).any λz=>(jW6 z).any λz=>ckE f sc o z.1&&(ckE f sc i z.2.1&&(gN2 z.2.1&&(ckE f sc e q.2.1&&gA9 q.2.1)))
  | .asgT xs e=>(jT7 t).any λq=>(one q.1).any λz=>(iO6 z).any λz=>iS9 sc xs z.1&&(few z.1&&(ckE f sc e q.2.1&&(gA9 q.2.1&&jD7 q.2.1)))
  | .asgP xs es=>(jT7 t).any λq=>(one q.1).any λz=>(iO6 z).any λz=>(iO6 q.2.1).any λy=>iS9 sc xs z.1&&(few z.1&&(gP4 f sc es y.1&&(few y.1&&(y.1.any (λv=> !constantsAlone 8 v)&&(decide (z.1.length=2)&&hD3 xs)))))
  | .ite c a b=>(lB7 t).any λq=>ckE f sc c q.1&&(ckB f sc a q.2.1&&ckB f sc b q.2.2.1)
  | .whl c b=>(lB3 t).any λq=>ckE f sc c q.1&&(ckB f sc b q.2.1&&q.2.2.1.isEmpty)
  | .fr tg it b=>(lB8 t).any λq=>kR5 it q.1&&(jH7 sc tg q.1&&(ckI f sc it q.2.1&&(ckB f sc b q.2.2.1&&q.2.2.2.1.isEmpty)))
  | .ret e=>(lB6 t).any λq=>(match q.1 with
   |none=>hQ4 e
   |some v=>ckE f sc e v)
  | .cont=>jE9 t
  | .pass=>jE8 t
  | .tr b=>(lB4 t).any λq=>ckB f sc b q.1&&(q.2.2.1.isEmpty&&q.2.2.2.1.isEmpty)
  | .dead=>true
noncomputable def ckB:Nat->NKs->List MS->List PS->Bool
 |0,_,_,_=>false
 |f+1,sc,l,ts=>match l with
  | []=>ts.isEmpty
  |s::l=>(match ts with
   | []=>false
   |t::ts=>ckS f sc s t&&ckB f sc l ts)
end
noncomputable def ckF(fn:Fn)(a:Arguments)(b:List PySem.Stmt)(s:Scope):Bool:=
 a.posonlyargs.isEmpty&&a.vararg.isNone&&a.kwonlyargs.isEmpty&&a.kw_defaults.isEmpty&&a.kwarg.isNone&&a.args.map (·.arg)==fn.pars.map nm&&hD3 fn.pars&&
  s.kind== .function&& !s.isGenerator&& !s.isCoroutine&&s.names.all (λp=>p.2== .local||p.2== .cell||p.2== .globalImplicit)&&(s.names.map (·.1)).eraseDups.length==s.names.length&&fn.pars.all (λx=>gS7 s.names (nm x))&&ckB 60 s.names fn.body b
noncomputable def kN0(fn:Fn)(fd:FuncData):Bool:=match fd.body with
 | .stmts b=>ckF fn fd.params b fd.scope
 |_=>false
end
set_option tactic.hygienic true in
theorem gK0{h:Heap}{o:Obj}{b:Addr}(z:b<h.objs.size):(h.push o).get? b=h.get? b:=by
 cases h;rename_i a l
 delta Heap.push Heap.get?
 dsimp only;rw[Array.getElem?_push_lt z];rw[Array.getElem?_eq_getElem z]
section
variable{w:World}{sA:Shared}{g g':Gh}{S S':St}{s s':Shared}{h':Heap}{tk₀:Nat}{a d:Addr}{k:Nat}{l:List V}{vs:List Value}
theorem Rep.ltOf(R:Rep w sA g S s){b:Addr}(o:g.own b≠ .free):b<s.heap.objs.size:=by
 rcases Nat.lt_or_ge b s.heap.objs.size with q|q
 ·exact q
 ·exact absurd (R.fresh b q) o
theorem Rep.push(R:Rep w sA g S s)(o:Obj):Rep w sA g S {s with heap:=s.heap.push o,toks:=tk₀}/\Ext noX g s.heap g (s.heap.push o):=R.touch λb q=>gK0 (R.ltOf q)
theorem Rep.grow(R:Rep w sA g S s)(k:∀b o,s.heap.get? b=some o->h'.get? b=some o):Rep w sA g S {s with heap:=h',toks:=tk₀}/\Ext noX g s.heap g h':=R.touch λb q=>by refine e11 (Option.isSome_iff_exists.mp (R.live b q)) λo e=> ?_;rw[e];exact k b o e
theorem Rep.pushOwn(R:Rep w sA g S s)(o:Obj)(ow:Own)(nf:o.isFreed=false:=by rfl):Rep w sA (g.put s.heap.objs.size ow) S {s with heap:=s.heap.push o,toks:=tk₀}/\Ext noX g s.heap (g.put s.heap.objs.size ow) (s.heap.push o):=by refine e02 (R.push (tk₀:=tk₀) o) λR' x=> ?_;obtain⟨RB,xB⟩:=R'.own (R.fresh _ (Nat.le_refl _)) (by show((s.heap.push o).get? s.heap.objs.size).isSome=true;rw[Heap.get?_push_size _ nf];rfl) ow;exact⟨RB,x.trans xB⟩
theorem Rep.newTup(R:Rep w sA g S s)(r:RVs w g s.heap l vs)(z:vs.length<=1000000):∃g',Ext noX g s.heap g' (s.heap.push {cls:= .type "tuple",data:= .seq vs.toArray})/\
  Rep w sA g' S {s with heap:=s.heap.push {cls:= .type "tuple",data:= .seq vs.toArray},toks:=tk₀}/\RV w g' (s.heap.push {cls:= .type "tuple",data:= .seq vs.toArray}) (.tup l) (.ref s.heap.objs.size):=by
 refine e02 (R.pushOwn (tk₀:=tk₀) {cls:= .type "tuple",data:= .seq vs.toArray} .keep) λR' x=> ?_;exact⟨_,x,R',_,vs.toArray,0,rfl,gC1,Heap.get?_push_size _ rfl,by simpa using z,by simpa using r.mono x⟩
theorem Rep.newLst(R:Rep w sA g S s)(r:RVs w g s.heap l vs)(z:vs.length<=1000000):∃g',Ext noX g s.heap g' (s.heap.push {cls:= .type "list",data:= .seq vs.toArray})/\
  Rep w sA g' (S.new (.lst l)) {s with heap:=s.heap.push {cls:= .type "list",data:= .seq vs.toArray},toks:=tk₀}/\RV w g' (s.heap.push {cls:= .type "list",data:= .seq vs.toArray}) (.loc S.n) (.ref s.heap.objs.size):=by
 refine e02 (R.pushOwn (tk₀:=tk₀) {cls:= .type "list",data:= .seq vs.toArray} (.mut S.n)) λR' x=> ?_;refine e02 (R'.place (a:=s.heap.objs.size) (o:= .lst l) λxB=>⟨_,vs.toArray,if_pos rfl,gC1,⟨0,Heap.get?_push_size _ rfl⟩,by simpa using z,by simpa using r.mono (x.trans xB)⟩) λRB xB=> ?_;exact⟨_,x.trans xB,RB,_,rfl,if_pos rfl⟩
theorem Rep.priv(R:Rep w sA g S s)(o:Obj)(nf:o.isFreed=false:=by rfl):Rep w sA (g.put s.heap.objs.size .priv) S {s with heap:=s.heap.push o,toks:=tk₀}/\Ext noX g s.heap (g.put s.heap.objs.size .priv) (s.heap.push o)/\(g.put s.heap.objs.size .priv).own s.heap.objs.size= .priv:=⟨(R.pushOwn o _ nf).1,(R.pushOwn (tk₀:=tk₀) o _ nf).2,gC1⟩
theorem Rep.turn(R:Rep w sA g S s){b:Addr}(hs:Heap.SameBut b s.heap h')(ob:g.own b= .mut k\/g.own b= .mutD k)(lb:(h'.get? b).isSome=true)(hn:k<S.n){o:O}(p:Ext noX g s.heap g h'->PlR w g h' k o):
  Rep w sA g (S.upd k o) {s with heap:=h',toks:=tk₀}/\Ext noX g s.heap g h':=by
 have ne:∀c o',g.own c=o'->o'≠ .mut k->o'≠ .mutD k->c≠b:=by rintro c o' e n1 n2 rfl;rcases ob with q|q<;>(rw[e]at q;contradiction)
 have x:Ext noX g s.heap g h':=⟨λc q=>⟨q,hs.2 c (ne c _ q (by nofun) (by nofun))⟩,λc q=>⟨q,λδ=>hs.2 c (ne c _ q (by nofun) (by nofun))⟩,λδ δ q=>q⟩
 refine⟨R.upd x hn (λj nj c q=>⟨rfl,hs.2 c ?_⟩) (λc q=>(by by_cases n:c=b;(rw[n];exact lb);(rw[hs.2 c n];exact R.live c q))) (λj q=>(R.emp j q).2) (p x),x⟩;rcases q with q|q
 ·exact ne c _ q (by intro e;cases e;exact nj rfl) (by nofun)
 ·exact ne c _ q (by nofun) (by intro e;cases e;exact nj rfl)
end
inductive LocX(w:World)(g:Gh)(h:Heap)(env:Env)(m:Lo):Prop
 |mk (mm:Str->Option Value):h.Ns env.locals mm->g.own env.locals= .priv->(∀x v,m x=some v->env.kindOf (nm x)=some .local->∃y,mm (nm x)=some y/\RV w g h v y)->LocX w g h env m
inductive CelX(w:World)(g:Gh)(h:Heap)(env:Env)(x:Nat)(v:V):Prop
 |mk (c:Addr) (y:Value):env.cells.lookup (nm x)=some c->h.IsCell c (some y)->RV w g h v y->CelX w g h env x v
inductive CellX(g:Gh)(h:Heap)(env:Env)(n:Str):Prop
 |mk (c:Addr) (v:Option Value):env.cells.lookup n=some c->g.own c= .priv->h.IsCell c v->CellX g h env n
structure VarR(w:World)(g:Gh)(h:Heap)(env:Env)(m:Lo):Prop where
 fn:env.scope.kind= .function
 gl:env.globals=mainGlobals
 bl:env.builtins=builtinsNs
 loc:LocX w g h env m
 cel:∀x v,m x=some v->env.kindOf (nm x)=some .cell->CelX w g h env x v
 cells:∀n,env.kindOf n=some .cell->CellX g h env n
 apart:∀n c,env.cells.lookup n=some c->c≠env.locals
 inj:∀n n' c,env.cells.lookup n=some c->env.cells.lookup n'=some c->n=n'
noncomputable def hI7(env:Env):Addr->Prop:=λa=>a=env.locals\/∃n,env.kindOf n=some .cell/\env.cells.lookup n=some a
theorem VarR.mono{w:World}{g g':Gh}{h h':Heap}{env:Env}{m:Lo}(V:VarR w g h env m)(x:Ext noX g h g' h'):VarR w g' h' env m:=by
 obtain⟨mm,n,o,q⟩:=V.loc;refine⟨V.fn,V.gl,V.bl,⟨mm,Ns.same ((x.priv _ o).2 id) n,(x.priv _ o).1,λy v e k=> ?_⟩,λy v e k=> ?_,λn k=> ?_,V.apart,V.inj⟩
 ·obtain⟨z,a,b⟩:=q y v e k;exact⟨z,a,b.mono x⟩
 ·obtain⟨c,z,a,⟨ob,e1,e2⟩,r⟩:=V.cel y v e k;obtain⟨c',v',p1,p2,p3⟩:=V.cells _ k;rw[a]at p1;cases p1;exact⟨c,z,a,⟨ob,((x.priv _ p2).2 id).trans e1,e2⟩,r.mono x⟩
 ·obtain⟨c',v',p1,p2,⟨ob,e1,e2⟩⟩:=V.cells _ k;exact⟨c',v',p1,(x.priv _ p2).1,ob,((x.priv _ p2).2 id).trans e1,e2⟩
noncomputable def AOk(A:Around)(f:Nat):Prop:=A.depth+f<950/\A.units+6*f<9000/\A.handled=none
theorem AOk.less{A:Around}{f f':Nat}(h:AOk A f)(l:f'<=f):AOk A f':=⟨by have:=h.1;(exact lK6 l this),lK7 l h.2.1,h.2.2⟩
structure Bg(w:World)(sA:Shared):Prop where
 k:(Mine.K w.params).In sA.heap
 lim:sA.heap.NoLimit
 b:∃mb,sA.heap.Ns builtinsNs mb/\∀x:Str,x≠ "__name__"->mb x=bootBuiltins x
 low:2<sA.heap.objs.size
noncomputable abbrev Pst(w:World)(sA:Shared)(g:Gh)(h:Heap)(v:V)(S':St)(Q:VP):Prop:=∀g' y s',Ext noX g h g' s'.heap->Rep w sA g' S' s'->RV w g' s'.heap v y->Q y s'
noncomputable def gP3(w:World)(sA:Shared)(T:Txt)(f:Nat):Prop:=∀ {n:Nat}{me:ME}{e:XE}{env:Env}{m:Lo}{S S':St}{v:V}{g:Gh}{s:Shared}{A:Around}{E:VP}{Q:VP},
 ckE n env.scope.names me e=true->evE T f me m S=some (v,S')->Rep w sA g S s->VarR w g s.heap env m->AOk A f->Pst w sA g s.heap v S' Q->wpAny (model PP w) A (eval e env) Q E s
noncomputable def jI2(w:World)(sA:Shared)(T:Txt)(f:Nat):Prop:=∀ {n:Nat}{me:ME}{e:XE}{env:Env}{m:Lo}{S S':St}{b:Bool}{g:Gh}{s:Shared}{A:Around}{E:VP}{Q:Bool->Shared->Prop},
 ckE n env.scope.names me e=true->evE T f me m S=some (.bool b,S')->Rep w sA g S s->VarR w g s.heap env m->AOk A f->(∀g' s',Ext noX g s.heap g' s'.heap->Rep w sA g' S' s'->Q b s')->wpAny (model PP w) A (isTrue e env (eval e env)) Q E s
noncomputable def gV7(w:World)(sA:Shared)(T:Txt)(f:Nat):Prop:=∀ {n:Nat}{l:List ME}{es:List XE}{pos:Pos}{env:Env}{m:Lo}{S S':St}{vs:List V}{g:Gh}{s:Shared}{A:Around}{E:VP}{Q:List Value->Shared->Prop},
 gP4 n env.scope.names l es=true->gG4 T f l m S=some (vs,S')->Rep w sA g S s->VarR w g s.heap env m->AOk A f->(∀g' ys s',Ext noX g s.heap g' s'.heap->Rep w sA g' S' s'->RVs w g' s'.heap vs ys->Q ys s')->wpAny (model PP w) A (spliced (backTo pos (starEach es env))) Q E s
noncomputable def iT1(w:World)(sA:Shared)(T:Txt)(f:Nat):Prop:=∀ {i:Nat}{args:List V}{ys:List Value}{S S':St}{v:V}{g:Gh}{s:Shared}{A:Around}{R:Result->Shared->Prop},
 i<faL.length->gA4 T f i args S=some (v,S')->Rep w sA g S s->RVs w g s.heap args ys->AOk A f->Pst w sA g s.heap v S' (λy s'=>R (.ok (.ret y)) s')->codeAny (model PP w) A (.call (.ref (fa i)) ⟨ys,[]⟩) R s
theorem jQ7(P:Params):gtab.map (λp=>nsIn (Mine.K P) 3 p.1)=gtab.map λp=>some (some p.2):=by kernel_rfl
noncomputable def outL:List String:=["len","int","sum","sorted","tuple","list","dict","str","chr","min","bytes","isinstance","range","enumerate","reversed","bool"]
noncomputable def outV:List Value:=[.builtin "len",.type "int",.builtin "sum",.builtin "sorted",.type "tuple",.type "list",.type "dict",.type "str",.builtin "chr",.builtin "min",.type "bytes",.builtin "isinstance",.type "range",.type "enumerate",.type "reversed",.type "bool"]
theorem iV8(P:Params):outL.map (λn=>nsIn (Mine.K P) 3 (Str.ofString n))=outL.map λδ=>some none:=by kernel_rfl
theorem iW0:outL.map (λn=>bootBuiltins (Str.ofString n))=outV.map some:=by kernel_rfl
theorem iV9:(outL.all λn=>Str.ofString n !=("__name__":Str))=true:=by decide+kernel
section
variable{w:World}{sA:Shared}{g g':Gh}{S S':St}{s s':Shared}{A:Around}{E:VP}{Q:VP}{env:Env}{m:Lo}
theorem Rep.K(R:Rep w sA g S s)(B:Bg w sA):(Mine.K w.params).In s.heap:=B.k.keeps R.stays
set_option tactic.hygienic true in
theorem hD5{n:Str}{v:Value}:∀ {l:List (Str×Value)},l.lookup n=some v->(n,v)∈l
 | [],h=>nomatch h
 |(y,e)::r,h=>by
  rw[gG5]at h
  split at h
  ·rename_i q;cases h;rw[bE q];exact mS
  ·exact mO _ (hD5 h)
theorem hK8{α β:Type}{f g:α->β}:∀ {l:List α},l.map f=l.map g->∀x∈l,f x=g x
 | [],_,x,h=>gQ0 h
 |y::r,e,x,h=>by
  rw[List.map_cons,List.map_cons]at e;injection e with e1 e2
  rcases mC h with rfl|h
  ·exact e1
  ·exact hK8 e2 x h
theorem hT0(B:Bg w sA)(R:Rep w sA g S s)(V:VarR w g s.heap env m){n:Str}{v:Value}(c:iA7 env.scope.names n v=true)(h:Q v s)(pos:Pos):wpAny (model PP w) A (eval (.Name n pos) env) Q E s:=by simp only[iA7,iL3,Bool.and_eq_true,beq_iff_eq,bne_iff_ne,ne_eq]at c;obtain⟨⟨c1,c2⟩,c3⟩:=c;refine Name_function_global V.fn c1 ?_ (by simpa using c3);unfold loadGlobal;rw[V.gl];have:=hK8 (jQ7 w.params) (n,v) (hD5 c2);refine wpAny_bind ((looks_nsIn (R.K B) this).here ?_);exact wpAny_pure h
theorem gY7{α β γ:Type}{f:α->γ}{g:β->γ}:∀ {l:List α}{k:List β},l.map f=k.map g->∀ {i:Nat}{a:α},l[i]?=some a->∃b,k[i]?=some b/\f a=g b
 | [],_,_,_,_,h=>by simp at h
 |a::l,[],e,_,_,_=>by simp at e
 |a::l,b::k,e,i,x,h=>by
  rw[List.map_cons,List.map_cons]at e;injection e with e1 e2
  cases i with
  |zero=>simp at h;subst h;exact⟨b,rfl,e1⟩
  |succ i=>simp at h;obtain⟨y,p,q⟩:=gY7 e2 h;exact⟨y,by simpa using p,q⟩
theorem gP8(B:Bg w sA)(R:Rep w sA g S s)(V:VarR w g s.heap env m){n:Str}{i:Nat}{o:String}{v:Value}(hi:outL[i]?=some o)(hv:outV[i]?=some v)(c:gY5 env.scope.names n o=true)(h:Q v s)(pos:Pos):wpAny (model PP w) A (eval (.Name n pos) env) Q E s:=by simp only[gY5,iL3,Bool.and_eq_true,beq_iff_eq,Bool.not_eq_true',List.map_cons,List.map_nil,List.contains_cons,Bool.or_eq_false_iff]at c;obtain⟨⟨⟨c1,c2⟩,rfl⟩,c4⟩:=c;refine Name_function_global V.fn c1 ?_ (by simpa using c4.2.2.2.2.2.2.2.2.2.1);have q1:=hK8 (iV8 w.params) o (List.mem_of_getElem? hi);refine e12 (gY7 iW0 hi) λb e1 e2=> ?_;rw[hv]at e1;cases e1;have q3:=List.all_eq_true.mp iV9 o (List.mem_of_getElem? hi);refine e12 (B.b) λmb b1 b2=> ?_;unfold loadGlobal;rw[V.gl,V.bl];refine wpAny_bind ((looks_nsIn (R.K B) q1).here ?_);refine wpAny_bind (wpAny_nsGet (b1.keeps R.stays) ?_);rw[b2 _ (by simpa using q3),e2];exact wpAny_pure h
theorem kM5{v:V}{q:Const×Nat×Pos}(R:Rep w sA g S s)(c:kN3 v q.1=true)(h:Pst w sA g s.heap v S Q):wpAny (model PP w) A (eval (.Constant q.1 q.2.1 q.2.2) env) Q E s:=by
 obtain⟨k,n,p⟩:=q
 cases k<;>first
  |exact ff c
  |(cases gL3 c;exact Constant_none (h g _ _ (.refl _ _ _) R rfl))
  |(cases gM1 (bE c);exact Constant_bool (h g _ _ (.refl _ _ _) R rfl))
  |(cases gD7 (bE c);exact wpAny_Constant_int (h g _ _ (.refl _ _ _) (R.tk _) ⟨_,rfl⟩))
  |skip
 ·exact an c λc d=>by cases gK6 (bE c);have d:=oX d;exact wpAny_Constant_str (h g _ _ (.refl _ _ _) (R.tk _) ⟨_,_,rfl,rfl,by(exact Nat.le_trans d (Nat.le_add_left 1000 999000))⟩)
 ·exact an c λc d=>by cases gD6 (bE c);have d:=oX d;refine show wpAny _ _ (mkTextBytes _) _ _ _ from wpAny_mkTextBytes (h g _ _ (.refl _ _ _) (R.tk _) ⟨_,_,rfl,?_,by rw[List.length_map];(exact Nat.le_trans d (Nat.le_add_left 1000 999000))⟩);simp
theorem kG1{v:V}{e:XE}(R:Rep w sA g S s)(c:hS1 v e=true)(h:Pst w sA g s.heap v S Q):wpAny (model PP w) A (eval e env) Q E s:=by
 unfold hS1 at c
 cases d:jA3 e with
 |some q=>rw[d]at c;exact hE4 (G:=λe=>wpAny (model PP w) A (eval e env) Q E s) d (kM5 R c h)
 |none=>
  rw[d]at c;refine gB2 c λq d c=>hR6 (G:=λe=>wpAny (model PP w) A (eval e env) Q E s) d (an c λc1 c=>gB2 c λz d c=> ?_);rw[bE c1];refine wpAny_UnaryOp (hE4 (G:=λe=>wpAny (model PP w) A (eval e env) _ E s) d ?_);obtain⟨k,n,p⟩:=z;cases k<;>first|exact ff c|skip
  have c:=gD7 (bE c);subst c;exact wpAny_Constant_int (PyProof.Rows.neg_int (h g _ _ (.refl _ _ _) (R.tk _) ⟨_,rfl⟩))
theorem jN3{sc:NKs}{x:Nat}{e:XE}{G:XE->Prop}(c:jX0 sc x e=true)(k:∀p,gS7 sc (nm x)=true->nm x≠("__debug__":Str)->G (.Name (nm x) p)):G e:=
 gB2 c λq d c=>gL7 d (an c λc c3=>an c λc1 c2=>by
  have c1:=bE c1;rw[c1]at c2 c3⊢
  exact k q.2 c2 (bne_iff_ne.mp c3))
theorem jX8{x:Nat}{t:XE}{v:V}(R:Rep w sA g S s)(V:VarR w g s.heap env m)(c:jX0 env.scope.names x t=true)(e:m x=some v)(h:Pst w sA g s.heap (norm S v) S Q):wpAny (model PP w) A (eval t env) Q E s:=by
 refine jN3 (G:=λe=>wpAny (model PP w) A (eval e env) Q E s) c λp c2 c3=> ?_;refine wpAny_Name ?_ (by simpa using c3);refine hQ9 c2 (λk=> ?_) λk=> ?_
 ·obtain⟨mm,n,o,q⟩:=V.loc;refine e12 (q x v e k) λy e1 e2=> ?_;exact wpAny_loadName_local V.fn k n e1 (h g _ _ (.refl _ _ _) R (R.norm e2))
 ·obtain⟨c,y,e1,e2,e3⟩:=V.cel x v e k;exact wpAny_loadName_cell V.fn k e1 e2 (h g _ _ (.refl _ _ _) R (R.norm e3))
end
section
variable{w:World}{sA:Shared}{g g':Gh}{S S':St}{s s':Shared}{A:Around}{E:VP}{Q:VP}{env:Env}{m:Lo}
theorem lU6:cLine=9900:=by decide+kernel
theorem hS7:∀ {a b:List UInt8},a.map UInt8.toNat=b.map UInt8.toNat->a=b
 | [],[],_=>rfl
 | [],_::_,e=>by simp at e
 |_::_,[],e=>by simp at e
 |x::a,y::b,e=>by simp only[List.map_cons,List.cons.injEq]at e;rw[UInt8.toNat_inj.mp e.1,hS7 e.2]
theorem kS9{b c:Array UInt8}{x y:List Nat}(p:b.toList.map UInt8.toNat=x)(q:c.toList.map UInt8.toNat=y):(b.toList==c.toList)=(x==y):=by rw[Bool.eq_iff_iff,beq_iff_eq,beq_iff_eq,←p,←q];exact⟨λe=>by rw[e],hS7⟩
theorem kM4{a b:Str}{x y:List Nat}(p:a.cps.toList=x)(q:b.cps.toList=y):(a==b)=(x==y):=by rw[Bool.eq_iff_iff,beq_iff_eq,beq_iff_eq,←p,←q];exact⟨λe=>by rw[e],λe=>by cases a;cases b;simp only[Str.mk.injEq];exact Array.toList_inj.mp e⟩
theorem hH7{a b:Str}(e:a.cps.toList=b.cps.toList):a=b:=by cases a;cases b;simp only[Str.mk.injEq];exact Array.toList_inj.mp e
theorem iY3{i:Int}{a b:Value}(ra:RV w g s.heap (.int i) a)(rb:RV w g s.heap (.int i) b):SeqAt.EqAt A s a b true:=by obtain⟨t,rfl⟩:=ra;obtain⟨t',rfl⟩:=rb;have:=SeqAt.EqAt.int_int (A:=A) (s:=s) i t i t';rwa[beq_self_eq_true]at this
theorem iU5{i:List Nat}{a b:Value}(ra:RV w g s.heap (.str i) a)(rb:RV w g s.heap (.str i) b):SeqAt.EqAt A s a b true:=by obtain⟨p,t,rfl,h1,_⟩:=ra;obtain⟨q,t',rfl,h2,_⟩:=rb;cases hH7 (h1.trans h2.symm);exact λprog w E Q hq=>wpAny_eqBool_str (by simpa using hq)
theorem jB3{i:List Nat}{a b:Value}(ra:RV w g s.heap (.bytes i) a)(rb:RV w g s.heap (.bytes i) b):SeqAt.EqAt A s a b true:=by obtain⟨p,t,rfl,h1,_⟩:=ra;obtain⟨q,t',rfl,h2,_⟩:=rb;have:p.toList=q.toList:=hS7 (h1.trans h2.symm);exact λprog w E Q hq=>eqBool_bytes (by simpa [this]using hq)
theorem iT6{f:Nat}{x y:List V}{a b:Value}(ra:RV w g s.heap (.tup x) a)(rb:RV w g s.heap (.tup y) b)(u:A.units+(f+1)<cLine)
  (h:∀ {a b:List Value}{A:Around},RVs w g s.heap x a->RVs w g s.heap y b->A.units+f<cLine->a.length=b.length/\∀(j:Nat) (p q:Value),a[j]?=some p->b[j]?=some q->SeqAt.EqAt A s p q true):SeqAt.EqAt A s a b true:=by
 obtain⟨p,its,n,rfl,_,h1,_,r1⟩:=ra;obtain⟨q,its',n',rfl,_,h2,_,r2⟩:=rb
 by_cases ne:p=q
 ·subst ne;exact SeqAt.EqAt.same _
 ·obtain⟨l,at_⟩:=h r1 r2 (A:=A.in1) (by show A.units+1+f<cLine;(exact nl3 (nl5 u) rfl));have:=SeqAt.RcAt.tuples (A:=A) (s:=s) (l:=p) (b:=q) (e:=λδ=>true) ⟨_,h1,rfl,n,rfl⟩ ⟨_,h2,rfl,n',rfl⟩ (by(exact nl3 (nl9 u) rfl)) (λj j1 j2=>at_ j _ _ (by rw[Array.getElem?_toList];exact Array.getElem?_eq_getElem j1) (by rw[Array.getElem?_toList];exact Array.getElem?_eq_getElem j2));rw[show its.size=its'.size from l]at this;refine SeqAt.EqAt.of_refs ne ?_;rwa[show((List.range (min its'.size its'.size)).all λδ=>true)=true from List.all_eq_true.mpr λδ δ=>rfl,beq_self_eq_true]at this
mutual
theorem jK6:∀(f:Nat){x y:V}{a b:Value}{A:Around},same f x y=true->RV w g s.heap x a->RV w g s.heap y b->A.units+f<cLine->SeqAt.EqAt A s a b true
 |0,_,_,_,_,_,e,_,_,_=>ff e
 |f+1,.none,y,a,b,A,e,ra,rb,u=>by cases gL3 e;cases ra;cases rb;exact SeqAt.EqAt.same _
 |f+1,.int i,y,a,b,A,e,ra,rb,u=>by cases gD7 (bE e);exact iY3 ra rb
 |f+1,.str i,y,a,b,A,e,ra,rb,u=>by cases gK6 (bE e);exact iU5 ra rb
 |f+1,.bytes i,y,a,b,A,e,ra,rb,u=>by cases gD6 (bE e);exact jB3 ra rb
 |f+1,.tup l,y,a,b,A,e,ra,rb,u=>by
  cases q:tOf y with
  |none=>exact ff (by have e:(match tOf y with|some b=>gF4 f l b|none=>false)=true:=e;rwa[q]at e)
  |some l'=>cases gI8 q;exact iT6 ra rb u λr1 r2 u=>hF4 f e r1 r2 u
 |f+1,.bool _,y,a,b,A,e,ra,rb,u=>ff e
 |f+1,.lst _,y,a,b,A,e,ra,rb,u=>ff e
 |f+1,.dct _ _,y,a,b,A,e,ra,rb,u=>ff e
 |f+1,.ob _ _ _,y,a,b,A,e,ra,rb,u=>ff e
 |f+1,.loc _,y,a,b,A,e,ra,rb,u=>ff e
theorem hF4:∀(f:Nat){x y:List V}{a b:List Value}{A:Around},gF4 f x y=true->RVs w g s.heap x a->RVs w g s.heap y b->A.units+f<cLine->a.length=b.length/\∀(j:Nat) (p q:Value),a[j]?=some p->b[j]?=some q->SeqAt.EqAt A s p q true
 |0,_,_,_,_,_,e,_,_,_=>ff e
 |f+1,[],[],a,b,A,e,ra,rb,u=>by cases ra;cases rb;exact⟨rfl,λj p q e=>nn e⟩
 |f+1,[],_::_,a,b,A,e,ra,rb,u=>ff e
 |f+1,_::_,[],a,b,A,e,ra,rb,u=>ff e
 |f+1,x::r,y::q,a,b,A,e,ra,rb,u=>by
  have e:same f x y=true/\gF4 f r q=true:=by rw[←Bool.and_eq_true];exact e
  obtain⟨a1,as,rfl,p1,p2⟩:=ra;obtain⟨b1,bs,rfl,q1,q2⟩:=rb;obtain⟨l,t⟩:=hF4 f e.2 p2 q2 (A:=A) (by(exact Nat.le_trans (Nat.le_succ (A.units+f).succ) u));refine⟨by rw[List.length_cons,List.length_cons,l],λj p q e1 e2=> ?_⟩
  cases j with
  |zero=>cases e1;cases e2;exact jK6 f e.1 p1 q1 (by(exact Nat.le_trans (Nat.le_succ (A.units+f).succ) u))
  |succ j=>exact t j p q e1 e2
end
theorem iZ4(V:VarR w g s.heap env m):∃mm,Fr ({}:Heap) env.locals s.heap mm:=by obtain⟨mm,n,_⟩:=V.loc;exact⟨mm,n,λb o e=>by simp[Heap.get?]at e,Nat.zero_le _⟩
theorem iI8{L:Addr}{h:Heap}:News ({}:Heap) L h []:=λp hp=>nomatch hp
set_option tactic.hygienic true in
theorem iD7{a:Int}(h:a.natAbs<1000000000000000000):Builtin.Int.intBits a<=64:=by
 unfold Builtin.Int.intBits
 split
 ·(exact Nat.le_trans (Nat.le_refl 0) (Nat.le_add_left 0 64))
 ·rename_i n;have n:a.natAbs≠0:=by simpa using n
  have:a.natAbs.log2<60:=(Nat.log2_lt n).mpr (by(exact Nat.le_trans h (Nat.le_add_left 1000000000000000000 152921504606846976)))
  (exact Nat.le_trans this (Nat.le_add_left 60 4))
theorem jW0{x z:Int}{a b:Value}(ra:RV w g s.heap (.int x) a)(rb:RV w g s.heap (.int z) b)(R:Rep w sA g S s)(h:Pst w sA g s.heap (.int (x+z)) S Q):wpAny (model PP w) A (binaryOp .Add a b) Q E s:=by obtain⟨t,rfl⟩:=ra;obtain⟨t',rfl⟩:=rb;exact PyProof.Rows.add_int (h g _ _ (.refl _ _ _) (R.tk _) ⟨_,rfl⟩)
theorem jW1{x z:List Nat}{a b:Value}(k:small (x.length+z.length)=true)(ra:RV w g s.heap (.bytes x) a)(rb:RV w g s.heap (.bytes z) b)(R:Rep w sA g S s)(h:Pst w sA g s.heap (.bytes (x++z)) S Q):wpAny (model PP w) A (binaryOp .Add a b) Q E s:=by
 obtain⟨p,t,rfl,h1,l1⟩:=ra;obtain⟨q,t',rfl,h2,l2⟩:=rb;have k:=oX k;have p1:p.size=x.length:=by rw[←h1,List.length_map,Array.length_toList]
 have p2:q.size=z.length:=by rw[←h2,List.length_map,Array.length_toList]
 have l:((p++q).toList.map UInt8.toNat)=x++z:=by rw[←h1,←h2,Array.toList_append,List.map_append]
 exact KBy.add_bytes (by rw[p1,p2];exact hD4 (Nat.le_of_lt k) rfl) λt' k'=>h g _ _ (.refl _ _ _) (R.tk _) ⟨_,_,rfl,l,by rw[List.length_append];(exact Nat.le_trans (Nat.le_succ (x.length+z.length)) k)⟩
theorem jV9{x z:List V}{a b:Value}(k:x.length+z.length<=16384)(ra:RV w g s.heap (.tup x) a)(rb:RV w g s.heap (.tup z) b)(R:Rep w sA g S s)(V:VarR w g s.heap env m)(h:Pst w sA g s.heap (.tup (x++z)) S Q):wpAny (model PP w) A (binaryOp .Add a b) Q E s:=by
 obtain⟨p,its,n,rfl,o1,h1,z1,r1⟩:=ra;obtain⟨q,its',n',rfl,o2,h2,z2,r2⟩:=rb;have s1:=r1.length;have s2:=r2.length;rw[Array.length_toList]at s1 s2;obtain⟨mm,F⟩:=iZ4 V;have nl:∀ {l:List Mine.V},RVs w g s.heap l []->l=[]:=λr=>List.length_eq_zero_iff.mp r.length.symm
 by_cases c1:its.toList=[]
 ·refine kde_addT0 F iI8 ⟨_,h1,rfl,n,rfl⟩ ⟨_,h2,rfl,n',rfl⟩ c1 (by simp;rw[s1,s2];exact hD4 k rfl) (h g _ _ (.refl _ _ _) R ?_);rw[c1]at r1;cases nl r1;exact⟨_,_,_,rfl,o2,h2,z2,r2⟩
 ·by_cases c2:its'.toList=[]
  ·refine kde_addT1 F iI8 ⟨_,h1,rfl,n,rfl⟩ ⟨_,h2,rfl,n',rfl⟩ c1 c2 (by simp;rw[s1,s2];exact hD4 k rfl) (h g _ _ (.refl _ _ _) R ?_);rw[c2]at r2;cases nl r2;rw[List.append_nil];exact⟨_,_,_,rfl,o1,h1,z1,r1⟩
  ·have E1:¬its.isEmpty=true:=by simpa using c1
   have E2:¬its'.isEmpty=true:=by simpa using c2
   refine PySem.P.add_tuple h1 h2 E1 E2 ?_ (by rw[sizeLine_eq,s1,s2];exact hD4 k rfl);obtain⟨g',x',R',r'⟩:=R.newTup (tk₀:=s.toks) (r1.append r2) (by rw[List.length_append,Array.length_toList,Array.length_toList,s1,s2];exact hD4 k rfl);have:(its.toList++its'.toList).toArray=its++its':=by simp
   rw[this]at x' R' r';exact h g' _ _ x' R' r'
theorem kP4{a b v:V}{x y:Value}(e:lI2 a b=some v)(R:Rep w sA g S s)(V:VarR w g s.heap env m)(ra:RV w g s.heap a x)(rb:RV w g s.heap b y)(h:Pst w sA g s.heap v S Q):wpAny (model PP w) A (binaryOp .Add x y) Q E s:=by
 cases a<;>first
  |exact nn e
  |exact bd e λz q e'=>by rw[gD7 q]at rb;exact jW0 ra rb R (sS (G:=λv=>Pst w sA g s.heap v S Q) e'.symm h)
  |exact bd e λz q e'=>ifs e' λk e'=>by rw[gD6 q]at rb;exact jW1 k ra rb R (sS (G:=λv=>Pst w sA g s.heap v S Q) e'.symm h)
  |exact bd e λz q e'=>ifs e' λk e'=>by rw[gI8 q]at rb;exact jV9 k ra rb R V (sS (G:=λv=>Pst w sA g s.heap v S Q) e'.symm h)
theorem iY4{a b:V}{x y:Value}{v:V}{o:Operator}{f:Int->Int->Option V}(e:ii a b f=some v)(ra:RV w g s.heap a x)(rb:RV w g s.heap b y)(R:Rep w sA g S s)(h:Pst w sA g s.heap v S Q)
  (k:∀i j t t',f i j=some v->(∀n:Int,v= .int n->∀tk,Q (.int n tk) {s with toks:=s.toks+1})->wpAny (model PP w) A (binaryOp o (.int i t) (.int j t')) Q E s):wpAny (model PP w) A (binaryOp o x y) Q E s:=by
 revert ra rb;refine hG6 (G:=λa b=>RV w g s.heap a x->RV w g s.heap b y->wpAny (model PP w) A (binaryOp o x y) Q E s) e λi j e=> ?_;rintro ⟨t,rfl⟩ ⟨t',rfl⟩;exact k i j t t' e λn q tk=>h g _ _ (.refl _ _ _) (R.tk _) (q▸⟨_,rfl⟩)
theorem jB7{op:BOp}{o:Operator}{a b v:V}{x y:Value}(c:lH7 op o=true)(e:hI0 op a b=some v)(R:Rep w sA g S s)(V:VarR w g s.heap env m)(ra:RV w g s.heap a x)(rb:RV w g s.heap b y)
  (h:Pst w sA g s.heap v S Q):wpAny (model PP w) A (binaryOp o x y) Q E s:=by
 rw[oX c]
 cases op with
 |add=>exact kP4 e R V ra rb h
 |sub=>exact iY4 e ra rb R h λi j t t' e k=>PyProof.Rows.sub_int (k _ (Option.some.inj e).symm _)
 |mul=>
  refine iY4 e ra rb R h λi j t t' e k=>ifs e λc e=>PyProof.Rows.mul_int (k _ (Option.some.inj e).symm _) ?_;unfold IntMulOk;have b1:=iD7 c.1;intro q;simp only[Bool.and_eq_true,decide_eq_true_eq]at q;have q1:64<Builtin.Int.intBits _:=q.1.1
  lia
 |fdiv=>exact iY4 e ra rb R h λi j t t' e k=>ifs e λc e=>PyProof.Rows.floordiv_int c.1 (k _ (Option.some.inj e).symm _) (.inl (PyProof.noPylong_small (Nat.lt_trans c.2 (by decide))))
 |mod=>exact iY4 e ra rb R h λi j t t' e k=>ifs e λc e=>PyProof.Rows.mod_int' c (k _ (Option.some.inj e).symm _)
end
section
variable{w:World}{sA:Shared}{g g':Gh}{S S':St}{s s':Shared}{h:Heap}{A:Around}{E:VP}{Q:VP}{env:Env}{m:Lo}
inductive LstV(w:World)(g:Gh)(h:Heap)(l:List V)(x:Value):Prop
 |mk (a:Addr) (its:Array Value):x= .ref a->h.PlainList a its->its.size<=1000000->RVs w g h l its.toList->LstV w g h l x
inductive DctV(w:World)(g:Gh)(h:Heap)(ks vs:List V)(x:Value):Prop
 |mk (a:Addr) (vals:List Value):x= .ref a->DK w h a ks vals->ks.length<=1000000->RVs w g h vs vals->DctV w g h ks vs x
inductive InsV(w:World)(g:Gh)(h:Heap)(c:Nat)(ns:List Nat)(vs:List V)(x:Value):Prop
 |mk (a d:Addr) (vals:List Value):x= .ref a->jQ0 c ns->h.get? a=some (instObj (cl c) d)->h.Ns d (asc ns vals)->vals.length=ns.length->RVs w g h vs vals->InsV w g h c ns vs x
theorem gU8(R:Rep w sA g S s){k:Nat}{o:O}{x:Value}(r:RV w g s.heap (.loc k) x)(hk:S.h k=some o):∃a,x= .ref a/\g.rho k=some a/\PlR w g s.heap k o:=by refine e12 r λa e ra=> ?_;exact⟨a,e,ra,R.pl _ _ hk⟩
theorem gE2{v:V}{x:Value}{l:List V}(R:Rep w sA g S s)(e:gD4 S v=some l)(r:RV w g s.heap v x):LstV w g s.heap l x:=by
 revert r;refine gS9 (G:=λv=>RV w g s.heap v x->LstV w g s.heap l x) e (λr=> ?_) λk hk r=> ?_
 ·obtain⟨a,its,e,_,q1,q2,q3⟩:=r;exact⟨a,its,e,q1,q2,q3⟩
 ·obtain⟨a,e,ra,b,its,q1,_,q2,q3,q4⟩:=gU8 R r hk;rw[ra]at q1;cases q1;exact⟨a,its,e,q2,q3,q4⟩
theorem gK1{v:V}{x:Value}{p:List V×List V}(R:Rep w sA g S s)(e:getD S v=some p)(r:RV w g s.heap v x):DctV w g s.heap p.1 p.2 x:=by
 revert r;refine gG8 (G:=λv=>RV w g s.heap v x->DctV w g s.heap p.1 p.2 x) e (λr=> ?_) λk hk r=> ?_
 ·obtain⟨a,its,e,_,q1,q2,q3⟩:=r;exact⟨a,its,e,q1,q2,q3⟩
 ·obtain⟨a,e,ra,b,its,q1,_,q2,q3,q4⟩:=gU8 R r hk;rw[ra]at q1;cases q1;exact⟨a,its,e,q2,q3,q4⟩
theorem iM3{v:V}{x:Value}{p:Nat×List Nat×List V}(R:Rep w sA g S s)(e:hM2 S v=some p)(r:RV w g s.heap v x):InsV w g s.heap p.1 p.2.1 p.2.2 x:=by
 revert r;refine hE0 (G:=λv=>RV w g s.heap v x->InsV w g s.heap p.1 p.2.1 p.2.2 x) e (λr=> ?_) λk hk r=> ?_
 ·obtain⟨a,d,vals,e,q0,_,_,q1,q2,q3,q4⟩:=r;exact⟨a,d,vals,e,q0,q1,q2,q3,q4⟩
 ·obtain⟨a,e,ra,b,d,vals,q1,q0,_,_,q2,q3,q4,q5,_⟩:=gU8 R r hk;rw[ra]at q1;cases q1;exact⟨a,d,vals,e,q0,q2,q3,q4,q5⟩
section
variable{T:Type}[DecidableEq T]{enc:T->V}(he:∀a b,gB1 (enc a) (enc b)=decide (a=b))
include he
theorem gT2{k:T}:∀ {l:List T}{vs:List V}{vals:List Value},RVs w g h vs vals->vals.length=l.length->
  (∀v,gK2 (enc k) (l.map enc) vs=some v->∃y,valueAt (l.zip vals) k=some y/\RV w g h v y)/\(gK2 (enc k) (l.map enc) vs=none->valueAt (l.zip vals) k=none)
 | [],vs,[],r,e=>⟨λv q=>nn q,λδ=>rfl⟩
 | [],vs,_::_,r,e=>nomatch e
 |x::l,vs,[],r,e=>nomatch e
 |x::l,[],y::ys,r,e=>nomatch (show y::ys=[]from r)
 |x::l,v::vs,y::ys,r,e=>by
  obtain⟨y',ys',q,r1,r2⟩:=r;cases q;have i:=gT2 (k:=k) (l:=l) r2 (Nat.succ.inj e);show(∀u,(if gB1 (enc k) (enc x)then some v else gK2 (enc k) (l.map enc) vs)=some u->_)/\((if gB1 (enc k) (enc x)then some v else gK2 (enc k) (l.map enc) vs)=none->_);simp only[List.zip_cons_cons,valueAt,List.find?_cons,he]
  by_cases z:k=x
  ·subst z;simp only[decide_true,if_true,Option.map_some];exact⟨λv q=>by cases q;exact⟨y,rfl,r1⟩,λq=>by cases q⟩
  ·have z':¬x=k:=λq=>z q.symm;simp only[decide_eq_true_eq,z,if_false,z',decide_false];exact i
theorem iR8{k:T}:∀ {l:List T}{vals:List Value},vals.length=l.length->(l.map enc).any (gB1 (enc k))=(valueAt (l.zip vals) k).isSome
 | [],vals,e=>by simp[valueAt]
 |x::l,[],e=>by simp at e
 |x::l,y::ys,e=>by
  have i:=iR8 (k:=k) (l:=l) (vals:=ys) (by simpa using e);simp only[List.map_cons,List.any_cons,List.zip_cons_cons,valueAt,List.find?_cons,he]
  by_cases z:k=x
  ·subst z;simp
  ·have z':¬x=k:=λq=>z q.symm;simp only[z,decide_false,Bool.false_or,z'];exact i
omit he in
theorem gX3{k:T}{y:Value}:∀ {kvs:List (T×Value)},(∀p∈kvs,p.1≠k)->kvs.map (λkv=>if kv.1=k then(kv.1,y)else kv)=kvs
 | [],_=>rfl
 |p::r,h=>by rw[List.map_cons,if_neg (h p (.head _)),gX3 λq hq=>h q (.tail _ hq)]
inductive Put(w:World)(g:Gh)(h:Heap)(enc:T->V)(l:List T)(kvs:List (T×Value))(d:List V×List V):Prop
 |mk (l':List T) (vals':List Value):d.1=l'.map enc->RVs w g h d.2 vals'->vals'.length=l'.length->kvs=l'.zip vals'->l'.length<=l.length+1->Put w g h enc l kvs d
theorem hH3{k:T}{v:V}{y:Value}:∀ {l:List T}{vs:List V}{vals:List Value},RVs w g h vs vals->vals.length=l.length->RV w g h v y->((l.zip vals).map (·.1)).Nodup->Put w g h enc l (stored (l.zip vals) k y) (gJ5 (enc k) v (l.map enc) vs)
 | [],[],[],r,e,rv,_=>⟨[k],[y],rfl,⟨y,[],rfl,rv,rfl⟩,rfl,rfl,Nat.le_refl _⟩
 | [],_::_,[],r,e,rv,_=>by obtain⟨_,_,q,_⟩:=r;cases q
 | [],_,_::_,r,e,rv,_=>nomatch e
 |x::l,vs,[],r,e,rv,nd=>nomatch e
 |x::l,[],y'::ys,r,e,rv,nd=>nomatch (show y'::ys=[]from r)
 |x::l,v'::vs,y'::ys,r,e,rv,nd=>by
  obtain⟨yA,ysA,q,r1,r2⟩:=r;cases q;rw[List.zip_cons_cons,List.map_cons,List.nodup_cons]at nd;show Put w g h enc (x::l) _ (if gB1 (enc k) (enc x)then(enc x::l.map enc,v::vs)else _);rw[he]
  by_cases z:k=x
  ·subst z;rw[if_pos (dT rfl)];refine⟨k::l,y::ys,rfl,⟨y,ys,rfl,rv,r2⟩,e,?_,Nat.le_succ _⟩;unfold stored;rw[if_pos (by simp)];simp only[List.zip_cons_cons,List.map_cons,if_true];rw[gX3 (k:=k) λp hp q=>nd.1 (by have:=List.mem_map_of_mem (f:=(·.1)) hp;rwa[q]at this)]
  ·have z':¬x=k:=λq=>z q.symm;obtain⟨l',vals',i1,i2,i3,i4,i5⟩:=hH3 (k:=k) (l:=l) r2 (Nat.succ.inj e) rv nd.2;rw[if_neg (by rwa[decide_eq_true_eq])];refine⟨x::l',y'::vals',by rw[List.map_cons,i1],⟨y',vals',rfl,r1,i2⟩,congrArg _ i3,?_,Nat.succ_le_succ i5⟩;show stored ((x,y')::l.zip ys) k y=(x,y')::l'.zip vals';rw[←i4];unfold stored;simp only[List.any_cons,z',decide_false,Bool.false_or,List.map_cons,if_false]
   split<;>rfl
end
theorem jW5(a b:Int):gB1 (.int a) (.int b)=decide (a=b):=by rw[Bool.eq_iff_iff,decide_eq_true_eq];exact⟨λe=>(Option.some.inj (bE e)).symm,λe=>beq_iff_eq.mpr (congrArg some e.symm)⟩
theorem jW4(a b:Str):gB1 (.str a.cps.toList) (.str b.cps.toList)=decide (a=b):=by rw[Bool.eq_iff_iff,decide_eq_true_eq];exact⟨λe=>hH7 (Option.some.inj (bE e)).symm,λe=>beq_iff_eq.mpr (congrArg (λa:Str=>some a.cps.toList) e.symm)⟩
theorem DictOf.nil{T T':Type}[DecidableEq T][DecidableEq T']{knd:KeyKind PP w T}{knd':KeyKind PP w T'}{a:Addr}(d:h.DictOf knd a []):h.DictOf knd' a []:=by
 refine e36 d λo es ep q1 q2 q3 q4 q5 q6=> ?_;generalize hl:es.toList=l at q5;cases q5;have:es= #[]:=by rw[←Array.toList_inj,hl]
 subst this;exact⟨o,#[],ep,q1,q2,q3,λe he=>by simp at he,.nil,by simp⟩
theorem DK.int{a:Addr}{ks:List V}{vals:List Value}(d:DK w h a ks vals)(k:ks.all gC5=true):(a==sysModules)=false/\DKi w h a ks vals:=by
 obtain⟨n,q|⟨l,rfl,q2,_,q3⟩⟩:=d
 ·exact⟨n,q⟩
 ·cases l with
  |nil=>cases List.length_eq_zero_iff.mp q2;exact⟨n,[],rfl,rfl,DictOf.nil q3⟩
  |cons _ _=>exact ff k
theorem DK.str{a:Addr}{ks:List V}{vals:List Value}(d:DK w h a ks vals)(k:ks.all gB4=true):(a==sysModules)=false/\DKs w h a ks vals:=by
 obtain⟨n,⟨l,rfl,q2,q3⟩|q⟩:=d
 ·cases l with
  |nil=>cases List.length_eq_zero_iff.mp q2;exact⟨n,[],rfl,rfl,gC4,DictOf.nil q3⟩
  |cons _ _=>exact ff k
 ·exact⟨n,q⟩
end
section
variable{w:World}{sA:Shared}{g g':Gh}{S S':St}{s s':Shared}{h:Heap}{A:Around}{E:VP}{Q:VP}{env:Env}{m:Lo}
noncomputable def EqO(w:World)(A:Around)(s:Shared)(x y:Value)(b:Bool):Prop:=∀(E:VP) (Q:VP),(Q (.bool b) s->wpAny (model PP w) A (compareOp .Eq x y) Q E s)/\(Q (.bool (!b)) s->wpAny (model PP w) A (compareOp .NotEq x y) Q E s)
theorem kK3{i j:Int}{x y:Value}(ra:RV w g s.heap (.int i) x)(rb:RV w g s.heap (.int j) y):EqO w A s x y (i==j):=by obtain⟨t,rfl⟩:=ra;obtain⟨t',rfl⟩:=rb;exact λE Q=>⟨λq=>PyProof.Rows.eq_int q,λq=>PyProof.Rows.ne_int (by simpa [bne]using q)⟩
theorem kK0{i j:List Nat}{x y:Value}(ra:RV w g s.heap (.str i) x)(rb:RV w g s.heap (.str j) y):EqO w A s x y (i==j):=by obtain⟨p,t,rfl,h1,_⟩:=ra;obtain⟨q,t',rfl,h2,_⟩:=rb;rw[←kM4 h1 h2];exact λE Q=>⟨λq=>PyProof.Rows.eq_str q,λq=>PyProof.Rows.ne_str (by simpa [bne]using q)⟩
theorem kJ7{i j:List Nat}{x y:Value}(ra:RV w g s.heap (.bytes i) x)(rb:RV w g s.heap (.bytes j) y):EqO w A s x y (i==j):=by obtain⟨p,t,rfl,h1,_⟩:=ra;obtain⟨q,t',rfl,h2,_⟩:=rb;rw[←kS9 h1 h2];exact λE Q=>⟨λq=>PySem.W.eq_bytes q,λq=>PySem.W.ne_bytes (by simpa [bne]using q)⟩
theorem hW0{l l':List V}{its its':Array Value}{A:Around}(sm:gF4 200 l l'=true)(r1:RVs w g s.heap l its.toList)(r2:RVs w g s.heap l' its'.toList)(u:A.units+200<cLine):its.size=its'.size/\∀j (j1:j<its.size) (j2:j<its'.size),SeqAt.EqAt A s its[j] its'[j] true:=by refine e02 (hF4 200 sm r1 r2 u) λl at_=> ?_;exact⟨l,λj (j1:j<its.size) (j2:j<its'.size)=>at_ j its[j] its'[j] (by rw[Array.getElem?_toList];exact Array.getElem?_eq_getElem j1) (by rw[Array.getElem?_toList];exact Array.getElem?_eq_getElem j2)⟩
theorem hZ9(n:Nat):((List.range n).all λδ=>true)=true:=List.all_eq_true.mpr λδ δ=>rfl
theorem kJ8{l l':List V}{x y:Value}(sm:gF4 200 l l'=true)(ra:RV w g s.heap (.tup l) x)(rb:RV w g s.heap (.tup l') y)(u:A.units+300<cLine):EqO w A s x y true:=by obtain⟨p,its,n,rfl,_,h1,_,r1⟩:=ra;obtain⟨q,its',n',rfl,_,h2,_,r2⟩:=rb;obtain⟨l,hj⟩:=hW0 (A:=A.in1) sm r1 r2 (Nat.lt_of_le_of_lt (Nat.add_le_add_left (by decide:1+200<=300) _) u);have t1:=SeqAt.RcAt.tuples (A:=A) (s:=s) (l:=p) (b:=q) (e:=λδ=>true) ⟨_,h1,rfl,n,rfl⟩ ⟨_,h2,rfl,n',rfl⟩ (by(exact nl3 (nl9 u) rfl)) hj;have t2:=SeqAt.RcNeAt.tuples (A:=A) (s:=s) (l:=p) (b:=q) (e:=λδ=>true) ⟨_,h1,rfl,n,rfl⟩ ⟨_,h2,rfl,n',rfl⟩ (by(exact nl3 (nl9 u) rfl)) hj;rw[l,hZ9,beq_self_eq_true]at t1 t2;exact λE Q=>⟨λq=>t1 _ _ _ _ q,λq=>t2 _ _ _ _ q⟩
theorem kK1{l l':List V}{x y:Value}{r:Bool}(e:eqL l l'=some r)(ra:LstV w g s.heap l x)(rb:LstV w g s.heap l' y)(u:A.units+300<cLine):EqO w A s x y r:=by
 obtain⟨p,its,rfl,h1,_,r1⟩:=ra;obtain⟨q,its',rfl,h2,_,r2⟩:=rb;have h1:=h1.isList;have h2:=h2.isList;unfold eqL at e
 by_cases ne:(l.length !=l'.length)=true
 ·rw[if_pos ne]at e;cases e;have n1:=r1.length;have n2:=r2.length;rw[Array.length_toList]at n1 n2;have ne:(its.size !=its'.size)=true:=by rw[n1,n2];exact ne
  exact λE Q=>⟨λq=>SeqAt.RcAt.lists_lengths h1 h2 ne (by(exact nl3 (nl9 u) rfl)) _ _ _ _ q,λq=>SeqAt.RcNeAt.lists_lengths h1 h2 ne (by(exact nl3 (nl9 u) rfl)) _ _ _ _ q⟩
 ·rw[if_neg ne]at e;refine ifs e λsm e=> ?_;cases e;obtain⟨l,hj⟩:=hW0 (A:=A.in1) sm r1 r2 (Nat.lt_of_le_of_lt (Nat.add_le_add_left (by decide:1+200<=300) _) u);have t1:=SeqAt.RcAt.lists (A:=A) (s:=s) (e:=λδ=>true) h1 h2 l (by(exact nl3 (nl9 u) rfl)) hj;have t2:=SeqAt.RcNeAt.lists (A:=A) (s:=s) (e:=λδ=>true) h1 h2 l (by(exact nl3 (nl9 u) rfl)) hj;rw[hZ9]at t1 t2;exact λE Q=>⟨λq=>t1 _ _ _ _ q,λq=>t2 _ _ _ _ q⟩
theorem jH0{T:Type}[DecidableEq T]{knd:KeyKind PP w T}{l:List T}{vals:List Value}{p q:Addr}(n1:(p==sysModules)=false)(n2:(q==sysModules)=false)(e:vals.length=l.length)(d:s.heap.DictOf knd p (l.zip vals))(nil:s.heap.DictOf (intKind PP w) q [])(u:A.units+300<cLine):EqO w A s (.ref p) (.ref q) l.isEmpty:=by
 have key:((l.zip vals).length==([]:List (T×Value)).length&&true)=l.isEmpty:=by cases l<;>cases vals<;>first|rfl|cases e
 have hits:(l.zip vals).length=([]:List (T×Value)).length->KeqHits A.in1 s ([]:List (T×Value)) (l.zip vals) true:=by intro z;rw[List.length_eq_zero_iff.mp z];exact .nil
 intro E Q;exact⟨λz=>keq_eq n1 n2 d (DictOf.nil nil) (by(exact nl3 (nl9 u) rfl)) hits (by rw[key];exact z),λz=>keq_ne n1 n2 d (DictOf.nil nil) (by(exact nl3 (nl9 u) rfl)) hits (by rw[key];exact z)⟩
theorem kK4{p q:List V×List V}{x y:Value}(em:q.1.isEmpty=true)(ra:DctV w g s.heap p.1 p.2 x)(rb:DctV w g s.heap q.1 q.2 y)(u:A.units+300<cLine):EqO w A s x y p.1.isEmpty:=by
 obtain⟨p,vals,rfl,h1,_,r1⟩:=ra;obtain⟨q,vals',rfl,h2,_,r2⟩:=rb;rw[List.isEmpty_iff.mp em]at h2
 have nil:s.heap.DictOf (intKind PP w) q []:=by
  obtain⟨_,l,q1,q2,q3⟩:=h2.int rfl
  cases l with
  |nil=>exact q3
  |cons _ _=>cases q1
 rcases h1.2 with⟨l,e1,e2,d1⟩|⟨l,e1,e2,_,d1⟩
 ·rw[e1,List.isEmpty_map];exact jH0 h1.1 h2.1 e2 d1 nil u
 ·rw[e1,List.isEmpty_map];exact jH0 h1.1 h2.1 e2 d1 nil u
theorem hE3{a b:V}{x y:Value}{r:Bool}(e:eqC S a b=some r)(R:Rep w sA g S s)(ra:RV w g s.heap a x)(rb:RV w g s.heap b y)(u:A.units+300<cLine):EqO w A s x y r:=by
 unfold eqC at e
 cases hl:gD4 S a with
 |some l=>rw[hl]at e;exact bd e λl' hl' e=>kK1 e (gE2 R hl ra) (gE2 R hl' rb) u
 |none=>rw[hl]at e;exact bd e λp hp e=>bd e λq hq e=>ifs e λem e=>sS (G:=λr=>EqO w A s x y r) e (kK4 em (gK1 R hp ra) (gK1 R hq rb) u)
theorem kJ6{a b:V}{x y:Value}{r:Bool}(e:eqV S a b=some r)(R:Rep w sA g S s)(ra:RV w g s.heap a x)(rb:RV w g s.heap b y)(u:A.units+300<cLine):EqO w A s x y r:=by
 cases a with
 |int i=>exact bd e λz q e'=>by rw[gD7 q]at rb;exact sS (G:=λr=>EqO w A s x y r) e' (kK3 ra rb)
 |str i=>exact bd e λz q e'=>by rw[gK6 q]at rb;exact sS (G:=λr=>EqO w A s x y r) e' (kK0 ra rb)
 |bytes i=>exact bd e λz q e'=>by rw[gD6 q]at rb;exact sS (G:=λr=>EqO w A s x y r) e' (kJ7 ra rb)
 |tup l=>exact bd e λz q e'=>by rw[gI8 q]at rb;exact ifs e' λsm e'=>sS (G:=λr=>EqO w A s x y r) e' (kJ8 sm ra rb u)
 |none=>exact hE3 (a:= .none) e R ra rb u
 |bool v=>exact hE3 (a:= .bool v) e R ra rb u
 |lst l=>exact hE3 (a:= .lst l) e R ra rb u
 |dct k l=>exact hE3 (a:= .dct k l) e R ra rb u
 |ob c n l=>exact hE3 (a:= .ob c n l) e R ra rb u
 |loc k=>exact hE3 (a:= .loc k) e R ra rb u
theorem iI6{a:V}{x:Value}(r:RV w g h a x):(x==Value.none)=gD0 a:=by
 cases a with
 |none=>cases r;rfl
 |bool _=>cases r;rfl
 |int _=>obtain⟨t,rfl⟩:=r;rfl
 |loc _=>obtain⟨_,rfl,_⟩:=r;rfl
 |_=>cases r;subst_vars;rfl
noncomputable def kK2(i:Int):Value->Bool| .int j _=>i==j|_=>false
noncomputable def kJ9(l:List Nat):Value->Bool| .str s _=>l==s.cps.toList|_=>false
noncomputable def kK5(l:List Nat):Value->Bool| .bytes b _=>l==b.toList.map UInt8.toNat|_=>false
theorem hI2{p q:V->Bool}{e:Value->Bool}{x:Value}(hk:∀v y,p v=true->RV w g s.heap v y->SeqAt.EqAt A s y x (e y)/\e y=q v):∀ {l:List V}{its:List Value},RVs w g s.heap l its->l.all p=true->
  (∀y∈its,SeqAt.EqAt A s y x (e y))/\its.any e=l.any q
 | [],its,r,_=>by cases r;exact⟨gC4,rfl⟩
 |v::l,its,r,a=>by
  obtain⟨y,ys,rfl,r1,r2⟩:=r;rw[List.all_cons,Bool.and_eq_true]at a;refine e02 (hI2 hk r2 a.2) λi1 i2=> ?_;refine e02 (hk v y a.1 r1) λk1 k2=> ?_;refine⟨λz h=> ?_,by rw[List.any_cons,List.any_cons,i2,k2]⟩;rcases mC h with rfl|h
  ·exact k1
  ·exact i1 z h
inductive One(A:Around)(s:Shared)(x:Value)(its:List Value)(b:Bool):Prop
 |mk (f:Value->Bool):(∀y∈its,SeqAt.EqAt A s y x (f y))->its.any f=b->One A s x its b
theorem jV7{i:Int}{x:Value}{l:List V}{its:List Value}(z:l.all gC5=true)(ra:RV w g s.heap (.int i) x)(r:RVs w g s.heap l its):One A s x its (l.any (isI i)):=by
 obtain⟨t,rfl⟩:=ra;have q:=hI2 (A:=A) (x:= .int i t) (q:=isI i) (e:=kK2 i) (λv y k rv=> ?_) r z
 ·exact⟨_,q.1,q.2⟩
 obtain⟨j,rfl⟩:=hW2 k;obtain⟨t',rfl⟩:=rv;have e:(j==i)=kK2 i (.int j t'):=by rw[Bool.eq_iff_iff,beq_iff_eq];exact eq_comm.trans beq_iff_eq.symm
 exact⟨by rw[←e];exact SeqAt.EqAt.int_int j t' i t,by rw[←e];rfl⟩
theorem jV6{i:List Nat}{x:Value}{l:List V}{its:List Value}(z:l.all gB4=true)(ra:RV w g s.heap (.str i) x)(r:RVs w g s.heap l its):One A s x its (l.any (isS i)):=by
 obtain⟨p,t,rfl,h1,_⟩:=ra;have q:=hI2 (A:=A) (x:= .str p t) (q:=isS i) (e:=kJ9 i) (λv y k rv=> ?_) r z
 ·exact⟨_,q.1,q.2⟩
 obtain⟨j,rfl⟩:=gF8 k;obtain⟨q,t',rfl,h2,_⟩:=rv;have:decide (q=p)=kJ9 i (.str q t'):=by rw[Bool.eq_iff_iff,decide_eq_true_eq];exact(show q=p↔i=q.cps.toList by rw[←h1];exact⟨λe=>by rw[e],λe=>(hH7 e).symm⟩).trans beq_iff_eq.symm
 refine⟨λprog w E Q hq=>wpAny_eqBool_str (by rw[this];exact hq),?_⟩;show(i==q.cps.toList)=(some j==some i);rw[h2,Bool.eq_iff_iff,beq_iff_eq,beq_iff_eq];exact⟨λe=>congrArg some e.symm,λe=>(Option.some.inj e).symm⟩
theorem jV5{i:List Nat}{x:Value}{l:List V}{its:List Value}(z:l.all iL5=true)(ra:RV w g s.heap (.bytes i) x)(r:RVs w g s.heap l its):One A s x its (l.any (isY i)):=by
 obtain⟨p,t,rfl,h1,_⟩:=ra;have q:=hI2 (A:=A) (x:= .bytes p t) (q:=isY i) (e:=kK5 i) (λv y k rv=> ?_) r z
 ·exact⟨_,q.1,q.2⟩
 obtain⟨j,rfl⟩:=iY1 k;obtain⟨q,t',rfl,h2,_⟩:=rv;have:decide (q.toList=p.toList)=kK5 i (.bytes q t'):=by rw[Bool.eq_iff_iff,decide_eq_true_eq];exact(show q.toList=p.toList↔i=q.toList.map UInt8.toNat by rw[←h1];exact⟨λe=>by rw[e],λe=>(hS7 e).symm⟩).trans beq_iff_eq.symm
 refine⟨λprog w E Q hq=>eqBool_bytes (by rw[this];exact hq),?_⟩;show(i==q.toList.map UInt8.toNat)=(some j==some i);rw[h2,Bool.eq_iff_iff,beq_iff_eq,beq_iff_eq];exact⟨λe=>congrArg some e.symm,λe=>(Option.some.inj e).symm⟩
theorem hO2{a:V}{x:Value}{l:List V}{its:List Value}{b:Bool}(e:gR4 a l=some b)(ra:RV w g s.heap a x)(r:RVs w g s.heap l its):One A s x its b:=by
 cases a<;>first
  |exact nn e
  |exact ifs e λz e'=>sS (G:=λb=>One A s x its b) e' (jV7 z ra r)
  |exact ifs e λz e'=>sS (G:=λb=>One A s x its b) e' (jV6 z ra r)
  |exact ifs e λz e'=>sS (G:=λb=>One A s x its b) e' (jV5 z ra r)
noncomputable def InO(w:World)(A:Around)(s:Shared)(x y:Value)(b:Bool):Prop:=∀(E:VP) (Q:VP),
 ((∀k,Q (.bool b) {s with toks:=k})->wpAny (model PP w) A (compareOp .In x y) Q E s)/\((∀k,Q (.bool (!b)) {s with toks:=k})->wpAny (model PP w) A (compareOp .NotIn x y) Q E s)
theorem kH4{a:V}{l:List V}{x y:Value}{r:Bool}(e:gR4 a l=some r)(ra:RV w g s.heap a x)(rb:RV w g s.heap (.tup l) y):InO w A s x y r:=by
 obtain⟨p,its,n,rfl,_,h1,_,r1⟩:=rb;obtain⟨f,q1,q2⟩:=hO2 (A:=A.in1) e ra r1;rw[Array.any_toList]at q2
 exact λE Q=>⟨λz=>SeqAt.in_tupleAt f ⟨_,h1,rfl,n,rfl⟩ (λy hy=>q1 y (Array.mem_toList_iff.mpr hy)) (by rw[q2];exact z s.toks),
  λz=>SeqAt.notIn_tupleAt f ⟨_,h1,rfl,n,rfl⟩ (λy hy=>q1 y (Array.mem_toList_iff.mpr hy)) (by rw[q2];exact z s.toks)⟩
theorem kH5{a:V}{l:List V}{x y:Value}{r:Bool}(e:gR4 a l=some r)(ra:RV w g s.heap a x)(rb:LstV w g s.heap l y):InO w A s x y r:=by
 obtain⟨p,its,rfl,h1,_,r1⟩:=rb;have h1:=h1.isList;obtain⟨f,q1,q2⟩:=hO2 (A:=A.in1) e ra r1;rw[Array.any_toList]at q2
 exact λE Q=>⟨λz=>SeqAt.in_listAt f h1 (λy hy=>q1 y (Array.mem_toList_iff.mpr hy)) (by rw[q2];exact z s.toks),
  λz=>SeqAt.notIn_listAt f h1 (λy hy=>q1 y (Array.mem_toList_iff.mpr hy)) (by rw[q2];exact z s.toks)⟩
theorem kH6{a:V}{p:List V×List V}{x y:Value}(kk:gA8 a p.1=true)(ra:RV w g s.heap a x)(rb:DctV w g s.heap p.1 p.2 y):InO w A s x y (p.1.any (gB1 a)):=by
 obtain⟨_,vals,rfl,h1,_,r1⟩:=rb;revert ra;refine gH2 (G:=λa=>RV w g s.heap a x->InO w A s x _ (p.1.any (gB1 a))) kk (λi kk ra=> ?_) λi kk ra=> ?_
 ·obtain⟨n1,l,e1,e2,d1⟩:=h1.int kk;obtain⟨t,rfl⟩:=ra;rw[e1,iR8 jW5 e2];exact λE Q=>⟨λz=>wpAny_in_of (intKind_is PP w _ t) n1 d1.mapOf (z _),λz=>wpAny_notIn_of (intKind_is PP w _ t) n1 d1.mapOf (z _)⟩
 ·obtain⟨n1,l,e1,e2,_,d1⟩:=h1.str kk;obtain⟨q,t,rfl,rfl,_⟩:=ra;rw[e1,iR8 (enc:=λs:Str=>V.str s.cps.toList) jW4 e2];exact λE Q=>⟨λz=>wpAny_in_of (strKind_is PP w _ t) n1 d1.mapOf (z _),λz=>wpAny_notIn_of (strKind_is PP w _ t) n1 d1.mapOf (z _)⟩
theorem kH3{a b:V}{x y:Value}{r:Bool}(e:inV S a b=some r)(R:Rep w sA g S s)(ra:RV w g s.heap a x)(rb:RV w g s.heap b y):InO w A s x y r:=by
 unfold inV at e
 cases hb:tOf b with
 |some l=>rw[hb]at e;rw[gI8 hb]at rb;exact kH4 e ra rb
 |none=>
  rw[hb]at e;dsimp only at e
  cases hd:getD S b with
  |some p=>rw[hd]at e;exact ifs e λkk e=>sS (G:=λr=>InO w A s x y r) e (kH6 kk ra (gK1 R hd rb))
  |none=>rw[hd]at e;exact bd e λl hl e=>kH5 e ra (gE2 R hl rb)
theorem jA5{a b:V}{x y:Value}{r:Bool}{o:CmpOp}{f:Int->Int->Option Bool}(e:ii a b f=some r)(ra:RV w g s.heap a x)(rb:RV w g s.heap b y)
  (k:∀i j t t',f i j=some r->wpAny (model PP w) A (compareOp o (.int i t) (.int j t')) Q E s):wpAny (model PP w) A (compareOp o x y) Q E s:=by
 revert ra rb;refine hG6 (G:=λa b=>RV w g s.heap a x->RV w g s.heap b y->wpAny (model PP w) A (compareOp o x y) Q E s) e λi j e=> ?_;rintro ⟨t,rfl⟩ ⟨t',rfl⟩;exact k i j t t' e
theorem gH7{op:COp}{o:CmpOp}{a b:V}{r:Bool}{x y:Value}(c:ckC op o=true)(e:gK3 S op a b=some r)(R:Rep w sA g S s)(ra:RV w g s.heap a x)(rb:RV w g s.heap b y)(u:A.units+300<cLine)
  (h:∀k,Q (.bool r) {s with toks:=k}):wpAny (model PP w) A (compareOp o x y) Q E s:=by
 rw[oX c];have back:∀ {q:Bool},some q=some r->∀k,Q (.bool q) {s with toks:=k}:=λe=>sS (G:=λr=>∀k,Q (.bool r) {s with toks:=k}) e.symm h
 cases op with
 |eq=>exact(kJ6 e R ra rb u E Q).1 (h s.toks)
 |ne=>exact bd e λr' e e'=>(kJ6 e R ra rb u E Q).2 (back e' s.toks)
 |lt=>exact jA5 e ra rb λi j t t' e=>PyProof.Rows.lt_int (back e s.toks)
 |le=>exact jA5 e ra rb λi j t t' e=>PyProof.Rows.le_int (back e s.toks)
 |gt=>exact jA5 e ra rb λi j t t' e=>PyProof.Rows.gt_int (back e s.toks)
 |ge=>exact jA5 e ra rb λi j t t' e=>PyProof.Rows.ge_int (back e s.toks)
 |isn=>exact ifs e λz e=>by rw[gL3 z]at rb;cases rb;exact is_none (by rw[iI6 ra];exact back e s.toks)
 |notIsn=>exact ifs e λz e=>by rw[gL3 z]at rb;cases rb;exact isNot_none (by rw[iI6 ra];exact back e s.toks)
 |inn=>exact(kH3 e R ra rb E Q).1 h
 |notIn=>exact bd e λr' e e'=>(kH3 e R ra rb E Q).2 (back e')
end
noncomputable def jA4(P:Params)(c:Nat):Bool:=plainGet (Mine.K P) (cl c) "__class__"&&hasDictIn (Mine.K P) (cl c)&&findIn (Mine.K P) (.ref (cl c)) "__class__"==some (some (.builtin "object.__class__"))&&
 mroIn (Mine.K P) (cl c) (.type "object")==some true&&makesIn (Mine.K P) (cl c)&&plainOver (Mine.K P) (cl c)&&findIn (Mine.K P) (.ref (cl c)) "__setattr__"==some (some (.builtin "object.__setattr__"))
theorem iP2(P:Params):(List.range 10).all (jA4 P)=true:=by kernel_rfl
theorem gR0{P:Params}{c:Nat}(h:c<10):jA4 P c=true:=List.all_eq_true.mp (iP2 P) c (List.mem_range.mpr h)
theorem lU8(P:Params):specialIn (Mine.K P) (.builtin "object.__class__") "__get__"=some (some (.builtin "getset_descriptor.__get__")):=by kernel_rfl
theorem lU7(P:Params):takesIn (Mine.K P) (.builtin "object.__class__")=some true:=by kernel_rfl
noncomputable def kdV:Kd->Value
 | .bool=> .type "bool"| .int=> .type "int"| .list=> .type "list"| .dict=> .type "dict"| .cls c=> .ref (cl c)
noncomputable def kdL:List Value:=[.type "bool",.type "int",.type "list",.type "dict"]++(List.range 10).map λc=> .ref (cl c)
noncomputable def tyL:List Value:=[.type "NoneType",.type "bool",.type "int",.type "str",.type "list",.type "dict",.type "tuple"]++(List.range 10).map λc=> .ref (cl c)
theorem jO8(P:Params):(tyL.all λt=>kdL.all λk=>kitOne (Mine.K P) t k==some (t==k||(t== .type "bool"&&k== .type "int")))=true:=by kernel_rfl
theorem kG6{P:Params}{t k:Value}(ht:t∈tyL)(hk:k∈kdL):kitOne (Mine.K P) t k=some (t==k||(t== .type "bool"&&k== .type "int")):=beq_iff_eq.mp (List.all_eq_true.mp (List.all_eq_true.mp (jO8 P) t ht) k hk)
theorem kM7:((List.range 10).all λa=>(List.range 10).all λb=>(cl a==cl b)==(a==b))=true:=by decide+kernel
theorem lC1{a b:Nat}(ha:a<10)(hb:b<10):(cl a==cl b)=(a==b):=beq_iff_eq.mp (List.all_eq_true.mp (List.all_eq_true.mp kM7 a (List.mem_range.mpr ha)) b (List.mem_range.mpr hb))
theorem jI9{c:Nat}(h:c<10):Value.ref (cl c)∈tyL:=List.mem_append_right _ (List.mem_map_of_mem (List.mem_range.mpr h))
section
variable{w:World}{sA:Shared}{g g':Gh}{S S':St}{s s':Shared}{h:Heap}{A:Around}{E:VP}{Q:VP}{env:Env}{m:Lo}
theorem hG5{h:Heap}{a d:Addr}{c:Nat}{mm:Str->Option Value}(i:h.get? a=some (instObj (cl c) d))(n:h.Ns d mm):∃od,InstAt h a (instObj (cl c) d) (cl c) (some od)/\h.get? d=some od:=by refine e32 n λo es ep e δ=> ?_;exact⟨o,⟨i,rfl,rfl,e⟩,e⟩
noncomputable def ktV:KT->Value
 | .none=> .type "NoneType"| .bool=> .type "bool"| .int=> .type "int"| .str=> .type "str"| .tup=> .type "tuple"| .lst=> .type "list"| .dct=> .type "dict"| .cls c=> .ref (cl c)
set_option tactic.hygienic true in
theorem kY3{t:KT}{k:Kd}(ht:∀c,t= .cls c->c<10)(hk:∀c,k= .cls c->c<10):(ktV t==kdV k||(ktV t== .type "bool"&&kdV k== .type "int"))=gL4 t k:=by
 cases t<;>cases k<;>try rfl
 rename_i a b;have:=lC1 (ht a rfl) (hk b rfl);show(Value.ref (cl a)==Value.ref (cl b)||_)=_;rw[show(Value.ref (cl a)==Value.ref (cl b))=(cl a==cl b)by rw[Bool.eq_iff_iff,beq_iff_eq,beq_iff_eq];exact⟨λe=>by injection e,λe=>by rw[e]⟩,this];show(a==b||false)=(a==b);rw[Bool.or_false]
theorem jP3{k:Kd}(hk:∀c,k= .cls c->c<10):kdV k∈kdL:=by
 cases k with
 |cls c=>exact List.mem_append_right _ (List.mem_map_of_mem (List.mem_range.mpr (hk c rfl)))
 |_=>exact List.mem_append_left _ (by decide)
theorem jO7{t:KT}(hk:∀c,t= .cls c->c<10):ktV t∈tyL:=by
 cases t with
 |cls c=>exact jI9 (hk c rfl)
 |_=>exact List.mem_append_left _ (by decide)
theorem gJ9{x:Value}{k:Kd}{t:KT}{H:Heap->Prop}(X:(Mine.K w.params).In s.heap)(Z:KitX (Mine.K w.params) x (ktV t) H)(p:H s.heap)(hc:∀c,t= .cls c->c<10)(hk:∀c,k= .cls c->c<10)(hx:x≠ .builtin "__main__.__loader__#opaque")
  (h:∀tk,Q (.bool (gL4 t k)) {s with toks:=tk}):wpAny (model PP w) A (call (.builtin "isinstance") [x,kdV k]) Q E s:=
 kia_one Z X p (by rw[kG6 (jO7 hc) (jP3 hk),kY3 hc hk]) hx h
theorem iK9{a d:Addr}{c:Nat}{mm:Str->Option Value}{k:Kd}(X:(Mine.K w.params).In s.heap)(hc:c<10)(i:s.heap.get? a=some (instObj (cl c) d))(n:s.heap.Ns d mm)(hk:∀c,k= .cls c->c<10)
  (h:∀tk,Q (.bool (gL4 (.cls c) k)) {s with toks:=tk}):wpAny (model PP w) A (call (.builtin "isinstance") [.ref a,kdV k]) Q E s:=by
 refine e12 (hG5 i n) λod I δ=> ?_;have q:=gR0 (P:=w.params) hc;simp only[jA4,Bool.and_eq_true,beq_iff_eq]at q;obtain⟨⟨⟨⟨⟨⟨q1,q2⟩,q3⟩,q4⟩,q5⟩,q6⟩,q7⟩:=q;exact gJ9 (t:= .cls c) X (kitx_own q1 q2 q3 (lU8 _) (lU7 _) q4) I (λc' e=>by cases e;exact hc) hk (by nofun) h
theorem iK8{x:Value}{l:List V}{k:Kd}(X:(Mine.K w.params).In s.heap)(r:LstV w g s.heap l x)(hk:∀c,k= .cls c->c<10)(h:∀tk,Q (.bool (gL4 .lst k)) {s with toks:=tk}):wpAny (model PP w) A (call (.builtin "isinstance") [x,kdV k]) Q E s:=by obtain⟨a,its,rfl,⟨o,h1⟩,_⟩:=r;exact gJ9 (t:= .lst) X kitx_list ⟨_,h1,rfl⟩ (by nofun) hk (by nofun) h
theorem iL0{x:Value}{ks vs:List V}{k:Kd}(X:(Mine.K w.params).In s.heap)(r:DctV w g s.heap ks vs x)(hk:∀c,k= .cls c->c<10)(h:∀tk,Q (.bool (gL4 .dct k)) {s with toks:=tk}):wpAny (model PP w) A (call (.builtin "isinstance") [x,kdV k]) Q E s:=by
 obtain⟨a,vals,rfl,⟨_,⟨_,_,_,o,_,_,h1,h2,_⟩|⟨_,_,_,_,o,_,_,h1,h2,_⟩⟩,_⟩:=r
 ·exact gJ9 (t:= .dct) X kitx_dict ⟨o,h1,h2.1⟩ (by nofun) hk (by nofun) h
 ·exact gJ9 (t:= .dct) X kitx_dict ⟨o,h1,h2.1⟩ (by nofun) hk (by nofun) h
theorem jO9{o:O}{t:KT}{G:O->KT->Prop}(e:jP0 o=some t)(a:∀l,G (.lst l) .lst)(b:∀ks vs,G (.dct ks vs) .dct)(c:∀c ns vs,G (.ins c ns vs) (.cls c)):G o t:=by
 cases o with
 |lst l=>exact sS e (a l)
 |dct ks vs=>exact sS e (b ks vs)
 |ins c' ns vs=>exact sS e (c c' ns vs)
 |frz v=>exact nn e
theorem kH1{v:V}{x:Value}{k:Kd}{t:KT}(B:Bg w sA)(R:Rep w sA g S s)(e:iX2 S v=some t)(r:RV w g s.heap v x)(hk:∀c,k= .cls c->c<10)(h:∀tk,Q (.bool (gL4 t k)) {s with toks:=tk}):
  wpAny (model PP w) A (call (.builtin "isinstance") [x,kdV k]) Q E s:=by
 have X:=R.K B;have tr:∀ {u:KT},some u=some t->∀tk,Q (.bool (gL4 u k)) {s with toks:=tk}:=λe=>sS (G:=λt=>∀tk,Q (.bool (gL4 t k)) {s with toks:=tk}) e.symm h
 cases v with
 |none=>cases r;exact gJ9 (t:= .none) X kitx_none trivial (by nofun) hk (by nofun) (tr e)
 |bool b=>cases r;exact gJ9 (t:= .bool) X kitx_bool trivial (by nofun) hk (by nofun) (tr e)
 |int i=>obtain⟨t,rfl⟩:=r;exact gJ9 (t:= .int) X kitx_int trivial (by nofun) hk (by nofun) (tr e)
 |str i=>obtain⟨_,t,rfl,_⟩:=r;exact gJ9 (t:= .str) X kitx_str trivial (by nofun) hk (by nofun) (tr e)
 |bytes i=>exact nn e
 |tup l=>obtain⟨a,its,n,rfl,_,h1,_⟩:=r;exact gJ9 (t:= .tup) X kitx_tuple ⟨_,h1,rfl⟩ (by nofun) hk (by nofun) (tr e)
 |lst l=>obtain⟨a,its,e',_,q1,q2,q3⟩:=r;exact iK8 X ⟨a,its,e',q1,q2,q3⟩ hk (tr e)
 |dct ks vs=>obtain⟨a,its,e',_,q1,q2,q3⟩:=r;exact iL0 X ⟨a,its,e',q1,q2,q3⟩ hk (tr e)
 |ob c ns vs=>obtain⟨a,d,vals,rfl,hc,_,_,i,n,_⟩:=r;exact iK9 X hc.1 i n hk (tr e)
 |loc j=>
  refine bd e λo hp e=> ?_;obtain⟨a,rfl,ra,p⟩:=gU8 R r hp;revert p h;refine jO9 (G:=λo t=>(∀tk,Q (.bool (gL4 t k)) {s with toks:=tk})->PlR w g s.heap j o->wpAny (model PP w) A (call (.builtin "isinstance") [.ref a,kdV k]) Q E s) e (λl h p=> ?_) (λks vs h p=> ?_) λc ns vs h p=> ?_
  ·obtain⟨b,its,q1,_,q2,q3,q4⟩:=p;rw[ra]at q1;cases q1;exact iK8 X ⟨a,its,rfl,q2,q3,q4⟩ hk h
  ·obtain⟨b,its,q1,_,q2,q3,q4⟩:=p;rw[ra]at q1;cases q1;exact iL0 X ⟨a,its,rfl,q2,q3,q4⟩ hk h
  ·obtain⟨b,d,vals,q1,hc,_,_,i,n,_⟩:=p;rw[ra]at q1;cases q1;exact iK9 X hc.1 i n hk h
theorem kH0{v:V}{x:Value}{k:Kd}{b:Bool}(B:Bg w sA)(R:Rep w sA g S s)(e:hA9 S v k=some b)(r:RV w g s.heap v x)(hk:∀c,k= .cls c->c<10)(h:∀tk,Q (.bool b) {s with toks:=tk}):
  wpAny (model PP w) A (call (.builtin "isinstance") [x,kdV k]) Q E s:=
 bd e λt e e'=>kH1 B R e r hk (sS (G:=λb=>∀tk,Q (.bool b) {s with toks:=tk}) e'.symm h)
theorem gI9{j:XE}(c:gN2 j=true)(o i:Value):subscripted j false o i=operate [o,i] (getItem o i):=iL1 (G:=λj=>subscripted j false o i=operate [o,i] (getItem o i)) c (λδ δ=>rfl) (λδ δ δ=>rfl) (λδ δ δ=>rfl) (λδ δ δ=>rfl) (λδ δ δ=>rfl) (λδ δ δ δ=>rfl) (λδ δ δ δ δ=>rfl)
theorem iW6{o:Value}(no:∀a,o≠ .ref a)(r:Value):letTemporaryGo (.List [] default) o r=pure ():=by cases o<;>first|rfl|exact absurd rfl (no _)
theorem hL0{value:XE}{o:Value}(no:∀a,o≠ .ref a)(r:Value):letTemporaryGo value o r=pure ():=by cases value<;>first|rfl|exact Eq.trans (b:=letTemporaryGo (.List [] default) o r) (by kernel_rfl) (iW6 no r)
theorem hP8{k:Int}{n:Nat}(h0:0<=k)(h1:k.toNat<n):seqIndex? k n=some k.toNat:=by unfold seqIndex?;have:¬k<0:=Int.not_lt.mpr h0;simp only[this,if_false];rw[if_pos];simp only[Bool.and_eq_true,decide_eq_true_eq];exact⟨h0,il5 h0 h1⟩
theorem jJ8{value j:XE}{u:V}{l:List V}{i:Int}{x y:Value}(c:gN2 j=true)(R:Rep w sA g S s)(k0:0<=i)(e:l[i.toNat]?=some u)(ro:RV w g s.heap (.tup l) x)(ri:RV w g s.heap (.int i) y)(h:Pst w sA g s.heap (norm S u) S Q):
  wpAny (model PP w) A (subscriptTail value j x y) Q E s:=by
 obtain⟨a,its,n,rfl,_,h1,z,r1⟩:=ro;obtain⟨t,rfl⟩:=ri;refine e12 (r1.get e) λw' e1 e2=> ?_;have lt:=(List.getElem?_eq_some_iff.mp e1).1;rw[Array.length_toList]at lt;exact item_tupleT (l:=its.toList) (j:=i.toNat) ⟨_,h1,rfl,n,by rw[Array.toArray_toList]⟩ (ilm k0) (il8 k0 lt z) (hP8 k0 (by rw[Array.length_toList];exact lt)) e1 (h g _ _ (.refl _ _ _) (R.tk s.toks) (R.norm e2)) (gI9 c _ _)
theorem jK1{value j:XE}{c':Nat}{l:List Nat}{i:Int}{x y:Value}(c:gN2 j=true)(R:Rep w sA g S s)(k0:0<=i)(e1:l[i.toNat]?=some c')(ro:RV w g s.heap (.bytes l) x)(ri:RV w g s.heap (.int i) y)(h:Pst w sA g s.heap (.int (Int.ofNat c')) S Q):
  wpAny (model PP w) A (subscriptTail value j x y) Q E s:=by
 obtain⟨b,t',rfl,h1,z⟩:=ro;obtain⟨t,rfl⟩:=ri;subst h1;rw[List.getElem?_map]at e1;obtain⟨u8,e3,rfl⟩:=Option.map_eq_some_iff.mp e1;have lt:=(List.getElem?_eq_some_iff.mp e3).1;have q:=h g (.int ((b.toList.getD i.toNat 0).toNat:Int) s.toks) {s with toks:=s.toks+1} (.refl _ _ _) (R.tk _) ⟨s.toks,by rw[List.getD_eq_getElem?_getD,e3];rfl⟩;have:=KBy.item_N (A:=A) (E:=E) (t:=t') (ui:=t) (value:=value) (slice:=j) (x:=b.toList) (i:=i) (prog:=PP) (w:=w) (s:=s) (Q:=Q) (by rw[List.length_map]at z;(exact Nat.le_trans z (Nat.le_add_left 1000000 1099510627776))) k0 (by(exact il5 k0 lt)) q (by simp only[Array.toArray_toList];exact gI9 c _ _) (hL0 (by nofun));rwa[Array.toArray_toList]at this
theorem lL6{n:Nat}:((-1:Int)+n).toNat=n-1:=(congrArg Int.toNat (Int.add_comm (-1) n)).trans (Int.toNat_sub n 1)
theorem jJ9{value j:XE}{u:V}{l:List V}{i:Int}{x y:Value}(c:gN2 j=true)(R:Rep w sA g S s)(e:jK0 l i=some u)(ro:LstV w g s.heap l x)(ri:RV w g s.heap (.int i) y)(h:Pst w sA g s.heap (norm S u) S Q):
  wpAny (model PP w) A (subscriptTail value j x y) Q E s:=by
 obtain⟨a,its,rfl,h1,z,r1⟩:=ro;have h1:=h1.isList;obtain⟨t,rfl⟩:=ri;unfold jK0 at e
 by_cases k0:0<=i
 ·rw[if_pos k0]at e;refine e12 (r1.get e) λw' e1 e2=> ?_;have lt:=(List.getElem?_eq_some_iff.mp e1).1;rw[Array.length_toList]at lt;exact tail_any h1.typeIs F.slot_list_getitem.lookup (wpAny_getItem_list h1 k0 (il8 k0 lt z) (by rw[←Array.getElem?_toList];exact e1) (h g _ _ (.refl _ _ _) (R.tk s.toks) (R.norm e2))) (gI9 c _ _)
 ·rw[if_neg k0]at e;refine ifs e λkm e=> ?_;subst km;rw[List.getLast?_eq_getElem?]at e;refine e12 (r1.get e) λw' e1 e2=> ?_;have ll:=r1.length;rw[Array.length_toList]at ll;have lt:=(List.getElem?_eq_some_iff.mp e1).1;rw[show its.toList.length=its.size from Array.length_toList]at lt;refine tail_any h1.typeIs F.slot_list_getitem.lookup (wpAny_getItem_list_neg h1 (by decide) (by lia) (by lia) ?_ (h g _ _ (.refl _ _ _) (R.tk s.toks) (R.norm e2))) (gI9 c _ _);rw[←Array.getElem?_toList,lL6,ll];exact e1
theorem iG0{value j:XE}{o i u:V}{x y:Value}(c:gN2 j=true)(R:Rep w sA g S s)(e:kB4 S o i=some u)(ro:RV w g s.heap o x)(ri:RV w g s.heap i y)(h:Pst w sA g s.heap (norm S u) S Q):
  wpAny (model PP w) A (subscriptTail value j x y) Q E s:=by
 refine bd e λp hd e=>ifs e λkk e=> ?_;obtain⟨_,vals,rfl,h1,_,r1⟩:=gK1 R hd ro;revert e ri;refine gH2 (G:=λi=>RV w g s.heap i y->gK2 i p.1 p.2=some u->_) kk (λi kk ri e=> ?_) λi kk ri e=> ?_
 ·obtain⟨n1,l,e1,e2,d1⟩:=h1.int kk;obtain⟨t,rfl⟩:=ri;rw[e1]at e;refine e12 ((gT2 jW5 r1 e2).1 _ e) λz q1 q2=> ?_;exact tail_any d1.mapOf.typeIs F.slot_dict_getitem.lookup (wpAny_getItem_of (intKind_is PP w _ t) d1.mapOf q1 (h g _ _ (.refl _ _ _) (R.tk _) (R.norm q2))) (gI9 c _ _)
 ·obtain⟨n1,l,e1,e2,_,d1⟩:=h1.str kk;obtain⟨q,t,rfl,rfl,_⟩:=ri;rw[e1]at e;refine e12 ((gT2 (enc:=λs:Str=>V.str s.cps.toList) jW4 r1 e2).1 _ e) λz q1 q2=> ?_;exact tail_any d1.mapOf.typeIs F.slot_dict_getitem.lookup (wpAny_getItem_of (strKind_is PP w _ t) d1.mapOf q1 (h g _ _ (.refl _ _ _) (R.tk _) (R.norm q2))) (gI9 c _ _)
theorem kB3{value j:XE}{o i u:V}{x y:Value}(B:Bg w sA)(c:gN2 j=true)(R:Rep w sA g S s)(e:hB1 S o i=some u)(ro:RV w g s.heap o x)(ri:RV w g s.heap i y)(h:Pst w sA g s.heap (norm S u) S Q):
  wpAny (model PP w) A (subscriptTail value j x y) Q E s:=by
 unfold hB1 at e
 cases hi:iOf i with
 |none=>rw[hi]at e;exact iG0 c R e ro ri h
 |some k=>
  rw[hi]at e;dsimp only at e;have ri':=ri;rw[gD7 hi]at ri'
  cases ht:tOf o with
  |some l=>rw[ht]at e;rw[gI8 ht]at ro;exact ifs e λk0 e=>jJ8 c R k0 e ro ri' h
  |none=>
   rw[ht]at e;dsimp only at e
   cases hy:yOf o with
   |some l=>rw[hy]at e;rw[gD6 hy]at ro;exact ifs e λk0 e=>bd e λc' e1 e=>jK1 c R k0 e1 ro ri' (sS (G:=λu=>Pst w sA g s.heap (norm S u) S Q) e.symm h)
   |none=>
    rw[hy]at e;dsimp only at e
    cases hl:gD4 S o with
    |some l=>rw[hl]at e;exact jJ9 c R e (gE2 R hl ro) ri' h
    |none=>rw[hl]at e;exact iG0 c R e ro ri h
end
noncomputable def lD8(P:Params)(c:Nat):Bool:=(attsL.getD c []).all λx=>findIn (Mine.K P) (.ref (cl c)) (nm x)==some none
theorem iR2(P:Params):(List.range 10).all (lD8 P)=true:=by kernel_rfl
theorem hZ5{P:Params}{c x:Nat}(h:c<10)(hx:x∈attsL.getD c []):findIn (Mine.K P) (.ref (cl c)) (nm x)=some none:=beq_iff_eq.mp (List.all_eq_true.mp (List.all_eq_true.mp (iR2 P) c (List.mem_range.mpr h)) x hx)
theorem jH5{α:Type}(L:List α)(i j:Nat):(L.drop (min i L.length)).take (min j L.length-min i L.length)=(L.take j).drop i:=by
 rw[List.drop_take];rcases Nat.le_total i L.length with c|c
 ·rw[Nat.min_eq_left c,List.take_eq_take_iff,List.length_drop,←Nat.sub_min_sub_right,Nat.min_assoc,Nat.min_self]
 ·rw[Nat.min_eq_right c,List.drop_length,List.drop_eq_nil_of_le c,List.take_nil,List.take_nil]
section
variable{w:World}{sA:Shared}{g g':Gh}{S S':St}{s s':Shared}{h:Heap}{A:Around}{E:VP}{Q:VP}{env:Env}{m:Lo}
theorem iO8{n d i:Nat}{a:V}{x:Value}(e:kR7 d a=some i)(ra:RV w g h a x):∃lo,IsPart x lo/\∀D,min d n=D->lo.elim D (clipAt n)=min i n:=by
 cases a with
 |none=>cases e;cases ra;exact⟨none,.none,λD e=>e.symm⟩
 |int k=>
  refine ifs e λk0 e=> ?_;cases e;obtain⟨t,rfl⟩:=ra;refine⟨some _,.int _ _,λD δ=> ?_⟩;have:=clipAt_nat n k.toNat
  rwa[Int.toNat_of_nonneg k0]at this
 |_=>exact nn e
theorem hY7{n i j:Nat}{a b:V}{x y:Value}(e:hN2 n a b=some (i,j))(ra:RV w g h a x)(rb:RV w g h b y):∃lo hi,IsPart x lo/\IsPart y hi/\lo.elim 0 (clipAt n)=min i n/\hi.elim n (clipAt n)=min j n:=bd e λi' e1 e=>bd e λj' e2 e=>by cases e;refine e12 (iO8 (n:=n) e1 ra) λlo p1 p2=> ?_;refine e12 (iO8 (n:=n) e2 rb) λhi q1 q2=> ?_;exact⟨lo,hi,p1,q1,p2 0 (Nat.zero_min n),q2 n (Nat.min_self n)⟩
theorem iQ5{l u:Option XE}{p:Pos}{value:XE}{b:Array UInt8}{t:Tok}{vl vu:Value}{lo hi:Option Int}{sl:Addr}(hl:IsPart vl lo)(hu:IsPart vu hi)(hs:s.heap.IsSliceOf sl vl vu .none)(hz:b.size<=1000000)
  (h:∀t' k,Q (.bytes (KBy.picked b lo hi) t') {s with toks:=k}):wpAny (model PP w) A (subscriptTail value (.Slice l u none p) (.bytes b t) (.ref sl)) Q E s:=
 tail_of_ItemOn (ops:=[.ref sl,.bytes b t]) ⟨"bytes",_,FB.slot_bytes_getitem.lookup,typeIs_bytes _ _ _,getItem_meets (typeIs_bytes _ _ _) (by decide) FB.slot_bytes_getitem FB.entry_bytes_getitem (FB.args_bytes_getitem_2 _ _) (KBc.meets_slice2 b t _ hl hu)
  ⟨hs,Nat.le_trans (KBc.size_picked_le b lo hi) (by rw[sizeLine_eq];(exact Nat.le_trans hz (Nat.le_add_left 1000000 15777216))),h⟩⟩ rfl (hL0 (by nofun))
theorem iM0{v:V}{x:Value}(r:RV w g h v x):handedIn x=true:=by
 cases v with
 |none=>cases r;rfl
 |bool _=>cases r;rfl
 |int _=>obtain⟨t,rfl⟩:=r;rfl
 |loc _=>obtain⟨_,rfl,_⟩:=r;rfl
 |_=>cases r;subst_vars;rfl
theorem iR3{x:Nat}{u:V}:∀ {ns:List Nat}{vs:List V}{vals:List Value},iC7 x ns vs=some u->RVs w g h vs vals->vals.length=ns.length->x∈ns/\∃y,asc ns vals (nm x)=some y/\RV w g h u y
 | [],vs,_,e,_,_=>nn e
 |n::ns,[],_,e,_,_=>nn e
 |n::ns,v::vs,vals,e,r,l=>by
  obtain⟨y,ys,rfl,r1,r2⟩:=r;have e:(if x=n then some v else iC7 x ns vs)=some u:=e;unfold asc;rw[List.map_cons,List.zip_cons_cons,gG5]
  by_cases z:x=n
  ·subst z;rw[if_pos rfl]at e;cases e;rw[beq_self_eq_true];exact⟨.head _,y,rfl,r1⟩
  ·rw[if_neg z]at e;obtain⟨i1,y',i2,i3⟩:=iR3 e r2 (Nat.succ.inj l);rw[show(nm x==nm n)=false from beq_eq_false_iff_ne.mpr λq=>z (gP9 q)];exact⟨.tail _ i1,y',i2,i3⟩
theorem iJ3{h:Heap}{d:Addr}{mm:Str->Option Value}{n:Str}{y:Value}{od:Obj}(ns:h.Ns d mm)(e:h.get? d=some od)(hm:mm n=some y):lookIn n od=some (some y):=by
 refine e34 ns λo es ep e1 e2 e3 e4=> ?_;rw[e]at e1;cases e1;have:=e4 n;rw[hm]at this;unfold nsFind findBy at this;unfold lookIn;rw[e2];dsimp only;rw[Array.find?_toList]
 cases q:Array.find? (λe=>e.key.isStr n) es with
 |none=>rw[q]at this;cases this
 |some e=>rw[q]at this;simp at this;rw[←this]
theorem iC6{o u:V}{x:Value}{p:Nat×List Nat×List V}{n:Nat}{expr:Bool}(B:Bg w sA)(R:Rep w sA g S s)(e:hM2 S o=some p)(e2:iC7 n p.2.1 p.2.2=some u)(r:RV w g s.heap o x)
  (h:Pst w sA g s.heap (norm S u) S Q):wpAny (model PP w) A (getAttr x (nm n) expr) Q E s:=by
 obtain⟨a,d,vals,rfl,hc,i,N,l,rs⟩:=iM3 R e r;refine e12 (hG5 i N) λod I ed=> ?_;obtain⟨hn,y,a1,a2⟩:=iR3 e2 rs l;have q:=gR0 (P:=w.params) hc.1;simp only[jA4,Bool.and_eq_true,beq_iff_eq]at q;obtain⟨⟨⟨⟨⟨⟨q1,q2⟩,q3⟩,q4⟩,q5⟩,q6⟩,q7⟩:=q;have qa:=hZ5 (P:=w.params) hc.1 (hc.2 n hn);simp only[plainGet,Bool.and_eq_true,beq_iff_eq]at q1;refine get_value (R.K B) I q1.1 ?_ (iM0 a2) (h g _ _ (.refl _ _ _) (R.tk _) (R.norm a2));refine e12 (any_some q2) λcd hcd hd=> ?_
 delta findObj
 rw[hcd,qa];dsimp only[Option.bind];unfold PySem.W.ownOf;rw[if_pos hd];dsimp only;rw[iJ3 N ed a1]
end
noncomputable def lN9(P:Params)(i:Nat):Bool:=match (Mine.K P).lookup (fa i),prog.fns[i]? with
 |some o,some fn=>(match o.data with
  | .func fd=>kN0 fn fd&&fd.closure.isEmpty&&fd.globals==mainGlobals&&fd.builtins==builtinsNs&&codeIn (Mine.K P) fd.code fd.qualname
  |_=>false)
 |_,_=>false
theorem iY9(P:Params):(List.range 70).all (lN9 P)=true:=by kernel_rfl
noncomputable def kJ0(P:Params)(i:Nat):Option FuncData:=match (Mine.K P).lookup (fa i)with
 |some ⟨_,_,.func fd,_⟩=>some fd
 |_=>none
noncomputable def jS4(P:Params)(i:Nat):List Value:=match kJ0 P i with
 |some fd=>(match fd.defaults with
  | .ref T=>(match (Mine.K P).lookup T with
   |some ⟨_,_,.seq its _,_⟩=>its.toList
   |_=> [])
  |_=> [])
 |none=> []
noncomputable def iM9(v:V)(x:Value):Bool:=match x with
 | .none=>gD0 v
 | .bool c=>bOf v==some c
 | .int j _=>iOf v==some j
 | .str s _=>sOf v==some s.cps.toList&&decide (s.cps.toList.length<=1000)
 |_=>false
noncomputable def gT1:List V->List Value->Bool
 | [],xs=>xs.isEmpty
 |v::l,xs=>(match xs with
  | []=>false
  |x::xs=>iM9 v x&&gT1 l xs)
theorem jS9(P:Params):((List.range 70).all λi=>match prog.fns[i]? with|some fn=>gT1 fn.dfl (jS4 P i)&&decide (fn.dfl.length<=fn.pars.length)|none=>false)=true:=by kernel_rfl
noncomputable def arity:List (Nat×Nat):=(List.range 70).flatMap λi=>match prog.fns[i]? with
 |some fn=>(List.range (fn.dfl.length+1)).map λd=>(i,fn.pars.length-d)
 |none=> []
theorem iR0(P:Params)(S:Setting)(y:Nat->Value):arity.map (λp=>(kJ0 P p.1).bind λfd=>peek (Mine.K P) S (bindArgs fd ⟨(List.range p.2).map y,[]⟩))=
  arity.map λp=>(prog.fns[p.1]?).map λfn=>(fn.pars.map nm).zip ((List.range p.2).map y++(jS4 P p.1).drop (p.2+fn.dfl.length-fn.pars.length)):=by kernel_rfl
section
variable{w:World}{sA:Shared}{g g':Gh}{S S':St}{s s':Shared}{h:Heap}{A:Around}{E:VP}{Q:VP}{env:Env}{m:Lo}
theorem not_star{f:Nat}{sc:NKs}{me:ME}{v:XE}{p:Pos}:ckE f sc me (.Starred v p)=false:=by
 cases f with
 |zero=>rfl
 |succ f=>cases me<;>rfl
theorem gN8{sc:NKs}{f:Nat}{l:List ME}{es:List XE}{G:List ME->List XE->Prop}(c:gP4 f sc l es=true)(n:G [] [])(k:∀f' m l e es,f=f'+1->ckE f' sc m e=true->gP4 f' sc l es=true->G (m::l) (e::es)):G l es:=by
 cases f with
 |zero=>exact ff c
 |succ f=>
  cases l with
  |nil=>rw[List.isEmpty_iff.mp (show es.isEmpty=true from c)];exact n
  |cons m l=>
   cases es with
   |nil=>exact ff c
   |cons e es=>exact an c λc1 c2=>k f m l e es rfl c1 c2
theorem gP5{sc:NKs}{f:Nat}{me:ME}{e:XE}{es:List XE}(c:ckE f sc me e=true):starEach (e::es) env=(false,eval e env)::starEach es env:=by cases e<;>first|exact ff (not_star.symm.trans c)|rfl
theorem gE0{sc:NKs}:∀ {f:Nat}{l:List ME}{es:List XE},gP4 f sc l es=true->starEach es env=es.map λe=>(false,eval e env)
 |f,l,[],c=>rfl
 |f,l,e::es,c=>gN8 (G:=λl es'=>es'=e::es->starEach es' env=es'.map λe=>(false,eval e env)) c (λh=>nomatch h) (λf' m l' e' es' δ c1 c2 h=>by
   cases h
   rw[gP5 c1,gE0 c2];rfl) rfl
theorem gM9{sc:NKs}:∀ {f:Nat}{l:List ME}{es:List XE},gP4 f sc l es=true->l.length=es.length
 |0,_,_,c=>ff c
 |f+1,[],es,c=>by rw[List.isEmpty_iff.mp (show es.isEmpty=true from c)];rfl
 |f+1,_::_,[],c=>ff c
 |f+1,a::l,e::es,c=>an c λδ c2=>congrArg (· +1) (gM9 c2)
theorem hO1{α:Type}{f:α->Bool×Sem Value}(hf:∀a,(f a).1=false):∀l:List α,((l.map f).any (·.1))=false
 | []=>rfl
 |a::l=>by rw[List.map_cons,List.any_cons,hf,hO1 hf l];rfl
theorem gF6{es:List XE}(h:starEach es env=es.map λe=>(false,eval e env))(pos:Pos):(backTo pos (starEach es env)).any (·.1)=false:=by rw[h];unfold backTo;rw[List.map_map];exact hO1 (λδ=>rfl) es
theorem gT5{f:Value}{es:List XE}{pos:Pos}{Q:Args->Shared->Prop}(h:starEach es env=es.map λe=>(false,eval e env))(k:wpAny (model PP w) A (spliced (backTo pos (starEach es env))) (λys s'=>Q ⟨ys,[]⟩ s') E s):
  wpAny (model PP w) A (evalArgs f true (backTo pos (starEach es env)) []) Q E s:=by
 rw[h]at k⊢
 cases es with
 |nil=>
  have k':wpAny (model PP w) A (pure []) (λys s'=>Q ⟨ys,[]⟩ s') E s:=k
  exact λΓ p hΓ=>evalArgs_nil3 (k' Γ p hΓ) Γ p hΓ
 |cons e r=>exact evalArgs_plain k
theorem hH9{f:Value}{first:List Value}{es:List XE}{pos:Pos}(hk:keepIn (Mine.K w.params) f=true)(h:starEach es env=es.map λe=>(false,eval e env))
  (k:wpAny (model PP w) A (spliced (backTo pos (starEach es env))) (λys s'=>(Mine.K w.params).In s'.heap/\wpAny (model PP w) A (call f (first++ys)) Q E s') E s):wpAny (model PP w) A (callWith pos f first (backTo pos (starEach es env)) []) Q E s:=
 callWith_of (by rw[gF6 h];rfl) (keeps_K hk) (gT5 h k)
theorem iM8{v:V}{x:Value}(c:iM9 v x=true):RV w g h v x:=by
 cases x with
 |none=>rw[gL3 c];rfl
 |bool b=>rw[gM1 (bE c)];rfl
 |int j t=>rw[gD7 (bE c)];exact⟨_,rfl⟩
 |str s t=>exact an c λc d=>by rw[gK6 (bE c)];exact⟨_,_,rfl,rfl,Nat.le_trans (oX d) (by decide)⟩
 |_=>exact ff c
theorem hG7:∀ {l:List V}{xs:List Value},gT1 l xs=true->RVs w g h l xs
 | [],xs,c=>List.isEmpty_iff.mp (show xs.isEmpty=true from c)
 |_::_,[],c=>ff c
 |v::l,x::xs,c=>an c λc1 c2=>⟨x,xs,rfl,iM8 c1,hG7 c2⟩
theorem RVs.drop:∀ {l:List V}{xs:List Value}(n:Nat),RVs w g h l xs->RVs w g h (l.drop n) (xs.drop n)
 |_,_,0,r=>r
 | [],_,n+1,r=>by cases r;rfl
 |v::l,_,n+1,r=>by obtain⟨y,ys,rfl,_,r2⟩:=r;exact RVs.drop n r2
theorem RVs.take:∀ {l:List V}{xs:List Value}(n:Nat),RVs w g h l xs->RVs w g h (l.take n) (xs.take n)
 |_,_,0,r=>rfl
 | [],_,n+1,r=>by cases r;rfl
 |v::l,_,n+1,r=>by obtain⟨y,ys,rfl,r1,r2⟩:=r;exact⟨y,ys.take n,rfl,r1,RVs.take n r2⟩
theorem iH2:∀ys:List Value,(List.range ys.length).map (λi=>ys.getD i .none)=ys:=by
 intro ys;apply List.ext_getElem?;intro i;rw[List.getElem?_map];rcases Nat.lt_or_ge i ys.length with q|q
 ·rw[List.getElem?_range q];simp[q]
 ·rw[List.getElem?_eq_none (by simpa using q),List.getElem?_eq_none q];rfl
set_option tactic.hygienic true in
theorem kZ6{P:Params}{i:Nat}(hi:i<70):∃o fn fd,(Mine.K P).lookup (fa i)=some o/\prog.fns[i]?=some fn/\o.data= .func fd/\kJ0 P i=some fd/\kN0 fn fd=true/\fd.closure=[]/\fd.globals=mainGlobals/\fd.builtins=builtinsNs/\codeIn (Mine.K P) fd.code fd.qualname=true:=by
 have:=List.all_eq_true.mp (iY9 P) i (List.mem_range.mpr hi)
 have this:(match (Mine.K P).lookup (fa i),prog.fns[i]? with
  |some o,some fn=>(match o.data with
   | .func fd=>kN0 fn fd&&fd.closure.isEmpty&&fd.globals==mainGlobals&&fd.builtins==builtinsNs&&codeIn (Mine.K P) fd.code fd.qualname
   |_=>false)
  |_,_=>false)=true:=this
 cases h1:(Mine.K P).lookup (fa i)with
 |none=>rw[h1]at this;cases this
 |some o=>
  cases h2:prog.fns[i]? with
  |none=>rw[h1,h2]at this;cases this
  |some fn=>
   rw[h1,h2]at this;obtain⟨a,b,d,e⟩:=o;cases d<;>first|cases this|skip
   rename_i fd;have this:(kN0 fn fd&&fd.closure.isEmpty&&fd.globals==mainGlobals&&fd.builtins==builtinsNs&&codeIn (Mine.K P) fd.code fd.qualname)=true:=this;simp only[Bool.and_eq_true,beq_iff_eq,List.isEmpty_iff]at this;obtain⟨⟨⟨⟨c1,c2⟩,c3⟩,c4⟩,c5⟩:=this;exact⟨_,fn,fd,rfl,rfl,rfl,by unfold kJ0;rw[h1],c1,c2,c3,c4,c5⟩
theorem bnd{a d p:Nat}(c:a<=p/\p<=a+d):a+(d-(a+d-p))=p:=by obtain⟨k,rfl⟩:=Nat.exists_eq_add_of_le c.1;rw[Nat.add_sub_add_left,Nat.sub_sub_self (Nat.le_of_add_le_add_left c.2)]
set_option tactic.hygienic true in
theorem jB8{i:Nat}{fn:Fn}{args vs:List V}{ys:List Value}{fd:FuncData}(B:Bg w sA)(R:Rep w sA g S s)(hi:i<70)(hf:prog.fns[i]?=some fn)(hd:kJ0 w.params i=some fd)(hb:gL9 fn args=some vs)(rs:RVs w g h args ys):
  ∃zs,BindsTo s fd ⟨ys,[]⟩ ((fn.pars.map nm).zip zs)/\RVs w g h vs zs/\zs.length=fn.pars.length:=by
 have dl:=List.all_eq_true.mp (jS9 w.params) i (List.mem_range.mpr hi);rw[hf]at dl;simp only[Bool.and_eq_true,decide_eq_true_eq]at dl;refine e02 dl λd1 d2=> ?_;have d1:=hG7 (w:=w) (g:=g) (h:=h) d1;unfold gL9 at hb
 split at hb
 ·rename_i c;cases hb;have ly:=rs.length;have mem:(i,ys.length)∈arity:=by unfold arity;rw[List.mem_flatMap];refine⟨i,List.mem_range.mpr hi,?_⟩;rw[hf];dsimp only;rw[List.mem_map];exact⟨fn.pars.length-ys.length,List.mem_range.mpr (Nat.lt_succ_of_le (Nat.sub_le_of_le_add (by rw[Nat.add_comm,ly];exact c.2))),by rw[Nat.sub_sub_self (ly▸c.1)]⟩
  refine⟨ys++(jS4 w.params i).drop (ys.length+fn.dfl.length-fn.pars.length),?_,?_,?_⟩
  ·intro M A E Q q;have e:=hK8 (iR0 w.params ⟨M.prog,M.w.params⟩ (λi=>ys.getD i .none)) _ mem;dsimp only at e;rw[hd,hf,iH2]at e;exact(Looks.of_peek (R.K B) e).here q
  ·rw[ly];exact rs.append (d1.drop _)
  ·have:=d1.length;rw[List.length_append,List.length_drop,this];exact bnd (ly▸c)
 ·cases hb
theorem jA6{R:Result->Shared->Prop}{a:Addr}{o:Obj}{fd:FuncData}{body:List PySem.Stmt}{vals:List Value}{binds:List (Str×Value)}
  (hroom:A.depth<recursionLimit)(ho:s.heap.get? a=some o)(hdata:o.data= .func fd)(hlim:s.heap.NoLimit)(hcd:s.heap.CodeRec fd.code fd.qualname)
  (hbody:fd.body= .stmts body)(hbind:BindsTo s fd ⟨vals,[]⟩ binds)(hclo:fd.closure=[])
  (hkind:∀x∈binds,fd.scope.names.lookup x.1=some .local\/(fd.scope.names.lookup x.1=some .cell/\((cellsFrom (s.heap.objs.size+1) fd.scope.names []).lookup x.1).isSome=true))
  (h:∀sA,InCallC s (callEnvC fd s.heap.objs.size a).locals (bindL (callEnvC fd s.heap.objs.size a).kindOf binds λδ=>none) (callEnvC fd s.heap.objs.size a).cells
    (bindC (callEnvC fd s.heap.objs.size a).kindOf binds λδ=>none) sA->
   ∀E,wpAny (model PP w) (A.deeper (callEnvC fd s.heap.objs.size a)) (execs body (callEnvC fd s.heap.objs.size a)) (λf s'=>R (.ok (.ret (match f with| .ret v=>v|_=> .none))) s') E sA)
  (hco:fd.scope.isCoroutine=false) (hgen:fd.scope.isGenerator=false) (hk:fd.scope.kind= .function):
  codeAny (model PP w) A (.call (.ref a) ⟨vals,[]⟩) R s:=by
 refine codeAny_call_function hroom ho hdata hco hgen hbody hcd ?_;rw[hclo];refine hbind _ _ _ _ (wpAny_newFunctionEnv_cells hk hkind λenv he s' x=> ?_);subst he;exact⟨hlim.keeps x.toInCall.keep,codeAny_func (h s' x _)⟩
set_option tactic.hygienic true in
theorem gR2{x:Str}:∀ {names:NKs}{n:Nat}{acc:List (Str×Addr)},(names.lookup x=some .cell\/(acc.lookup x).isSome=true)->((cellsFrom n names acc).lookup x).isSome=true
 | [],n,acc,h=>by
  rcases h with h|h
  ·cases h
  ·exact h
 |(y,k)::r,n,acc,h=>by
  simp only[cellsFrom];rw[gG5]at h
  split
  ·rename_i hk;refine gR2 ?_;rw[gG5]
   split at h
   ·rename_i q;rw[if_pos q];right;rfl
   ·rename_i q;rw[if_neg q];rcases h with h|h
    ·exact .inl h
    ·right;exact h
  ·rename_i hk;refine gR2 ?_
   split at h
   ·rename_i q;rcases h with h|h
    ·cases h;exact absurd rfl hk
    ·exact .inr h
   ·exact h
set_option tactic.hygienic true in
theorem kC0{m:Lo}{x:Nat}{xs:List Nat}{v:V}{vs:List V}:Lo.sets m (x::xs) (v::vs)=Lo.sets (m.set x v) xs vs:=rfl
theorem gV1{kindOf:Str->Option NameKind}:∀ {xs:List Nat}{vs:List V}{zs:List Value}{m₀:Lo}{mm mc:Str->Option Value},RVs w g h vs zs->
  (∀x v,m₀ x=some v->kindOf (nm x)=some .local->∃y,mm (nm x)=some y/\RV w g h v y)->(∀x v,m₀ x=some v->kindOf (nm x)=some .cell->∃y,mc (nm x)=some y/\RV w g h v y)->
  (∀x v,m₀.sets xs vs x=some v->kindOf (nm x)=some .local->∃y,bindL kindOf ((xs.map nm).zip zs) mm (nm x)=some y/\RV w g h v y)/\
  (∀x v,m₀.sets xs vs x=some v->kindOf (nm x)=some .cell->∃y,bindC kindOf ((xs.map nm).zip zs) mc (nm x)=some y/\RV w g h v y)
 | [],vs,zs,m₀,mm,mc,r,h1,h2=>⟨h1,h2⟩
 |x::xs,[],zs,m₀,mm,mc,r,h1,h2=>by
  cases r
  exact⟨h1,h2⟩
 |x::xs,v::vs,zs,m₀,mm,mc,r,h1,h2=>by
  obtain⟨z,zs,rfl,r1,r2⟩:=r;simp only[kC0,List.map_cons,List.zip_cons_cons,bindL,bindC];refine gV1 r2 (λy u e k=> ?_) (λy u e k=> ?_)
  ·simp only[Lo.set]at e
   split at e
   ·rename_i q;subst q;cases e;rw[if_pos k];exact⟨z,if_pos rfl,r1⟩
   ·rename_i q;refine e12 (h1 y u e k) λy' i1 i2=> ?_
    split
    ·exact⟨y',(if_neg λz=>q (gP9 z)).trans i1,i2⟩
    ·exact⟨y',i1,i2⟩
  ·simp only[Lo.set]at e
   split at e
   ·rename_i q;subst q;cases e;rw[if_neg (by rw[k];nofun)];exact⟨z,if_pos rfl,r1⟩
   ·rename_i q;refine e12 (h2 y u e k) λy' i1 i2=> ?_
    split
    ·exact⟨y',i1,i2⟩
    ·exact⟨y',(if_neg λz=>q (gP9 z)).trans i1,i2⟩
theorem Rep.ownAll(R:Rep w sA g S s)(p:Addr->Bool)(f:∀a,p a=true->g.own a= .free/\(s.heap.get? a).isSome=true):
  Rep w sA ⟨g.rho,λa=>if p a=true then .priv else g.own a⟩ S s/\Ext noX g s.heap ⟨g.rho,λa=>if p a=true then .priv else g.own a⟩ s.heap:=by
 have ne:∀b,g.own b≠ .free->¬p b=true:=λb q e=>q (f b e).1;have x:Ext noX g s.heap ⟨g.rho,λa=>if p a=true then .priv else g.own a⟩ s.heap:=⟨λb q=>⟨(if_neg (ne b (by rw[q];nofun))).trans q,rfl⟩,λb q=>⟨(if_neg (ne b (by rw[q];nofun))).trans q,λδ=>rfl⟩,λδ δ q=>q⟩
 refine⟨⟨R.same,λb o' q=>⟨(x.keep b (R.kept b o' q).1).1,(R.kept b o' q).2⟩,λb q=>(by by_cases e:p b=true;(exact(f b e).2);(exact R.live b (λz=>q ((if_neg e).trans z)))),λk o' q=>(R.pl k o' q).mono x λb p=>⟨if_neg (ne b ?_),rfl⟩,R.emp⟩,x⟩;rcases p with p|p<;>(rw[p];nofun)
inductive FlR(w:World)(g:Gh)(h:Heap):Fl->Flow->Prop
 |nx:FlR w g h .nx .next
 |ct:FlR w g h .ct .cont
 |rt {v:V}{y:Value}:RV w g h v y->FlR w g h (.rt v) (.ret y)
noncomputable def jI4(w:World)(sA:Shared)(f:Nat):Prop:=∀ {n:Nat}{l:List MS}{ts:List PySem.Stmt}{env:Env}{m m':Lo}{S S':St}{fl:Fl}{g:Gh}{s:Shared}{A:Around}{E:VP}{Q:Flow->Shared->Prop},
 ckB n env.scope.names l ts=true->exB prog f l m S=some (fl,m',S')->Rep w sA g S s->VarR w g s.heap env m->AOk A f->
 (∀g' fw s',Ext (hI7 env) g s.heap g' s'.heap->Rep w sA g' S' s'->VarR w g' s'.heap env m'->FlR w g' s'.heap fl fw->Q fw s')->wpAny (model PP w) A (execs ts env) Q E s
theorem gU7:∀ {l:List Nat},hD3 l=true->l.Nodup
 | [],_=>List.nodup_nil
 |x::r,h=>by simp only[iW1,Bool.and_eq_true,Bool.not_eq_true']at h;refine List.nodup_cons.mpr ⟨λq=> ?_,gU7 h.2⟩;rw[List.contains_iff_mem.mpr q]at h;cases h.1
set_option tactic.hygienic true in
theorem gQ1{n:Str}{c:Addr}:∀ {l:List (Str×Addr)},l.lookup n=some c->(n,c)∈l
 | [],h=>nomatch h
 |(y,e)::r,h=>by
  rw[gG5]at h
  split at h
  ·rename_i q;cases h;rw[bE q];exact mS
  ·exact mO _ (gQ1 h)
theorem hO0:∀ {l:List (Str×Addr)},(l.Pairwise λx y=>x.2≠y.2)->∀ {p q:Str×Addr},p∈l->q∈l->p.2=q.2->p=q
 | [],_,_,_,h,_,_=>gQ0 h
 |x::r,pw,p,q,hp,hq,e=>by
  refine e02 (List.pairwise_cons.mp pw) λp1 p2=> ?_;rcases mC hp with h1|h1
  ·rcases mC hq with h2|h2
   ·exact h1.trans h2.symm
   ·exact absurd (h1▸e) (p1 q h2)
  ·rcases mC hq with h2|h2
   ·exact absurd (h2▸e).symm (p1 p h1)
   ·exact hO0 p2 h1 h2 e
inductive FrameX(w:World)(sA:Shared)(g:Gh)(S:St)(s:Shared)(env:Env)(m:Lo)(sB:Shared):Prop
 |mk (gB:Gh):Rep w sA gB S sB->VarR w gB sB.heap env m->(∀g' h',Ext (hI7 env) gB sB.heap g' h'->Ext noX g s.heap g' h')->FrameX w sA g S s env m sB
set_option tactic.hygienic true in
theorem hV6{n:Str}{k:NameKind}:∀ {l:NKs},l.lookup n=some k->∃q∈l,q.1=n
 | [],h=>nomatch h
 |x::r,h=>by
  rw[gG5]at h
  split at h
  ·rename_i z;exact⟨x,.head _,(bE z).symm⟩
  ·obtain⟨q,z1,z2⟩:=hV6 h;exact⟨q,.tail _ z1,z2⟩
noncomputable def lF6(env:Env)(a:Addr):Bool:=a==env.locals||env.scope.names.any λn=>env.cells.lookup n.1==some a
theorem kE9{env:Env}{a:Addr}{G:Addr->Prop}(h:lF6 env a=true)(k:G env.locals)(l:∀n a,env.cells.lookup n=some a->G a):G a:=orb h (λh=>by rw[bE h];exact k) λh=>by refine e12 (List.any_eq_true.mp h) λn δ q=> ?_;exact l _ _ (bE q)
theorem iY7{fd:FuncData}{env:Env}{pars:List Nat}{vs:List V}{zs:List Value}{sB:Shared}(R:Rep w sA g S s)(hsc:env.scope=fd.scope)(hlo:env.locals=s.heap.objs.size)(hgl:env.globals=mainGlobals)(hbl:env.builtins=builtinsNs)
  (hce:env.cells=cellsFrom (s.heap.objs.size+1) fd.scope.names [])(hfun:fd.scope.kind= .function)(b2:RVs w g s.heap vs zs)
  (IC:InCallC s env.locals (bindL env.kindOf ((pars.map nm).zip zs) λδ=>none) env.cells (bindC env.kindOf ((pars.map nm).zip zs) λδ=>none) sB):FrameX w sA g S s env (Lo.sets (λδ=>none) pars vs) sB:=by
 obtain⟨⟨⟨hG,tA,rfl⟩,ns,keep,fresh⟩,cell,apart,above⟩:=IC;dsimp only at ns keep cell;rw[hlo]at above;refine e02 (R.grow (h':=hG) (tk₀:=tA) keep) λRB xB=> ?_;have fl:g.own env.locals= .free:=by rw[hlo];exact R.fresh _ (Nat.le_refl _)
 have fc:∀ {n:Str}{c:Addr},env.cells.lookup n=some c->g.own c= .free:=λq=>R.fresh _ (Nat.le_of_lt (above _ _ (gQ1 q)));obtain⟨RC,x3⟩:=RB.ownAll (lF6 env) λa ha=>kE9 (G:=λa=>g.own a= .free/\(hG.get? a).isSome=true) ha ⟨fl,by obtain⟨o,_,_,e,_⟩:=ns;rw[e];rfl⟩ λn a q=>⟨fc q,by obtain⟨o,e,_⟩:=cell _ _ q;rw[e];rfl⟩
 have xC:=xB.trans x3;refine e02 (gV1 (kindOf:=env.kindOf) (m₀:=λδ=>none) (mm:=λδ=>none) (mc:=λδ=>none) (xs:=pars) (b2.mono xC) (by nofun) (by nofun)) λF1 F2=> ?_;have hko:∀ {n k},env.kindOf n=some k->fd.scope.names.lookup n=some k:=λq=>by rw[←hsc];exact q
 have hcl:∀ {n},env.kindOf n=some .cell->∃c,env.cells.lookup n=some c:=λq=>by have:=gR2 (n:=s.heap.objs.size+1) (acc:=[]) (.inl (hko q));rw[←hce]at this;exact Option.isSome_iff_exists.mp this
 refine⟨_,RC,⟨by rw[hsc];exact hfun,hgl,hbl,⟨_,ns,if_pos ?_,F1⟩,λx v e k=> ?_,λn k=> ?_,λn c q=>by rw[hlo];exact Nat.ne_of_gt (above _ _ (gQ1 q)),λn n' c q q'=> ?_⟩,λg' h' y=> ?_⟩
 ·exact Bool.or_eq_true_iff.mpr (.inl (beq_self_eq_true _))
 ·refine e12 (F2 x v e k) λy i1 i2=> ?_;refine e11 (hcl k) λc hc=> ?_;exact⟨c,y,hc,by rw[←i1];exact cell _ _ hc,i2⟩
 ·refine e11 (hcl k) λc hc=> ?_;refine⟨c,_,hc,if_pos ?_,cell _ _ hc⟩;obtain⟨q,z1,rfl⟩:=hV6 (hko k);exact Bool.or_eq_true_iff.mpr (.inr (List.any_eq_true.mpr ⟨q,by rw[hsc];exact z1,beq_iff_eq.mpr hc⟩))
 ·have:=hO0 apart (gQ1 q) (gQ1 q') rfl;injection this
 ·have mf:∀a,hI7 env a->g.own a= .free:=by
   rintro a (rfl|⟨n,_,q⟩)
   ·exact fl
   ·exact fc q
  exact⟨λa q=>⟨(y.keep a (xC.keep a q).1).1,(y.keep a (xC.keep a q).1).2.trans (xC.keep a q).2⟩,
   λa q=>⟨(y.priv a (xC.priv a q).1).1,λδ=>((y.priv a (xC.priv a q).1).2 λz=>by rw[mf a z]at q;cases q).trans ((xC.priv a q).2 id)⟩,λk a q=>y.rho k a (xC.rho k a q)⟩
theorem iB8{fn:Fn}{names:NKs}{zs:List Value}{n:Nat}(hloc:fn.pars.all (λx=>gS7 names (nm x))=true):∀x∈(fn.pars.map nm).zip zs,names.lookup x.1=some .local\/(names.lookup x.1=some .cell/\((cellsFrom n names []).lookup x.1).isSome=true):=by intro x hx;refine e12 (List.mem_map.mp (List.of_mem_zip hx).1) λp hp q=> ?_;have:=List.all_eq_true.mp hloc p hp;rw[q]at this;exact hQ9 this (λz=> .inl z) λz=> .inr ⟨z,gR2 (.inl z)⟩
inductive CkX(fn:Fn)(fd:FuncData):Prop
 |mk (b:List PySem.Stmt):fd.body= .stmts b->fd.scope.kind= .function->fd.scope.isGenerator=false->fd.scope.isCoroutine=false->fn.pars.all (λx=>gS7 fd.scope.names (nm x))=true->ckB 60 fd.scope.names fn.body b=true->CkX fn fd
set_option tactic.hygienic true in
theorem kM9{fn:Fn}{fd:FuncData}(k:kN0 fn fd=true):CkX fn fd:=by
 have k:(match fd.body with| .stmts b=>ckF fn fd.params b fd.scope|_=>false)=true:=k
 cases hbody:fd.body with
 |stmts b=>
  rw[hbody]at k
  refine an k λk hck=>an k λk hloc=>an k λk δ=>an k λk δ=>an k λk hco=>an k λk hgen=>an k λk hfun=>⟨b,hbody,bE hfun,Bool.not_eq_true' _▸hgen,Bool.not_eq_true' _▸hco,hloc,hck⟩
 |_=>rw[hbody]at k;cases k
theorem lJ6{f:Nat}(B:Bg w sA)(hB:jI4 w sA f):iT1 w sA prog (f+1):=by
 intro i args ys S S' v g s A R' hi e R rs ok post;have hi:i<70:=hi;refine e39 (kZ6 (P:=w.params) hi) λo fn fd k1 k2 k3 k4 k5 k6 k7 k8 k9=> ?_;obtain⟨b,hbody,hfun,hgen,hco,hloc,hck⟩:=kM9 k5;refine bd (show(prog.fns[i]?).bind _=some (v,S')from e) λfn' k e=>bd e λvs hb e=>bd e λr he e=>bd e λu ho e4=> ?_;cases k2.symm.trans k;refine e13 (jB8 B R hi k2 k4 hb rs) λzs b1 b2 b3=> ?_;refine jA6 (by have:=ok.1;show A.depth<1000;(exact nl3 (nl9 this) rfl)) (R.K B _ _ k1) k3 (B.lim.keeps R.stays) (codeRec_of (R.K B) k9) hbody b1 k6 (iB8 hloc) (λsB IC E=> ?_) hco hgen hfun;obtain⟨gB,RB,V,back⟩:=iY7 (env:=callEnvC fd s.heap.objs.size (fa i)) R rfl rfl k7 k8 rfl hfun b2 IC;refine hB (n:=60) hck (fl:=r.1) (m':=r.2.1) (S':=r.2.2) he RB V ⟨by have:=ok.1;show A.depth+1+f<950;(exact nl3 (nl5 this) rfl),lL0 ok.2.1,ok.2.2⟩ λg' fw s' y RC V' fl=> ?_;have post:=s2 (G:=λv S'=>Pst w sA g s.heap v S' λv s=>R' (.ok (.ret v)) s) e4.symm post;revert fl;refine Fl.out_eq (G:=λq=>FlR w g' s'.heap q fw->_) ho (λfl=> ?_) λh0 fl=> ?_
 ·cases fl;exact post _ _ _ (back _ _ y) RC ‹_›
 ·cases fl;subst h0;exact post _ _ _ (back _ _ y) RC rfl
end
noncomputable def bfV:BF->Value
 | .len=> .builtin "len"| .int=> .type "int"| .sum=> .builtin "sum"| .sorted=> .builtin "sorted"| .tuple=> .type "tuple"| .list=> .type "list"| .dict=> .type "dict"| .str=> .type "str"| .chr=> .builtin "chr"| .min=> .builtin "min"| .bytes=> .type "bytes"
theorem hD1:∀l:List Int,(gA5 l).Perm l
 | []=> .nil
 |x::r=>by
  have ins:∀(x:Int) (l:List Int),(gZ4 x l).Perm (x::l):=by
   intro x l
   induction l with
   |nil=>exact .refl _
   |cons y r ih=>
    simp only[hM0]
    split
    ·exact .refl _
    ·exact(ih.cons y).trans (.swap ..)
  exact(ins x _).trans ((hD1 r).cons x)
theorem hV4{x y:Int}:∀ {l:List Int},y∈gZ4 x l->y=x\/y∈l
 | [],h=>by simp[jF2]at h;exact .inl h
 |z::r,h=>by
  simp only[hM0]at h
  split at h
  ·rcases mC h with h|h
   ·exact .inl h
   ·exact .inr h
  ·rcases mC h with h|h
   ·exact .inr (h▸ .head _)
   ·rcases hV4 h with h|h
    ·exact .inl h
    ·exact .inr (.tail _ h)
set_option tactic.hygienic true in
theorem gU1:∀l:List Int,(gA5 l).Pairwise (· <= ·)
 | []=> .nil
 |x::r=>by
  have ins:∀(x:Int) (l:List Int),l.Pairwise (· <= ·)->(gZ4 x l).Pairwise (· <= ·):=by
   intro x l
   induction l with
   |nil=>intro _;simp[jF2]
   |cons y r ih=>
    intro h;refine e02 (List.pairwise_cons.mp h) λh1 h2=> ?_;simp only[hM0]
    split
    ·rename_i c;refine List.pairwise_cons.mpr ⟨λz hz=> ?_,h⟩;rcases mC hz with rfl|hz
     ·exact c
     ·exact Int.le_trans c (h1 z hz)
    ·rename_i c;refine List.pairwise_cons.mpr ⟨λz hz=> ?_,ih h2⟩;rcases hV4 hz with rfl|hz
     ·exact Int.le_of_lt (Int.not_le.mp c)
     ·exact h1 z hz
  exact ins x _ (gU1 r)
theorem hC4{l l':List Int}(p:l'.Perm l)(s:l'.Pairwise (· <= ·)):l'=gA5 l:=List.Perm.eq_of_pairwise (λa b δ δ h1 h2=>Int.le_antisymm h1 h2) s (gU1 l) (p.trans (hD1 l).symm)
section
variable{w:World}{sA:Shared}{g g':Gh}{S S':St}{s s':Shared}{h:Heap}{A:Around}{E:VP}{Q:VP}{env:Env}{m:Lo}
theorem gW3{α:Type}{f:V->Option α}{enc:α->V}(he:∀ {v a},f v=some a->v=enc a):∀ {l:List V}{is:List α},hO3 f l=some is->l=is.map enc
 | [],is,e=>by cases e;rfl
 |v::l,is,e=>bd e λi a e=>bd e λr b e=>sS (G:=λis=>v::l=is.map enc) e (by rw[List.map_cons,←he a,←gW3 he b])
theorem gS8{ks:List V}{is:List Int}(e:gQ3 ks=some is):ks=is.map .int:=gW3 gD7 e
theorem hC1{ks:List V}{is:List (List Nat)}(e:gX2 ks=some is):ks=is.map .str:=gW3 gK6 e
theorem hF5:∀ {is:List Int}{ys:List Value},RVs w g h (is.map .int) ys->IntsAre ys is
 | [],_,r=>by cases r;exact .nil
 |_::_,_,r=>by obtain⟨y,ys,rfl,⟨t,rfl⟩,r2⟩:=r;exact .cons _ t (hF5 r2)
theorem hD8{l:List V}{is:List Int}{ys:List Value}(e:gQ3 l=some is)(r:RVs w g h l ys):IntsAre ys is:=by rw[gS8 e]at r;exact hF5 r
theorem hG4:∀ {is:List Int}{ys:List Value},IntsAre ys is->RVs w g h (is.map .int) ys
 |_,_,.nil=>rfl
 |_,_,.cons n t r=>⟨_,_,rfl,⟨t,rfl⟩,hG4 r⟩
theorem hU8:∀ {is:List Int}{ys:List Value},IntsAre ys is->∃xs:List (Int×Tok),ys=xs.map (λp=> .int p.1 p.2)/\xs.map (·.1)=is
 |_,_,.nil=>⟨[],rfl,rfl⟩
 |_,_,.cons n t r=>by obtain⟨xs,a,b⟩:=hU8 r;exact⟨(n,t)::xs,by rw[a];rfl,by rw[←b];rfl⟩
theorem gY3{xs:Array (Int×Tok)}:∀ {n:Nat},n<=xs.size->preSum (numAt xs) n=((xs.toList.map (·.1)).take n).sum
 |0,_=>rfl
 |n+1,l=>by
  simp only[preSum];rw[gY3 (by(exact Nat.le_trans (Nat.le_succ n) l))];have e:(xs.toList.map (·.1))[n]?=some (numAt xs n):=by rw[List.getElem?_map,Array.getElem?_toList];unfold numAt;rw[Array.getElem?_eq_getElem (by(exact l))];rfl
  rw[List.take_add_one,e,List.sum_append];simp
theorem hK0{N:Nat}:∀ {l:List Int},(∀i∈l,i.natAbs<1000000000)->l.sum.natAbs<=l.length*1000000000
 | [],_=>by simp
 |x::r,h=>by have h1:=h x (.head _);have h2:=hK0 (N:=N) (l:=r) λi hi=>h i (.tail _ hi);rw[List.sum_cons,List.length_cons,Nat.succ_mul];refine Nat.le_trans (Int.natAbs_add_le _ _) ?_;rw[Nat.add_comm];exact Nat.add_le_add h2 (Nat.le_of_lt h1)
theorem jF3{x:Int}(h:x.natAbs<=1000000000000000):InLong x:=⟨Int.le_trans (by decide) (naB h).1,Int.lt_of_le_of_lt (naB h).2 (by decide)⟩
theorem kA9{a:Addr}{its:Array Value}{is:List Int}(R:Rep w sA g S s)(hh:A.handled=none)(hl:s.heap.PlainList a its)(hi:IntsAre its.toList is)(z:is.length<1000000)(b:∀i∈is,i.natAbs<1000000000)
  (h:Pst w sA g s.heap (.int is.sum) S Q):wpAny (model PP w) A (call (.builtin "sum") [.ref a]) Q E s:=by
 refine e12 (hU8 hi) λxs e1 e2=> ?_;have ei:its=intItems xs.toArray:=by apply Array.toList_inj.mp;rw[e1];unfold intItems;simp
 subst ei;have hsz:xs.toArray.size=is.length:=by rw[←e2];simp
 have el:xs.toArray.toList.map (·.1)=is:=e2;have pre:∀n,n<=is.length->preSum (numAt xs.toArray) n=(is.take n).sum:=λn hn=>by rw[gY3 (by lia),el]
 refine sum_intList hh hl.isList (λj hj=> ?_) (λh' tk t' k=> ?_)
 ·have hj:j<is.length:=by(exact Nat.lt_of_lt_of_le hj (Nat.le_of_eq hsz))
  have e:=pre (j+1) hj;have b1:=hK0 (N:=0) (l:=is.take (j+1)) λi hi=>b i (List.mem_of_mem_take hi);rw[List.length_take]at b1;refine⟨?_,?_⟩
  ·have:numAt xs.toArray j∈is:=by rw[←el];unfold numAt;rw[Array.getElem?_eq_getElem (by omega)];exact List.mem_map_of_mem (by rw[Array.mem_toList_iff];exact Array.getElem_mem _)
   exact jF3 (Nat.le_trans (Nat.le_of_lt (b _ this)) (by decide))
  ·rw[e];have:min (j+1) is.length*1000000000<=1000000*1000000000:=Nat.mul_le_mul_right _ (Nat.le_trans (Nat.min_le_right ..) (Nat.le_of_lt z));exact jF3 (Nat.le_trans b1 (Nat.le_trans this (by decide)))
 ·refine e02 (R.grow (tk₀:=tk) k) λR' x=> ?_;refine h _ _ _ x R' ⟨t',?_⟩;rw[hsz,pre _ (Nat.le_refl _),List.take_length]
theorem gJ8{l:List V}{out:Array Value}(R:Rep w sA g S s){h':Heap}{a:Addr}(k:∀b o,s.heap.get? b=some o->h'.get? b=some o)(e:∃n,h'.get? a=some (seqObj "list" out n))(fr:g.own a= .free)(z:out.size<=1000000)
  (r:RVs w g s.heap l out.toList){tk:Nat}(h:Pst w sA g s.heap (.loc S.n) (S.new (.lst l)) Q):Q (.ref a) {s with heap:=h',toks:=tk}:=by
 refine e11 e λn e=> ?_;refine e02 (R.grow (tk₀:=tk) k) λRA xA=> ?_;obtain⟨RB,xB⟩:=RA.own fr (by show(h'.get? a).isSome=true;rw[e];rfl) (.mut S.n);refine e02 (RB.place (a:=a) (o:= .lst l) λx3=>⟨a,out,if_pos rfl,gC1,⟨n,e⟩,z,((r.mono xA).mono xB).mono x3⟩) λRC x3=> ?_;exact h _ _ _ ((xA.trans xB).trans x3) RC ⟨a,rfl,if_pos rfl⟩
theorem hU5:∀ {is:List (List Nat)}{ys:List Value},RVs w g h (is.map .str) ys->∃ss:List Str,StrsAre ys ss/\ss.map (λs=>s.cps.toList)=is/\∀s∈ss,s.cps.toList.length<=1000000
 | [],_,r=>by cases r;exact⟨[],.nil,rfl,gC4⟩
 |_::_,_,r=>by obtain⟨y,ys,rfl,⟨s,t,rfl,h1,h2⟩,r2⟩:=r;refine e13 (hU5 r2) λss a b c=> ?_;exact⟨s::ss,.cons s t a,by rw[List.map_cons,b,h1],List.forall_mem_cons.mpr ⟨by rw[h1];exact h2,c⟩⟩
theorem iA8{l:List V}{is:List (List Nat)}{ys:List Value}(e:gX2 l=some is)(r:RVs w g h l ys):∃ss:List Str,StrsAre ys ss/\ss.map (λs=>s.cps.toList)=is/\∀s∈ss,s.cps.toList.length<=1000000:=by rw[hC1 e]at r;exact hU5 r
theorem hT9:∀ {ss:List Str}{ys:List Value},StrsAre ys ss->(∀s∈ss,s.cps.toList.length<=1000000)->RVs w g h (ss.map λs=> .str s.cps.toList) ys
 |_,_,.nil,_=>rfl
 |_,_,.cons n t r,c=>⟨_,_,rfl,⟨n,t,rfl,rfl,c n (.head _)⟩,hT9 r λs hs=>c s (.tail _ hs)⟩
theorem gW1:∀ {ys:List Value}{is:List Int},IntsAre ys is->ys.length=is.length
 |_,_,.nil=>rfl
 |_,_,.cons n t r=>by rw[List.length_cons,List.length_cons,gW1 r]
theorem hU0:∀ {ys:List Value}{is:List Str},StrsAre ys is->ys.length=is.length
 |_,_,.nil=>rfl
 |_,_,.cons n t r=>by rw[List.length_cons,List.length_cons,hU0 r]
theorem hB2{a:Addr}{its:Array Value}{is:List Int}(R:Rep w sA g S s)(hl:s.heap.PlainList a its)(hi:IntsAre its.toList is)(z:is.length<64)
  (h:Pst w sA g s.heap (.loc S.n) (S.new (.lst ((gA5 is).map .int))) Q):wpAny (model PP w) A (call (.builtin "sorted") [.ref a]) Q E s:=by
 have ll:=gW1 hi;refine sorted_ints (vs:=its.toList) (by rw[Array.toArray_toList];exact hl.isList) hi (by(exact Nat.lt_of_le_of_lt (Nat.le_of_eq ll) z)) λout ns' h1 h2 h3=> ?_;have:=hC4 h2 h3;subst this;have lo:=gW1 h1;have lp:=h2.length_eq;rw[Array.length_toList]at lo;exact gJ8 R (tk:=s.toks) (λb o e=>sortedAll_old e) (sortedAll_at _ _ _) (R.fresh _ (by(exact Nat.le_trans (Nat.le_refl s.heap.objs.size) (Nat.le_succ s.heap.objs.size)))) (by lia) (hG4 h1) h
theorem hC3{T:String}{r d:Addr}{n:Nat}{P:Nat->Value->Prop}{OK:Heap->Prop}(K:KdlSrc PP w T r d n P OK)(hh:A.handled=none)(hok:OK s.heap)(hn:n<=sizeLine)
  (h:∀(h':Heap) (tk:Nat) (vs:List Value),(∀b o,s.heap.get? b=some o->h'.get? b=some o)->vs.length=n->(∀(j:Nat) (v:Value),vs[j]?=some v->P j v)->
   wpAny (model PP w) A.in1 (call (.builtin "list.sort") [.ref h'.objs.size]) (λδ s'=>Q (.ref h'.objs.size) s') E {s with heap:=h'.push {cls:= .type "list",data:= .seq vs.toArray},toks:=tk}):
  wpAny (model PP w) A (call (.builtin "sorted") [.ref r]) Q E s:=by
 refine Calls.call_function_entry kind_sorted plain_sorted entry_sorted (args_sorted1 _) ?_;unfold Builtin.«sorted»;refine wpAny_bind (m:=checkCount "sorted" 1 1 _) (wpAny_pure ?_);refine wpAny_bind (kdu_collect (A:=A.in1) K hh hok hn λh' tk acc hk hacc=> ?_);have hl:acc.toList.length=n:=by rw[Array.length_toList];exact hacc.1
 refine wpAny_bind (wpAny_newList ?_ (by rw[hl];exact hn));have hg:=h h' tk acc.toList hk hl (λj v e=>hacc.2 j v (by rw[←Array.getElem?_toList];exact e));refine wpAny_bind (wpAny_holding (wpAny_mono hg (λδ s' x=> ?_) λδ δ e=>e));exact wpAny_pure ⟨_,rfl,x⟩
theorem iG5{l:Addr}{vs:List Value}{is:List Int}{n:Nat}{Q:VP}(hl:s.heap.get? l=some (seqObj "list" vs.toArray n))(hi:IntsAre vs is)(z:vs.length<64)
  (h:∀(out:Array Value) (ns':List Int),IntsAre out.toList ns'->ns'.Perm is->ns'.Pairwise (· <= ·)->Q .none {s with heap:=sortedHeap s.heap l vs out}):wpAny (model PP w) A (call (.builtin "list.sort") [.ref l]) Q E s:=
 wpAny_call_entry slot_list_sort ⟨_,hl,rfl⟩ entry_list_sort (list_sort_tree hl hi z λout ns' a1 a2 a3=>⟨_,rfl,h out ns' a1 a2 a3⟩) (args_list_sort _)
theorem iG4{l:Addr}{vs:List Value}{is:List Str}{n:Nat}{Q:VP}(hl:s.heap.get? l=some (seqObj "list" vs.toArray n))(hi:StrsAre vs is)(z:vs.length<64)
  (h:∀(out:Array Value) (ns':List Str),StrsAre out.toList ns'->ns'.Perm is->sortedS ns'=true->Q .none {s with heap:=sortedHeap s.heap l vs out}):wpAny (model PP w) A (call (.builtin "list.sort") [.ref l]) Q E s:=
 wpAny_call_entry slot_list_sort ⟨_,hl,rfl⟩ entry_list_sort (list_sort_treeK strKind_oneLt hl hi.keysOf (λvB vA rest e=>keyKind_strs (by rw[←e];exact hi)) z λst' hp hs=>by
  refine e13 (sorted_out_str hi hp hs) λss' h1 h2 h3=> ?_
  exact⟨_,rfl,h _ ss' h1 h2 h3⟩) (args_list_sort _)
theorem gS5:∀a b:List Nat,leL a b=true↔¬b<a
 | [],b=>by simp[kX9]
 |a::r,[]=>by simp[kY0]
 |a::r,b::q=>by
  simp only[kY1,List.cons_lt_cons_iff]
  by_cases h1:a<b
  ·rw[if_pos h1];simp;lia
  ·rw[if_neg h1]
   by_cases h2:b<a
   ·rw[if_pos h2];simp[h2]
   ·rw[if_neg h2,gS5 r q];have:a=b:=Nat.le_antisymm (Nat.not_lt.mp h2) (Nat.not_lt.mp h1);subst this;simp
theorem iJ7(a b:List Nat):leL a b=true\/leL b a=true:=by
 rw[gS5,gS5]
 by_cases h:b<a
 ·right;exact List.lt_asymm h
 ·exact .inl h
theorem iW9{a b:List Nat}(h1:leL a b=true)(h2:leL b a=true):a=b:=by rw[gS5]at h1 h2;exact List.le_antisymm (α:=Nat) (as:=a) (bs:=b) h1 h2
theorem hL4{a b c:List Nat}(h1:leL a b=true)(h2:leL b c=true):leL a c=true:=by rw[gS5]at h1 h2⊢;exact List.le_trans (α:=Nat) (l₁:=a) (l₂:=b) (l₃:=c) h1 h2
theorem hD0:∀l:List (List Nat),(hP7 l).Perm l
 | []=> .nil
 |x::r=>by
  have ins:∀(x:List Nat) (l:List (List Nat)),(jF1 x l).Perm (x::l):=by
   intro x l
   induction l with
   |nil=>exact .refl _
   |cons y r ih=>
    simp only[iL7]
    split
    ·exact .refl _
    ·exact(ih.cons y).trans (.swap ..)
  exact(ins x _).trans ((hD0 r).cons x)
set_option tactic.hygienic true in
theorem gU0:∀l:List (List Nat),(hP7 l).Pairwise (λa b=>leL a b=true)
 | []=> .nil
 |x::r=>by
  have mem:∀ {x y:List Nat}{l:List (List Nat)},y∈jF1 x l->y=x\/y∈l:=by
   intro x y l
   induction l with
   |nil=>intro h;simp[jF0]at h;exact .inl h
   |cons z r ih=>
    intro h;simp only[iL7]at h
    split at h
    ·rcases mC h with h|h
     ·exact .inl h
     ·exact .inr h
    ·rcases mC h with h|h
     ·exact .inr (h▸ .head _)
     ·rcases ih h with h|h
      ·exact .inl h
      ·exact .inr (.tail _ h)
  have ins:∀(x:List Nat) (l:List (List Nat)),l.Pairwise (λa b=>leL a b=true)->(jF1 x l).Pairwise (λa b=>leL a b=true):=by
   intro x l
   induction l with
   |nil=>intro _;simp[jF0]
   |cons y r ih=>
    intro h;refine e02 (List.pairwise_cons.mp h) λh1 h2=> ?_;simp only[iL7]
    split
    ·rename_i c;refine List.pairwise_cons.mpr ⟨λz hz=> ?_,h⟩;rcases mC hz with rfl|hz
     ·exact c
     ·exact hL4 c (h1 z hz)
    ·rename_i c;refine List.pairwise_cons.mpr ⟨λz hz=> ?_,ih h2⟩;rcases mem hz with rfl|hz
     ·exact(iJ7 z y).resolve_left c
     ·exact h1 z hz
  exact ins x _ (gU0 r)
theorem gL1:∀ {r:List Str}{p:Str},risingS p r=true->(p::r).Pairwise λa b=>leL a.cps.toList b.cps.toList=true
 | [],p,_=>by simp
 |x::r,p,h=>by
  simp only[risingS,Bool.and_eq_true,Bool.not_eq_true']at h;rw[ltCps_eq]at h;have h1:leL p.cps.toList x.cps.toList=true:=(gS5 _ _).mpr (by simpa using h.1);have ih:=gL1 h.2;refine e02 (List.pairwise_cons.mp ih) λi1 δ=> ?_;refine List.pairwise_cons.mpr ⟨λz hz=> ?_,ih⟩;rcases mC hz with rfl|hz
  ·exact h1
  ·exact hL4 h1 (i1 z hz)
theorem iB4{ss:List Str}{l:List (List Nat)}(p:(ss.map λs=>s.cps.toList).Perm l)(h:sortedS ss=true):(ss.map λs=>s.cps.toList)=hP7 l:=by
 refine List.Perm.eq_of_pairwise (le:=λa b=>leL a b=true) (λa b δ δ h1 h2=>iW9 h1 h2) ?_ (gU0 l) (p.trans (hD0 l).symm)
 cases ss with
 |nil=>exact .nil
 |cons x r=>exact List.pairwise_map.mpr (gL1 h)
theorem jC1:∀is:List (List Nat),(is.map V.str).all gB4=true:=λis=>List.all_eq_true.mpr λx hx=>by obtain⟨y,_,rfl⟩:=List.mem_map.mp hx;rfl
theorem hD7:∀ {l:List Int}{vals vs:List Value},vs.length=l.length->vals.length=l.length->(∀(j:Nat) (v:Value),vs[j]?=some v->∃k x,(l.zip vals)[j]?=some (k,x)/\(intKind PP w).is k v=true)->IntsAre vs l
 | [],vals,[],_,_,_=> .nil
 | [],_,_::_,e,_,_=>by simp at e
 |_::_,_,[],e,_,_=>by simp at e
 |_::_,[],_,_,e,_=>by simp at e
 |k::l,x::vals,v::vs,e1,e2,h=>by refine e22 (h 0 v rfl) λk' x' q1 q2=> ?_;simp at q1;obtain⟨rfl,rfl⟩:=q1;obtain⟨t,rfl⟩:=Value.isInt_shape q2;exact .cons _ t (hD7 (by simpa using e1) (by simpa using e2) λj v hj=>by simpa using h (j+1) v hj)
theorem hD6:∀ {l:List Str}{vals vs:List Value},vs.length=l.length->vals.length=l.length->(∀(j:Nat) (v:Value),vs[j]?=some v->∃k x,(l.zip vals)[j]?=some (k,x)/\(strKind PP w).is k v=true)->StrsAre vs l
 | [],vals,[],_,_,_=> .nil
 | [],_,_::_,e,_,_=>by simp at e
 |_::_,_,[],e,_,_=>by simp at e
 |_::_,[],_,_,e,_=>by simp at e
 |k::l,x::vals,v::vs,e1,e2,h=>by refine e22 (h 0 v rfl) λk' x' q1 q2=> ?_;simp at q1;obtain⟨rfl,rfl⟩:=q1;obtain⟨t,rfl⟩:=Value.isStrOf_shape q2;exact .cons _ t (hD6 (by simpa using e1) (by simpa using e2) λj v hj=>by simpa using h (j+1) v hj)
theorem gX6{d:Addr}{l:List Int}{vals:List Value}(R:Rep w sA g S s)(hh:A.handled=none)(n:(d==sysModules)=false)(e:vals.length=l.length)(hd:s.heap.DictOf (intKind PP w) d (l.zip vals))(z:l.length<64)
  (h:Pst w sA g s.heap (.loc S.n) (S.new (.lst ((gA5 l).map .int))) Q):wpAny (model PP w) A (call (.builtin "sorted") [.ref d]) Q E s:=by
 refine e11 (hd.dictAt) λep hat=> ?_;have lz:(l.zip vals).length=l.length:=by simp[e]
 refine hC3 (kdl_dict (knd:=intKind PP w) (kvs:=l.zip vals) (ep:=ep) n) hh hat (by rw[lz,sizeLine_eq];(exact hD4 (Nat.le_of_lt z) rfl)) λh' tk vs k hl hv=> ?_;have hi:=hD7 (by rw[hl,lz]) e hv;refine iG5 (n:=0) (s:= {s with heap:=h'.push {cls:= .type "list",data:= .seq vs.toArray},toks:=tk}) (Heap.get?_push_size _ rfl) hi (by rw[hl,lz];exact z) λout ns' h1 h2 h3=> ?_;have:=hC4 h2 h3;subst this;have lo:=gW1 h1;have lp:=h2.length_eq;rw[Array.length_toList]at lo;have fr:g.own h'.objs.size= .free:=by have:=(R.grow (tk₀:=tk) k).1.fresh h'.objs.size (Nat.le_refl _);exact this
 refine gJ8 (out:=out) R (tk:=tk) (λb o eb=> ?_) (sortedHeap_at (n:=0) (Heap.get?_push_size _ rfl)) fr (Nat.le_trans (Nat.le_of_eq (lo.trans lp)) (hD4 (Nat.le_of_lt z) rfl)) (hG4 h1) h;have q:=k b o eb;have lt:=Heap.lt_size q;rw[sortedHeap_old (Nat.ne_of_lt lt) (by rw[Heap.size_push];exact Nat.lt_succ_of_lt lt)];exact Heap.get?_push_of_some _ q
theorem gX5{d:Addr}{l:List Str}{vals:List Value}(R:Rep w sA g S s)(hh:A.handled=none)(n:(d==sysModules)=false)(e:vals.length=l.length)(hd:s.heap.DictOf (strKind PP w) d (l.zip vals))(z:l.length<64)(c:∀s∈l,s.cps.toList.length<=1000000)
  (h:Pst w sA g s.heap (.loc S.n) (S.new (.lst ((hP7 (l.map λs=>s.cps.toList)).map .str))) Q):wpAny (model PP w) A (call (.builtin "sorted") [.ref d]) Q E s:=by
 refine e11 (hd.dictAt) λep hat=> ?_;have lz:(l.zip vals).length=l.length:=by simp[e]
 refine hC3 (kdl_dict (knd:=strKind PP w) (kvs:=l.zip vals) (ep:=ep) n) hh hat (by rw[lz,sizeLine_eq];(exact hD4 (Nat.le_of_lt z) rfl)) λh' tk vs k hl hv=> ?_;have hi:=hD6 (by rw[hl,lz]) e hv;refine iG4 (n:=0) (s:= {s with heap:=h'.push {cls:= .type "list",data:= .seq vs.toArray},toks:=tk}) (Heap.get?_push_size _ rfl) hi (by rw[hl,lz];exact z) λout ns' h1 h2 h3=> ?_;have eq:=iB4 (h2.map (λs=>s.cps.toList)) h3;have lo:=hU0 h1;have lp:=h2.length_eq;rw[Array.length_toList]at lo;have fr:g.own h'.objs.size= .free:=by have:=(R.grow (tk₀:=tk) k).1.fresh h'.objs.size (Nat.le_refl _);exact this
 have rr:=hT9 (w:=w) (g:=g) (h:=s.heap) h1 λs hs=>c s (h2.mem_iff.mp hs);have e2:ns'.map (λs=>V.str s.cps.toList)=(hP7 (l.map λs=>s.cps.toList)).map .str:=by rw[←eq,List.map_map];rfl
 rw[e2]at rr;refine gJ8 (out:=out) R (tk:=tk) (λb o eb=> ?_) (sortedHeap_at (n:=0) (Heap.get?_push_size _ rfl)) fr (Nat.le_trans (Nat.le_of_eq (lo.trans lp)) (hD4 (Nat.le_of_lt z) rfl)) rr h;have q:=k b o eb;have lt:=Heap.lt_size q;rw[sortedHeap_old (Nat.ne_of_lt lt) (by rw[Heap.size_push];exact Nat.lt_succ_of_lt lt)];exact Heap.get?_push_of_some _ q
end
section
variable{w:World}{sA:Shared}{g g':Gh}{S S':St}{s s':Shared}{h:Heap}{A:Around}{E:VP}{Q:VP}{env:Env}{m:Lo}
theorem iO4:∀i:Nat,i<10->(Str.ofString (toString (i:Int))).cps.toList=[48+i]:=by decide+kernel
theorem big{n:Nat}(h:n<=1000000):n<=16777216:=by(exact Nat.le_trans h (Nat.le_add_left 1000000 15777216))
theorem kG2{v:V}{y:Value}{n:Nat}(R:Rep w sA g S s)(e:jE0 S v=some n)(r:RV w g s.heap v y)(h:Pst w sA g s.heap (.int n) S Q):wpAny (model PP w) A (call (.builtin "len") [y]) Q E s:=by
 unfold jE0 at e
 cases ht:tOf v with
 |some l=>
  rw[ht]at e;cases e;rw[gI8 ht]at r;obtain⟨a,its,k,rfl,_,h1,z,r1⟩:=r;have l:=r1.length;rw[show its.toList.length=its.size from Array.length_toList]at l
  exact PyProof.Rows.len_tuple ⟨_,h1,rfl,k,rfl⟩ (kR9 z) (h g _ _ (.refl _ _ _) (R.tk _) ⟨_,by rw[l]⟩)
 |none=>
  rw[ht]at e;dsimp only at e
  cases hy:yOf v with
  |some l=>
   rw[hy]at e;cases e;rw[gD6 hy]at r;obtain⟨b,t,rfl,h1,z⟩:=r;subst h1;rw[List.length_map]at z;refine KBw.len_K rfl (by rw[KBw.ints_length,←Array.length_toList];exact Nat.le_trans z (by decide)) (h g _ _ (.refl _ _ _) (R.tk _) ⟨s.toks+1,?_⟩)
   rw[KBw.ints_length,List.length_map,Array.length_toList]
  |none=>
   rw[hy]at e;refine bd e λl hl e=> ?_;cases e;obtain⟨a,its,rfl,h1,z,r1⟩:=gE2 R hl r;have l:=r1.length;rw[show its.toList.length=its.size from Array.length_toList]at l;exact call_len_list h1.isList (kR9 z) (h g _ _ (.refl _ _ _) (R.tk _) ⟨_,by rw[l]⟩)
theorem kH2{v u:V}{y:Value}(R:Rep w sA g S s)(e:lH0 v=some u)(r:RV w g s.heap v y)(h:Pst w sA g s.heap u S Q):wpAny (model PP w) A (call (.type "int") [y]) Q E s:=by
 cases v with
 |int i=>cases e;obtain⟨t,rfl⟩:=r;exact call_int_int (h g _ _ (.refl _ _ _) R ⟨t,rfl⟩)
 |bool b=>cases e;cases r;exact call_int_bool (h g _ _ (.refl _ _ _) (R.tk _) ⟨_,rfl⟩)
 |_=>exact nn e
theorem jJ7{l:List V}{u:V}{y:Value}(R:Rep w sA g S s)(hh:A.handled=none)(e:kB0 l=some u)(r:LstV w g s.heap l y)(h:Pst w sA g s.heap u S Q):wpAny (model PP w) A (call (.builtin "sum") [y]) Q E s:=bd e λis hi e=>ifs e λc e=>an c λc1 c2=>by cases e;obtain⟨a,its,rfl,h1,z,r2⟩:=r;exact kA9 R hh h1 (hD8 hi r2) (oX c1) (λi hi=>oX (List.all_eq_true.mp c2 i hi)) h
theorem iB3{l o:List V}{y:Value}(R:Rep w sA g S s)(e:gK5 l=some o)(r:LstV w g s.heap l y)(h:Pst w sA g s.heap (.loc S.n) (S.new (.lst o)) Q):wpAny (model PP w) A (call (.builtin "sorted") [y]) Q E s:=bd e λis hi e=>ifs e λc e=>by cases e;obtain⟨a,its,rfl,h1,z,r2⟩:=r;exact hB2 R h1 (hD8 hi r2) c h
theorem hP6{p:List V×List V}{o:List V}{y:Value}(R:Rep w sA g S s)(hh:A.handled=none)(kk:p.1.all gC5=true)(e:gK5 p.1=some o)(r:DctV w g s.heap p.1 p.2 y)(h:Pst w sA g s.heap (.loc S.n) (S.new (.lst o)) Q):wpAny (model PP w) A (call (.builtin "sorted") [y]) Q E s:=
 bd e λis hi e=>ifs e λc e=>by
  cases e;obtain⟨d,vals,rfl,h1,z,r2⟩:=r;obtain⟨n1,l,e1,e2,d1⟩:=h1.int kk;have:l=is:=(List.map_inj_right (f:=V.int) (λa b h=>by injection h)|>.mp (e1.symm.trans (gS8 hi)))
  subst this;exact gX6 R hh n1 e2 d1 c h
theorem hP5{p:List V×List V}{o:List V}{y:Value}(R:Rep w sA g S s)(hh:A.handled=none)(e:gU2 p.1=some o)(r:DctV w g s.heap p.1 p.2 y)(h:Pst w sA g s.heap (.loc S.n) (S.new (.lst o)) Q):wpAny (model PP w) A (call (.builtin "sorted") [y]) Q E s:=
 bd e λis hi e=>ifs e λc e=>by
  cases e;obtain⟨d,vals,rfl,h1,z,r2⟩:=r;have hi:=hC1 hi;obtain⟨n1,l,e1,e2,cs,d1⟩:=h1.str (by rw[hi];exact jC1 is)
  have e3:l.map (λs=>s.cps.toList)=is:=by
   have e1:is.map V.str=(l.map (λs:Str=>s.cps.toList)).map V.str:=by rw[←hi,e1,List.map_map];rfl
   exact(List.map_inj_right (f:=V.str) (λa b h=>by injection h)|>.mp e1).symm
  subst e3;exact gX5 R hh n1 e2 d1 (by rwa[List.length_map]at c) cs h
theorem iB2{v:V}{o:List V}{y:Value}(R:Rep w sA g S s)(hh:A.handled=none)(e:gO4 S v=some o)(r:RV w g s.heap v y)(h:Pst w sA g s.heap (.loc S.n) (S.new (.lst o)) Q):wpAny (model PP w) A (call (.builtin "sorted") [y]) Q E s:=by
 unfold gO4 at e
 cases hl:gD4 S v with
 |some l=>rw[hl]at e;exact iB3 R e (gE2 R hl r) h
 |none=>
  rw[hl]at e;refine bd e λp hd e=> ?_
  by_cases kk:p.1.all gC5=true
  ·rw[if_pos kk]at e;exact hP6 R hh kk e (gK1 R hd r) h
  ·rw[if_neg kk]at e;exact hP5 R hh e (gK1 R hd r) h
theorem iT5{l:List V}{y:Value}(R:Rep w sA g S s)(r:LstV w g s.heap l y)(h:Pst w sA g s.heap (.tup l) S Q):wpAny (model PP w) A (call (.type "tuple") [y]) Q E s:=by obtain⟨a,its,rfl,h1,z,r2⟩:=r;refine call_tuple_list h1.isList (λh' k=> ?_) (big z);refine e02 (R.grow (tk₀:=s.toks) k) λRA xA=> ?_;obtain⟨gB,xB,RB,rC⟩:=RA.newTup (tk₀:=s.toks) (r2.mono xA) (by rw[Array.length_toList];exact z);rw[Array.toArray_toList]at xB RB rC;exact h gB _ _ (xA.trans xB) RB rC
theorem jO2{l:List V}{y:Value}(R:Rep w sA g S s)(r:LstV w g s.heap l y)(h:Pst w sA g s.heap (.loc S.n) (S.new (.lst l)) Q):wpAny (model PP w) A (call (.type "list") [y]) Q E s:=by obtain⟨a,its,rfl,⟨n,h1⟩,z,r2⟩:=r;refine call_list_seq a (T:= "list") (.inl rfl) h1 rfl rfl (λh' c' k e'=> ?_) (big z);exact gJ8 (out:=its) R (tk:=s.toks) k ⟨c',e'⟩ (R.fresh _ (Nat.le_refl _)) z r2 h
theorem kB5{i:Int}{y:Value}(c:0<=i/\i<10)(R:Rep w sA g S s)(r:RV w g s.heap (.int i) y)(h:Pst w sA g s.heap (.str [48+i.toNat]) S Q):wpAny (model PP w) A (call (.type "str") [y]) Q E s:=by
 obtain⟨t,rfl⟩:=r;obtain⟨n,rfl⟩:=Int.eq_ofNat_of_zero_le c.1;have c:n<10:=Int.ofNat_lt.mp c.2;refine PySem.P.str_of_int ?_ (h g _ _ (.refl _ _ _) (R.tk _) ⟨_,_,rfl,iO4 n c,Nat.le_add_left 1 _⟩);show(Int.natAbs (n:Int)).log2<1920;rw[Int.natAbs_natCast]
 by_cases z:n=0
 ·subst z;decide
 ·exact(Nat.log2_lt z).mpr (Nat.lt_of_lt_of_le c (Nat.le_trans (by decide:10<=2^4) (Nat.pow_le_pow_right (n:=2) (by decide) (by decide))))
theorem kF7{l:List V}{ys:List Value}{u:V}(R:Rep w sA g S s)(hh:A.handled=none)(e:kX4 l=some u)(r:RVs w g s.heap l ys)(h:Pst w sA g s.heap u S Q):wpAny (model PP w) A (call (.builtin "min") ys) Q E s:=by
 cases l with
 |nil=>exact nn e
 |cons a l=>
  refine bd e λb e1 e=> ?_;rw[hI4 e1]at r;obtain⟨y,ys',rfl,r1,y',ys',rfl,r2,r3⟩:=r;cases r3;revert r1 r2;refine hG6 (G:=λa b=>RV w g s.heap a y->RV w g s.heap b y'->_) e λi j e=> ?_;rintro ⟨t,rfl⟩ ⟨t',rfl⟩;cases e;refine min_two_ints hh λh' tk k=> ?_;refine e02 (R.grow (tk₀:=tk) k) λRA xA=> ?_;refine h _ _ _ xA RA ?_
  split
  ·exact⟨_,rfl⟩
  ·exact⟨_,rfl⟩
theorem iQ7{l:List V}{i:Int}{y:Value}(c:0<=i/\i<256)(R:Rep w sA g S s)(hh:A.handled=none)(e:l=[.int i])(r:LstV w g s.heap l y)(h:Pst w sA g s.heap (.bytes [i.toNat]) S Q):wpAny (model PP w) A (call (.type "bytes") [y]) Q E s:=by
 obtain⟨a,its,rfl,h1,z,r2⟩:=r;subst e;have hi:IntsAre its.toList [i]:=by obtain⟨y,ys',e,⟨t,rfl⟩,r3⟩:=r2;cases r3;rw[e];exact .cons _ t .nil
 refine call_bytes_ints (vs:=its.toList) (by rw[Array.toArray_toList];exact h1.isList) hi (λn hn=>by rw[List.mem_singleton.mp hn];exact c) (by rw[Array.length_toList];exact big z) hh λh' t k kk=> ?_;refine e02 (R.grow (tk₀:=k) kk) λRA xA=> ?_;refine h _ _ _ xA RA ⟨_,t,rfl,?_,Nat.le_add_left 1 _⟩;unfold byteArr;simp;lia
theorem iQ6{v u:V}{y:Value}(R:Rep w sA g S s)(hh:A.handled=none)(e:hN7 S v=some u)(r:RV w g s.heap v y)(q:¬∃l,v= .bytes l)(h:Pst w sA g s.heap u S Q):wpAny (model PP w) A (call (.type "bytes") [y]) Q E s:=by
 have e:((gD4 S v).bind λl=>(a1 l).bind λu=>(iOf u).bind λi=>if 0<=i/\i<256 then some (V.bytes [i.toNat])else none)=some u:=by cases v<;>first|exact absurd ⟨_,rfl⟩ q|exact e
 exact bd e λl hl e=>bd e λx hx e=>bd e λi hi e=>ifs e λc e=>iQ7 c R hh (by rw[hI4 hx,gD7 hi]) (gE2 R hl r) (sS (G:=λu=>Pst w sA g s.heap u S Q) e.symm h)
theorem jA7{b:BF}{vs:List V}{ys:List Value}{q:V×St}(B:Bg w sA)(R:Rep w sA g S s)(hh:A.handled=none)(e:callB S b vs=some q)(r:RVs w g s.heap vs ys)
  (hdict:b= .dict->wpAny (model PP w) A (call (.type "dict") ys) Q E s)(hbytes:∀l,b= .bytes->vs=[.bytes l]->wpAny (model PP w) A (call (.type "bytes") ys) Q E s)
  (h:Pst w sA g s.heap q.1 q.2 Q):wpAny (model PP w) A (call (bfV b) ys) Q E s:=by
 have one:∀ {v:V}{x:Value},a1 vs=some v->(∀y,RV w g s.heap v y->wpAny (model PP w) A (call x [y]) Q E s)->wpAny (model PP w) A (call x ys) Q E s:=λe k=>by rw[hI4 e]at r;obtain⟨y,ys',rfl,r1,r2⟩:=r;cases r2;exact k y r1
 have back:∀ {p:V×St},some p=some q->Pst w sA g s.heap p.1 p.2 Q:=λe=>sS (G:=λq=>Pst w sA g s.heap q.1 q.2 Q) e.symm h
 cases b with
 |len=>exact bd e λv e1 e=>bd e λn e2 e=>one e1 λy r=>kG2 R e2 r (back e)
 |int=>exact bd e λv e1 e=>bd e λn e2 e=>one e1 λy r=>kH2 R e2 r (back e)
 |sum=>exact bd e λv e1 e=>bd e λn e2 e=>bd e λu e3 e=>one e1 λy r=>jJ7 R hh e3 (gE2 R e2 r) (back e)
 |sorted=>exact bd e λv e1 e=>bd e λn e2 e=>one e1 λy r=>iB2 R hh e2 r (back e)
 |tuple=>exact bd e λv e1 e=>bd e λn e2 e=>one e1 λy r=>iT5 R (gE2 R e2 r) (back e)
 |list=>exact bd e λv e1 e=>bd e λn e2 e=>one e1 λy r=>jO2 R (gE2 R e2 r) (back e)
 |dict=>exact hdict rfl
 |str=>exact bd e λv e1 e=>bd e λi e2 e=>ifs e λc e=>one e1 λy r=>kB5 c R (gD7 e2▸r) (back e)
 |chr=>
  exact bd e λv e1 e=>bd e λi e2 e=>ifs e λc e=>one e1 λy r=>by
   rw[gD7 e2]at r;obtain⟨t,rfl⟩:=r
   exact chr_of_range c.1 (Int.le_trans (Int.le_of_lt c.2) (by decide)) (back e g _ _ (.refl _ _ _) (R.tk _) ⟨_,_,rfl,rfl,Nat.le_add_left 1 _⟩)
 |min=>exact bd e λu e1 e=>kF7 R hh e1 r (back e)
 |bytes=>
  exact bd e λv e1 e=>bd e λu e2 e=>by
   by_cases q:∃l,v= .bytes l
   ·obtain⟨l,q⟩:=q;exact hbytes l rfl (by rw[hI4 e1,q])
   ·exact one e1 λy r=>iQ6 R hh e2 r q (back e)
end
noncomputable def lD4:BM->String
 | .append=> "list.append"| .pop0=> "list.pop"| .strJoin=> "str.join"| .bytesJoin=> "bytes.join"| .encode=> "str.encode"| .get1=> "dict.get"| .get2=> "dict.get"| .pop1=> "dict.pop"
section
variable{w:World}{sA:Shared}{g g':Gh}{S S':St}{s s':Shared}{h:Heap}{A:Around}{E:VP}{Q:VP}{env:Env}{m:Lo}
theorem iM1:∀(ys:List Str),(Txt.join ⟨#[]⟩ ys).cps.toList=gE7 [] (ys.map λs=>s.cps.toList):=by
 intro ys
 have fl:∀(r:List Str) (a:Array Nat),(r.foldl (λacc p=>acc++(#[]:Array Nat)++p.cps) a).toList=a.toList++gE7 [] (r.map λs=>s.cps.toList):=by
  intro r
  induction r with
  |nil=>intro a;simp[gZ1,hG2,gZ2]
  |cons x r ih=>
   intro a;rw[List.foldl_cons,ih];cases r<;>simp[gZ1,hG2,gZ2]
 cases ys with
 |nil=>rfl
 |cons x r=>
  show(List.foldl _ x.cps r).toList=_;rw[fl];cases r<;>simp[gZ1,hG2,gZ2]
theorem iM4{d:V}{y:Value}{u:Option V}{o:Option Value}(h1:∀v,u=some v->∃z,o=some z/\RV w g h v z)(h2:u=none->o=none)(hd:RV w g h d y):RV w g h (u.getD d) (o.getD y):=by
 cases u with
 |none=>rw[h2 rfl];exact hd
 |some v=>obtain⟨z,e,r⟩:=h1 v rfl;rw[e];exact r
theorem jF5{dt:V}{y:Value}{o u:V}{x:Value}{k:V}{kv:Value}(R:Rep w sA g S s)(e:hM1 S o k dt=some u)(ro:RV w g s.heap o x)(rk:RV w g s.heap k kv)(rd:RV w g s.heap dt y)
  (h:Pst w sA g s.heap u S Q):wpAny (model PP w) A (call (.builtin "dict.get") [x,kv,y]) Q E s/\(y= .none->wpAny (model PP w) A (call (.builtin "dict.get") [x,kv]) Q E s):=by
 refine bd e λp hd e=>ifs e λkk e=> ?_;have h:=sS (G:=λu=>Pst w sA g s.heap u S Q) e.symm h;obtain⟨a,vals,rfl,h1,_,r1⟩:=gK1 R hd ro;revert rk h;refine gH2 (G:=λk=>RV w g s.heap k kv->Pst w sA g s.heap ((gK2 k p.1 p.2).getD dt) S Q->_) kk (λi kk rk h=> ?_) λi kk rk h=> ?_
 ·obtain⟨n1,l,e1,e2,d1⟩:=h1.int kk;obtain⟨t,rfl⟩:=rk;rw[e1]at h;obtain⟨q1,q2⟩:=gT2 (h:=s.heap) jW5 (k:=_) r1 e2;have fin:=h g _ {s with toks:=s.toks+1} (.refl _ _ _) (R.tk (s.toks+1)) (iM4 q1 q2 rd)
  exact⟨call_meetsIn F.slot_dict_get d1.mapOf.typeIs F.entry_dict_get (F.args_dict_get_3 _ _ _) (meets_dict_get_default _ a (intKind_is PP w _ t) n1 y) ⟨_,d1.mapOf,fin⟩,
   λe=>by subst e;exact call_meetsIn F.slot_dict_get d1.mapOf.typeIs F.entry_dict_get (F.args_dict_get_2 _ _) (meets_dict_get _ a (intKind_is PP w _ t) n1) ⟨_,d1.mapOf,fin⟩⟩
 ·obtain⟨n1,l,e1,e2,_,d1⟩:=h1.str kk;obtain⟨q,t,rfl,rfl,_⟩:=rk;rw[e1]at h;obtain⟨q1,q2⟩:=gT2 (h:=s.heap) (enc:=λs:Str=>V.str s.cps.toList) jW4 (k:=_) r1 e2;have fin:=h g _ {s with toks:=s.toks+1} (.refl _ _ _) (R.tk (s.toks+1)) (iM4 q1 q2 rd)
  exact⟨call_meetsIn F.slot_dict_get d1.mapOf.typeIs F.entry_dict_get (F.args_dict_get_3 _ _ _) (meets_dict_get_default _ a (strKind_is PP w _ t) n1 y) ⟨_,d1.mapOf,fin⟩,
   λe=>by subst e;exact call_meetsIn F.slot_dict_get d1.mapOf.typeIs F.entry_dict_get (F.args_dict_get_2 _ _) (meets_dict_get _ a (strKind_is PP w _ t) n1) ⟨_,d1.mapOf,fin⟩⟩
theorem hL8:∀(ys:List (List Nat)),(gE7 [] ys).length=(ys.map (·.length)).sum
 | []=>rfl
 | [x]=>by simp[gZ1,hG2,gZ2]
 |x::y::r=>by rw[gZ2,List.map_cons,List.sum_cons,←hL8 (y::r)];simp
inductive Del(w:World)(g:Gh)(h:Heap){T:Type}(enc:T->V)(l:List T)(kvs:List (T×Value))(d:List V×List V):Prop
 |mk (l':List T) (vals':List Value):d.1=l'.map enc->RVs w g h d.2 vals'->vals'.length=l'.length->kvs=l'.zip vals'->l'.length<=l.length->(∀x∈l',x∈l)->Del w g h enc l kvs d
theorem iO5{T:Type}[DecidableEq T]{enc:T->V}(he:∀a b,gB1 (enc a) (enc b)=decide (a=b)){k:T}:∀ {l:List T}{vs:List V}{vals:List Value},RVs w g h vs vals->vals.length=l.length->((l.zip vals).map (·.1)).Nodup->Del w g h enc l (without (l.zip vals) k) (hO8 (enc k) (l.map enc) vs)
 | [],[],[],r,e,_=>⟨[],[],rfl,rfl,rfl,rfl,Nat.le_refl _,gC4⟩
 | [],_::_,[],r,e,_=>by obtain⟨_,_,q,_⟩:=r;cases q
 | [],_,_::_,r,e,_=>nomatch e
 |x::l,vs,[],r,e,nd=>nomatch e
 |x::l,[],y'::ys,r,e,nd=>nomatch (show y'::ys=[]from r)
 |x::l,v'::vs,y'::ys,r,e,nd=>by
  obtain⟨yA,ysA,q,r1,r2⟩:=r;cases q;rw[List.zip_cons_cons,List.map_cons,List.nodup_cons]at nd;show Del w g h enc (x::l) _ (if gB1 (enc k) (enc x)then(l.map enc,vs)else _);rw[he]
  by_cases z:k=x
  ·subst z;rw[if_pos (dT rfl)];refine⟨l,ys,rfl,r2,Nat.succ.inj e,?_,Nat.le_succ _,λx hx=> .tail _ hx⟩;unfold without;rw[List.zip_cons_cons,List.filter_cons,if_neg (by simp)];exact List.filter_eq_self.mpr λp hp=>dT λq=>nd.1 (by have:=List.mem_map_of_mem (f:=(·.1)) hp;rwa[q]at this)
  ·have z':¬x=k:=λq=>z q.symm;obtain⟨l',vals',i1,i2,i3,i4,i5,i6⟩:=iO5 he (k:=k) (l:=l) r2 (Nat.succ.inj e) nd.2;rw[if_neg (by rwa[decide_eq_true_eq])];refine⟨x::l',y'::vals',by rw[List.map_cons,i1],⟨y',vals',rfl,r1,i2⟩,congrArg _ i3,?_,Nat.succ_le_succ i5,List.forall_mem_cons.mpr ⟨.head _,λa ha=> .tail _ (i6 a ha)⟩⟩;show without ((x,y')::l.zip ys) k=(x,y')::l'.zip vals';rw[←i4];unfold without;rw[List.filter_cons,if_pos (by simpa using z')]
theorem iR6{k:Nat}{v:V}{q:V×St}{l:List V}{x y:Value}(R:Rep w sA g S s)(hf:frz 9 v S=some q)(hk:gV3 q.2 k=some l)(c:small l.length=true)(ro:RV w g s.heap (.loc k) x)(r1:RV w g s.heap v y)
  (h:Pst w sA g s.heap .none (q.2.upd k (.lst (l++ [q.1]))) Q):wpAny (model PP w) A (call (.builtin "list.append") [x,y]) Q E s:=by
 obtain⟨gA,xA,RA,rB⟩:=gQ6 9 R (v':=q.1) (S':=q.2) hf r1;have hk:=gM7 hk;obtain⟨a,rfl,ra,a',its,q1,q2,q3,q4,q5⟩:=gU8 RA (ro.mono xA) hk;rw[ra]at q1;cases q1;have ll:=q5.length;rw[show its.toList.length=its.size from Array.length_toList]at ll;have c:=oX c;refine wpAny_list_append_plain q3 (λh' p1 p2=> ?_) (by rw[sizeLine_eq];(exact Nat.le_trans q4 (Nat.le_add_left 1000000 15777216)));refine e11 p1 λn p1=> ?_
 obtain⟨RB,xB⟩:=RA.turn (tk₀:=s.toks) p2 (.inl q2) (by rw[p1];rfl) (RA.lt hk) (o:= .lst (l++ [q.1])) λxB=>⟨a,its.push y,ra,q2,⟨n,p1⟩,by rw[Array.size_push];(exact Nat.lt_of_le_of_lt (Nat.le_of_eq ll) c),by
  rw[Array.toList_push];exact(q5.mono xB).snoc (rB.mono xB)⟩
 exact h _ _ _ (xA.trans xB) RB rfl
theorem iC8{its:Array Value}{n:Nat}(e:its.size=n)(p:0<n):(its.eraseIdxIfInBounds (n-1)).toList=its.toList.take (n-1):=by subst e;unfold Array.eraseIdxIfInBounds;rw[dif_pos (Nat.sub_lt p Nat.one_pos),Array.toList_eraseIdx,List.eraseIdx_eq_take_drop_succ,List.drop_eq_nil_of_le (by rw[Array.length_toList];exact Nat.le_of_eq (Nat.sub_add_cancel p).symm),List.append_nil]
theorem jL5{k:Nat}{v:V}{l:List V}{x:Value}(R:Rep w sA g S s)(hk:gV3 S k=some l)(hv:l.getLast?=some v)(ro:RV w g s.heap (.loc k) x)(h:Pst w sA g s.heap v (S.upd k (.lst l.dropLast)) Q):
  wpAny (model PP w) A (call (.builtin "list.pop") [x]) Q E s:=by
 have hk:=gM7 hk;obtain⟨a,rfl,ra,a',its,q1,q2,⟨n,q3⟩,q4,q5⟩:=gU8 R ro hk;rw[ra]at q1;cases q1;have ll:=q5.length;rw[show its.toList.length=its.size from Array.length_toList]at ll;rw[List.getLast?_eq_getElem?]at hv;refine e12 (q5.get hv) λy e1 e2=> ?_;refine call_meets F.slot_list_pop ⟨_,q3,rfl⟩ F.entry_list_pop (F.args_list_pop_1 _) (MeetsSeq.list_pop_last a its n y (by rw[ll,←Array.getElem?_toList];exact e1) (by rw[sizeLine_eq];(exact Nat.le_trans q4 (Nat.le_add_left 1000000 15777216)))) ⟨q3,?_⟩;have at_:=Heap.get?_update_self (λo=>Obj.mapSeq (λxs=>xs.eraseIdxIfInBounds (its.size-1)) o) q3 rfl;have lt:=(List.getElem?_eq_some_iff.mp hv).1;have el:=iC8 ll (by(exact nl8 lt));rw[ll]at at_⊢
 obtain⟨RB,xB⟩:=R.turn (tk₀:=s.toks) (Heap.SameBut.update s.heap a (Obj.mapSeq λxs=>xs.eraseIdxIfInBounds (l.length-1))) (.inl q2) (by rw[at_];rfl) (R.lt hk) (o:= .lst l.dropLast) λxB=>⟨a,its.eraseIdxIfInBounds (l.length-1),ra,q2,⟨_,at_⟩,by
  rw[←Array.length_toList,el,List.length_take];exact Nat.le_trans (Nat.min_le_right _ _) q4,by
  rw[el,List.dropLast_eq_take]
  exact(q5.take _).mono xB⟩
 exact h _ _ _ xB RB (e2.mono xB)
theorem iV0{l:List V}{is:List (List Nat)}{x y:Value}(R:Rep w sA g S s)(hi:gX2 l=some is)(c:small (gE7 [] is).length=true)(ro:RV w g s.heap (.str []) x)(r:LstV w g s.heap l y)(h:Pst w sA g s.heap (.str (gE7 [] is)) S Q):
  wpAny (model PP w) A (call (.builtin "str.join") [x,y]) Q E s:=by
 obtain⟨q,t,rfl,h1,_⟩:=ro;cases (hH7 (b:=⟨#[]⟩) h1);obtain⟨a,its,rfl,h2,z,r2⟩:=r;refine e13 (iA8 hi r2) λss s1 s2 s3=> ?_;have c:=oX c;have sl:(ss.map (·.length)).sum=(gE7 [] is).length:=by rw[hL8,←s2,List.map_map];rfl
 refine join_list h2.isList s1 (by rw[sl];simp[Str.length];(exact hD4 (Nat.le_of_lt c) rfl)) λt' k=> ?_;exact h _ _ _ (.refl _ _ _) (R.tk _) ⟨_,_,rfl,by rw[iM1,s2],Nat.le_of_lt c⟩
theorem iH7{T:Type}[DecidableEq T]{knd:KeyKind PP w T}{kt:T}{enc:T->V}{a:Addr}{m:Nat}{p:List V×List V}{l:List T}{vals:List Value}{kv:Value}{v:V}(he:∀a b,gB1 (enc a) (enc b)=decide (a=b))(is:knd.is kt kv=true)(kp:(keyPart kv).isSome=true)(R:Rep w sA g S s)(hk:S.h m=some (.dct p.1 p.2))
  (ra:g.rho m=some a)(q2:g.own a= .mut m)(n1:(a==sysModules)=false)(e1:p.1=l.map enc)(e2:vals.length=l.length)(q4:p.1.length<=1000000)(q5:RVs w g s.heap p.2 vals)(d1:s.heap.DictOf knd a (l.zip vals))(hv:gK2 (enc kt) p.1 p.2=some v)
  (mk:∀ {g':Gh}{h':Heap}{l':List T}{vals':List Value},(∀x∈l',x∈l)->vals'.length=l'.length->h'.DictOf knd a (l'.zip vals')->DK w h' a (l'.map enc) vals')
  (h:Pst w sA g s.heap v (S.upd m (.dct (hO8 (enc kt) p.1 p.2).1 (hO8 (enc kt) p.1 p.2).2)) Q):wpAny (model PP w) A (call (.builtin "dict.pop") [.ref a,kv]) Q E s:=by
 rw[e1]at hv h q4;rw[List.length_map]at q4;refine e12 ((gT2 (h:=s.heap) he q5 e2).1 _ hv) λz z1 z2=> ?_;have nd:((l.zip vals).map (·.1)).Nodup:=let ⟨_,_,_,_,_,_,_,_,n⟩:=d1;n;obtain⟨l',vals',i1,i2,i3,i4,i5,i6⟩:=iO5 (w:=w) (g:=g) (h:=s.heap) he (k:=kt) q5 e2 nd;refine call_meetsIn F.slot_dict_pop d1.mapOf.typeIs F.entry_dict_pop (F.args_dict_pop_2 _ _) (meets_dict_pop_there knd a is [] (.inl rfl) kp) ⟨_,z,d1,?_,z1,λh' p1 p2=> ?_⟩
 ·rw[List.length_zip,e2,Nat.min_self,sizeLine_eq];(exact Nat.le_trans q4 (Nat.le_add_left 1000000 15777216))
 ·rw[i4]at p1;have lv:(h'.get? a).isSome=true:=by obtain⟨o,_,_,e,_⟩:=p1;rw[e];rfl
  obtain⟨RB,xB⟩:=R.turn (tk₀:=s.toks+1) p2 (.inl q2) lv (R.lt hk) (o:= .dct (hO8 (enc kt) (l.map enc) p.2).1 (hO8 (enc kt) (l.map enc) p.2).2) λxB=>⟨a,vals',ra,q2,by rw[i1];exact mk (g':=g) i6 i3 p1,by rw[i1,List.length_map];(exact Nat.le_trans i5 q4),i2.mono xB⟩
  exact h _ _ _ xB RB (z2.mono xB)
theorem kD9{m:Nat}{k v:V}{p:List V×List V}{x kv:Value}(R:Rep w sA g S s)(hk:iC9 S m=some p)(kk:gA8 k p.1=true)(hv:gK2 k p.1 p.2=some v)(ro:RV w g s.heap (.loc m) x)(rk:RV w g s.heap k kv)
  (h:Pst w sA g s.heap v (S.upd m (.dct (hO8 k p.1 p.2).1 (hO8 k p.1 p.2).2)) Q):wpAny (model PP w) A (call (.builtin "dict.pop") [x,kv]) Q E s:=by
 have hk:=hY5 hk;obtain⟨a,rfl,ra,a',vals,q1,q2,q3,q4,q5⟩:=gU8 R ro hk;rw[ra]at q1;cases q1;revert hv rk h;refine gH2 (G:=λk=>gK2 k p.1 p.2=some v->RV w g s.heap k kv->Pst w sA g s.heap v (S.upd m (.dct (hO8 k p.1 p.2).1 (hO8 k p.1 p.2).2)) Q->_) kk (λi kk hv rk h=> ?_) λi kk hv rk h=> ?_
 ·obtain⟨n1,l,e1,e2,d1⟩:=q3.int kk;obtain⟨t,rfl⟩:=rk;exact iH7 (enc:=V.int) jW5 (intKind_is PP w _ t) rfl R hk ra q2 n1 e1 e2 q4 q5 d1 hv (λδ i3 p1=>⟨n1,.inl ⟨_,rfl,i3,p1⟩⟩) h
 ·obtain⟨n1,l,e1,e2,cs,d1⟩:=q3.str kk;obtain⟨q,t,rfl,rfl,_⟩:=rk;exact iH7 (enc:=λs:Str=>V.str s.cps.toList) jW4 (strKind_is PP w _ t) rfl R hk ra q2 n1 e1 e2 q4 q5 d1 hv (λi6 i3 p1=>⟨n1,.inr ⟨_,rfl,i3,λs hs=>cs s (i6 s hs),p1⟩⟩) h
theorem iP9{b:BM}{o:V}{q:V×St}{x:Value}{vs:List V}{ys:List Value}(R:Rep w sA g S s)(hh:A.handled=none)(e:callBM S b o vs=some q)(ro:RV w g s.heap o x)(r:RVs w g s.heap vs ys)
  (hjoin:b= .bytesJoin->wpAny (model PP w) A (call (.builtin "bytes.join") (x::ys)) Q E s)(henc:b= .encode->wpAny (model PP w) A (call (.builtin "str.encode") (x::ys)) Q E s)
  (h:Pst w sA g s.heap q.1 q.2 Q):wpAny (model PP w) A (call (.builtin (lD4 b)) (x::ys)) Q E s:=by
 have one:∀ {v:V}{z:Value},a1 vs=some v->(∀y,RV w g s.heap v y->wpAny (model PP w) A (call z [x,y]) Q E s)->wpAny (model PP w) A (call z (x::ys)) Q E s:=λe k=>by rw[hI4 e]at r;obtain⟨y,ys',rfl,r1,r2⟩:=r;cases r2;exact k y r1
 have back:∀ {p:V×St},some p=some q->Pst w sA g s.heap p.1 p.2 Q:=λe=>sS (G:=λq=>Pst w sA g s.heap q.1 q.2 Q) e.symm h
 cases b with
 |append=>exact bd e λk e1 e=>bd e λv e2 e=>bd e λp e3 e=>bd e λl e4 e=>ifs e λc e=>one e2 λy r=>iR6 R e3 e4 c (gL5 e1▸ro) r (back e)
 |pop0=>
  exact bd e λk e1 e=>bd e λl e2 e=>ifs e λc e=>bd e λv e3 e=>by
   rw[List.isEmpty_iff.mp c]at r;cases r
   exact jL5 R e2 e3 (gL5 e1▸ro) (back e)
 |strJoin=>
  exact bd e λz e1 e=>ifs e λc e=>bd e λv e2 e=>bd e λl e3 e=>bd e λis e4 e=>ifs e λc' e=>one e2 λy r=>by
   rw[gK6 e1,List.isEmpty_iff.mp c]at ro
   exact iV0 R e4 c' ro (gE2 R e3 r) (back e)
 |bytesJoin=>exact hjoin rfl
 |encode=>exact henc rfl
 |get1=>exact bd e λk e1 e=>bd e λu e2 e=>one e1 λy r=>(jF5 (dt:= .none) (y:= .none) R e2 ro r rfl (back e)).2 rfl
 |get2=>
  cases vs with
  |nil=>exact nn e
  |cons k vs=>
   refine bd e λd e1 e=>bd e λu e2 e=> ?_;obtain⟨y,ys',rfl,r1,r2⟩:=r;rw[hI4 e1]at r2;obtain⟨y2,ys',rfl,r2,r3⟩:=r2;cases r3
   exact(jF5 R e2 ro r1 r2 (back e)).1
 |pop1=>exact bd e λm e1 e=>bd e λk e2 e=>bd e λp e3 e=>ifs e λc e=>bd e λv e4 e=>one e2 λy r=>kD9 R e3 c e4 (gL5 e1▸ro) r (back e)
end
noncomputable def cnt:Nat->Int->Int->List V
 |0,_,_=> []
 |n+1,x,c=> .int x::cnt n (x+c) c
inductive Itr(w:World)(g:Gh)(h:Heap)(I:Addr):List Addr->List V->Prop
 |list {a:Addr}{its:Array Value}{i:Nat}{l:List V}:g.own I= .priv->g.own a= .keep->h.PlainList a its->h.IsListIter I a i->RVs w g h l (its.toList.drop i)->Itr w g h I [I] l
 |tup {a:Addr}{its:Array Value}{i n:Nat}{l:List V}:g.own I= .priv->g.own a= .keep->h.get? a=some ({cls:= .type "tuple",data:= .seq its n}:Obj)->h.IsTupleIter I a i->RVs w g h l (its.toList.drop i)->Itr w g h I [I] l
 |bytes {b:Array UInt8}{t:Tok}{i:Nat}:g.own I= .priv->KBw.IsBytesIter h I b t i->Itr w g h I [I] ((b.toList.drop i).map λu=> .int (u.toNat:Int))
 |dint {d:Addr}{l:List Int}{vals:List Value}{ep i:Nat}:g.own I= .priv->g.own d= .keep->vals.length=l.length->h.DictAt (intKind PP w) d (l.zip vals) ep->h.IsKeyIter I d i (l.zip vals).length ep->Itr w g h I [I] ((l.drop i).map .int)
 |dstr {d:Addr}{l:List Str}{vals:List Value}{ep i:Nat}:g.own I= .priv->g.own d= .keep->vals.length=l.length->(∀s∈l,s.cps.toList.length<=1000000)->h.DictAt (PySem.strKind PP w) d (l.zip vals) ep->h.IsKeyIter I d i (l.zip vals).length ep->Itr w g h I [I] ((l.drop i).map λs=> .str s.cps.toList)
 |range {n:Nat}{x c:Int}:g.own I= .priv->IsRangeIter h I x (n:Int) c->Itr w g h I [I] (cnt n x c)
 |enum {it a:Addr}{its:Array Value}{i:Nat}{l:List V}{old:Value}:g.own I= .priv->g.own it= .priv->I≠it->g.own a= .keep->h.PlainList a its->IsEnum h I it i old->h.IsListIter it a i->RVs w g h l (its.toList.drop i)->Itr w g h I [I,it] (hB6 i l)
 |rev {a:Addr}{its:Array Value}{n:Nat}{l:List V}:g.own I= .priv->g.own a= .keep->h.PlainList a its->h.IsRevIter I a ((n:Int)-1)->n<=its.size->RVs w g h l (its.toList.take n)->Itr w g h I [I] l.reverse
section
variable{w:World}{sA:Shared}{g g':Gh}{S S':St}{s s':Shared}{h h':Heap}{A:Around}{E:VP}{env:Env}{m:Lo}{X:Addr->Prop}{I:Addr}{Ps:List Addr}{l:List V}{v:V}
theorem Itr.own(t:Itr w g h I Ps l):∀a∈Ps,g.own a= .priv:=by
 cases t<;>intro a ha<;>simp only[List.mem_cons,List.not_mem_nil,or_false]at ha
 all_goals first|(subst ha;assumption)|(rcases ha with rfl|rfl<;>assumption)
theorem DictAt.same{T:Type}[DecidableEq T]{knd:KeyKind PP w T}{kvs:List (T×Value)}{a:Addr}{ep:Nat}(e:h'.get? a=h.get? a):h.DictAt knd a kvs ep->h'.DictAt knd a kvs ep:=λ⟨o,es,q,r⟩=>⟨o,es,e.trans q,r⟩
theorem Itr.mono(t:Itr w g h I Ps l)(x:Ext X g h g' h')(n:∀a∈Ps,¬X a):Itr w g' h' I Ps l:=by
 have pr:∀a∈Ps,g'.own a= .priv/\h'.get? a=h.get? a:=λa ha=>⟨(x.priv a (t.own a ha)).1,(x.priv a (t.own a ha)).2 (n a ha)⟩
 cases t with
 |list o k p it r=>
  obtain⟨p1,p2⟩:=pr I (.head _);obtain⟨k1,k2⟩:=x.keep _ k;refine e12 it λob e1 e2=> ?_
  exact .list p1 k1 (IsList.same k2 p) ⟨ob,p2.trans e1,e2⟩ (r.mono x)
 |tup o k p it r=>
  obtain⟨p1,p2⟩:=pr I (.head _);obtain⟨k1,k2⟩:=x.keep _ k;refine e12 it λob e1 e2=> ?_
  exact .tup p1 k1 (k2.trans p) ⟨ob,p2.trans e1,e2⟩ (r.mono x)
 |bytes o it=>
  refine e02 (pr I (.head _)) λp1 p2=> ?_;refine e12 it λob e1 e2=> ?_
  exact .bytes p1 ⟨ob,p2.trans e1,e2⟩
 |dint o k l d it=>
  obtain⟨p1,p2⟩:=pr I (.head _);obtain⟨k1,k2⟩:=x.keep _ k;refine e12 it λob e1 e2=> ?_
  exact .dint p1 k1 l (DictAt.same k2 d) ⟨ob,p2.trans e1,e2⟩
 |dstr o k l c d it=>
  obtain⟨p1,p2⟩:=pr I (.head _);obtain⟨k1,k2⟩:=x.keep _ k;refine e12 it λob e1 e2=> ?_
  exact .dstr p1 k1 l c (DictAt.same k2 d) ⟨ob,p2.trans e1,e2⟩
 |range o it=>
  refine e02 (pr I (.head _)) λp1 p2=> ?_
  exact .range p1 (p2.trans it)
 |enum o o' ne k p en it r=>
  obtain⟨p1,p2⟩:=pr I (.head _);obtain⟨p3,p4⟩:=pr _ (.tail _ (.head _));obtain⟨k1,k2⟩:=x.keep _ k;refine e12 it λob e1 e2=> ?_
  exact .enum p1 p3 ne k1 (IsList.same k2 p) (p2.trans en) ⟨ob,p4.trans e1,e2⟩ (r.mono x)
 |rev o k p it z r=>
  obtain⟨p1,p2⟩:=pr I (.head _);obtain⟨k1,k2⟩:=x.keep _ k;refine e12 it λob e1 e2=> ?_;exact .rev p1 k1 (IsList.same k2 p) ⟨ob,p2.trans e1,e2⟩ z (r.mono x)
theorem Rep.turnI(R:Rep w sA g S s)(o:g.own I= .priv)(hs:Heap.SameBut I s.heap h')(la:(h'.get? I).isSome=true){tk₀:Nat}:Rep w sA g S {s with heap:=h',toks:=tk₀}/\Ext (· ∈ [I]) g s.heap g h':=by refine e02 (R.turnPriv (tk₀:=tk₀) o la λb n δ=>hs.2 b n) λR' x=> ?_;exact⟨R',x.weak λa e=>by rw[e];exact .head _⟩
theorem Rep.turnX(R:Rep w sA g S s)(o:∀a,X a->g.own a= .priv/\(h'.get? a).isSome=true)(e:∀b,¬X b->g.own b≠ .free->h'.get? b=s.heap.get? b){tk₀:Nat}:Rep w sA g S {s with heap:=h',toks:=tk₀}/\Ext X g s.heap g h':=by
 have nx:∀b o',g.own b=o'->o'≠ .priv->¬X b:=λb o' q n z=>n (q.symm.trans (o b z).1);have x:Ext X g s.heap g h':=⟨λb q=>⟨q,e b (nx b _ q (by nofun)) (by rw[q];nofun)⟩,λb q=>⟨q,λn=>e b n (by rw[q];nofun)⟩,λδ δ q=>q⟩
 refine⟨⟨R.at_,λb o q=>⟨(R.kept b o q).1,(x.keep b (R.kept b o q).1).2.trans (R.kept b o q).2⟩,λb q=> ?_,λk o' q=>(R.pl k o' q).mono x λb p=>⟨rfl,e b ?_ ?_⟩,R.emp⟩,x⟩
 ·by_cases n:X b
  ·exact(o b n).2
  ·rw[e b n q];exact R.live b q
 ·rcases p with p|p<;>exact nx b _ p (by nofun)
 ·rcases p with p|p<;>(rw[p];nofun)
theorem Rep.lose(R:Rep w sA g S s)(o:g.own I= .priv)(e:∀b ob,b≠I->s.heap.get? b=some ob->h'.get? b=some ob){tk₀:Nat}:Rep w sA (g.put I .free) S {s with heap:=h',toks:=tk₀}/\
  (∀b,b≠I->(g.put I .free).own b=g.own b/\(g.own b≠ .free->h'.get? b=s.heap.get? b)):=by
 have ne:∀b o',g.own b=o'->o'≠ .priv->b≠I:=by rintro b o' q n rfl;exact n (q.symm.trans o)
 have same:∀b,b≠I->g.own b≠ .free->h'.get? b=s.heap.get? b:=λb n q=>by refine e11 (Option.isSome_iff_exists.mp (R.live b q)) λob z=> ?_;rw[z];exact e b ob n z
 have k:KpS g s.heap (g.put I .free) h':=⟨λb q=>⟨(gB7 (ne b _ q (by nofun))).trans q,same b (ne b _ q (by nofun)) (by rw[q];nofun)⟩,λδ δ q=>q⟩
 refine⟨⟨R.at_,λb ob q=>⟨(k.keep b (R.kept b ob q).1).1,(k.keep b (R.kept b ob q).1).2.trans (R.kept b ob q).2⟩,λb q=> ?_,λj ob q=>(R.pl j ob q).monoK k λb p=> ?_,R.emp⟩,λb n=>⟨gB7 n,same b n⟩⟩
 ·have n:b≠I:=by rintro rfl;exact q gC1
  rw[gB7 n]at q;rw[show({s with heap:=h',toks:=tk₀}:Shared).heap.get? b=h'.get? b from rfl,same b n q];exact R.live b q
 ·have n:b≠I:=by rintro rfl;rw[o]at p;rcases p with p|p<;>cases p
  exact⟨gB7 n,same b n (by rcases p with p|p<;>(rw[p];nofun))⟩
theorem Ext.lost{X:Addr->Prop}{gC:Gh}{hH:Heap}(x:Ext X gC hH g s.heap)(f:gC.own I= .free)(l:∀b,b≠I->(g.put I .free).own b=g.own b/\(g.own b≠ .free->h'.get? b=s.heap.get? b)):Ext X gC hH (g.put I .free) h':=by
 have ne:∀b,gC.own b≠ .free->b≠I:=λb q e=>q (e▸f);refine⟨λb q=> ?_,λb q=> ?_,x.rho⟩
 ·have n:=ne b (by rw[q];nofun);have k:=x.keep b q;exact⟨(l b n).1.trans k.1,((l b n).2 (by rw[k.1];nofun)).trans k.2⟩
 ·have n:=ne b (by rw[q];nofun);have k:=x.priv b q;exact⟨(l b n).1.trans k.1,λz=>((l b n).2 (by rw[k.1];nofun)).trans (k.2 z)⟩
noncomputable def iE0(e:XE):Bool:=(hN0 e).isSome||(iO6 e).isSome
noncomputable def iF5(e:XE):Bool:=(iO6 e).isSome
theorem iC2{t:XE}(c:iE0 t=true){o:Obj}{y:Value}{n:String}{Q:UP}(e:s.heap.get? I=some o)(hc:o.cls= .type n)(hn:(["enumerate","zip","dict_itemiterator","dict_reverseitemiterator","odict_iterator","itertools.zip_longest","itertools.pairwise"].contains n)=false)
  (h:Q () s):wpAny (model PP w) A (letOwnedTupleGo t (.ref I) y) Q E s:=by
 refine orb c (λc=>sm c λq c=>gL7 (G:=λt=>wpAny (model PP w) A (letOwnedTupleGo t (.ref I) y) Q E s) c (wpAny_pure h)) λc=>sm c λq c=>gN7 (G:=λt=>wpAny (model PP w) A (letOwnedTupleGo t (.ref I) y) Q E s) c ?_;cases y<;>first|exact wpAny_pure h|skip
 unfold letOwnedTupleGo;refine wpAny_bind (wpAny_load e ?_);rw[hc];cases o.data<;>first|exact wpAny_pure h|skip
 dsimp only;refine jI8 (by rw[hn,Bool.false_and];decide) ?_;exact wpAny_pure h
noncomputable abbrev gR6(w:World)(A:Around)(E:VP)(t:XE)(I:Addr)(K:VP)(s:Shared):Prop:=wpAny (model PP w) A (pyNext (.ref I)) (λo s'=>match o with|some y=>wpAny (model PP w) A (letOwnedTupleGo t (.ref I) y) (λδ s''=>K y s'') E s'|none=>False) E s
noncomputable def hI5(w:World)(sA:Shared)(g:Gh)(S:St)(s:Shared)(I:Addr)(Ps:List Addr)(v:V)(l:List V)(K:VP):Prop:=∀g' y s',Ext (· ∈Ps) g s.heap g' s'.heap->Rep w sA g' S s'->RV w g' s'.heap v y->Itr w g' s'.heap I Ps l->K y s'
section
variable{t:XE}{K:VP}{i:Nat}
theorem gM4{o':Obj}{n:String}{tk:Nat}{y:Value}(c:iE0 t=true)(o:g.own I= .priv)(i2:Heap.SameBut I s.heap h')(e1:h'.get? I=some o')(e2:o'.cls= .type n)
  (hn:(["enumerate","zip","dict_itemiterator","dict_reverseitemiterator","odict_iterator","itertools.zip_longest","itertools.pairwise"].contains n)=false)(R:Rep w sA g S s)(k:hI5 w sA g S s I [I] v l K)(rv:RV w g s.heap v y)
  (it:Ext (· ∈ [I]) g s.heap g h'->Itr w g h' I [I] l):wpAny (model PP w) A (letOwnedTupleGo t (.ref I) y) (λδ s''=>K y s'') E {s with heap:=h',toks:=tk}:=by
 obtain⟨R',x⟩:=R.turnI (tk₀:=tk) o i2 (by rw[e1];rfl);exact iC2 c e1 e2 hn (k _ _ _ x R' (rv.mono x) (it x))
theorem iG2{a:Addr}{its:Array Value}(R:Rep w sA g S s)(c:iE0 t=true)(k:hI5 w sA g S s I [I] v l K)(o:g.own I= .priv)(ka:g.own a= .keep)(p:s.heap.PlainList a its)(it:s.heap.IsListIter I a i)(r:RVs w g s.heap (v::l) (its.toList.drop i)):gR6 w A E t I K s:=by obtain⟨y,ys,e,r1,r2⟩:=r;refine wpAny_pyNext_list_item it p.isList (x:=y) (by rw[←Array.getElem?_toList,←List.head?_drop,e];rfl) λh' i1 i2=> ?_;refine e13 i1 λo' e1 e2 e3=> ?_;exact gM4 c o i2 e1 e2 (by decide) R k r1 λx=> .list o ka (IsList.same (x.keep _ ka).2 p) ⟨o',e1,e2,e3⟩ (RVs.mono x (by rw[←List.drop_drop,e];exact r2))
theorem iU6{a:Addr}{its:Array Value}{n:Nat}(R:Rep w sA g S s)(c:iE0 t=true)(k:hI5 w sA g S s I [I] v l K)(o:g.own I= .priv)(ka:g.own a= .keep)(p:s.heap.get? a=some ({cls:= .type "tuple",data:= .seq its n}:Obj))(it:s.heap.IsTupleIter I a i)(r:RVs w g s.heap (v::l) (its.toList.drop i)):gR6 w A E t I K s:=by obtain⟨y,ys,e,r1,r2⟩:=r;refine wpAny_pyNext_tuple_item it ⟨_,p,rfl,_,rfl⟩ (x:=y) (by rw[←Array.getElem?_toList,←List.head?_drop,e];rfl) λh' i1 i2=> ?_;refine e13 i1 λo' e1 e2 e3=> ?_;exact gM4 c o i2 e1 e2 (by decide) R k r1 λx=> .tup o ka ((x.keep _ ka).2.trans p) ⟨o',e1,e2,e3⟩ (RVs.mono x (by rw[←List.drop_drop,e];exact r2))
theorem hV5{α:Type}{enc:α->V}{L:List α}(hv:v::l=(L.drop i).map enc):∃u,L[i]?=some u/\v=enc u/\l=(L.drop (i+1)).map enc:=by
 cases hd:L.drop i with
 |nil=>rw[hd]at hv;cases hv
 |cons u r=>
  rw[hd]at hv;refine⟨u,by rw[←List.head?_drop,hd];rfl,(List.cons.inj hv).1,?_⟩;rw[←List.drop_drop,hd];exact(List.cons.inj hv).2
theorem iB0{b:Array UInt8}{t':Tok}(R:Rep w sA g S s)(c:iE0 t=true)(k:hI5 w sA g S s I [I] v l K)(o:g.own I= .priv)(it:KBw.IsBytesIter s.heap I b t' i)(hv:v::l=(b.toList.drop i).map λu=> .int (u.toNat:Int)):gR6 w A E t I K s:=by obtain⟨u,hx,rfl,rfl⟩:=hV5 hv;rw[Array.getElem?_toList]at hx;refine KBw.next_item it hx λh' i1 i2=> ?_;refine e13 i1 λo' e1 e2 e3=> ?_;exact gM4 c o i2 e1 e2 (by decide) R k ⟨_,rfl⟩ λx=> .bytes o ⟨o',e1,e2,e3⟩
theorem hU1{T:Type}[DecidableEq T]{knd:KeyKind PP w T}{enc:T->V}{d:Addr}{L:List T}{vals:List Value}{ep:Nat}(R:Rep w sA g S s)(c:iE0 t=true)(k:hI5 w sA g S s I [I] v l K)(o:g.own I= .priv)(ka:g.own d= .keep)(lv:vals.length=L.length)
  (da:s.heap.DictAt knd d (L.zip vals) ep)(it:s.heap.IsKeyIter I d i (L.zip vals).length ep)(hv:v::l=(L.drop i).map enc)(kr:∀ {u key},L[i]?=some u->knd.is u key=true->RV w g s.heap (enc u) key)
  (mk:∀ {h':Heap},h'.DictAt knd d (L.zip vals) ep->h'.IsKeyIter I d (i+1) (L.zip vals).length ep->Itr w g h' I [I] ((L.drop (i+1)).map enc)):gR6 w A E t I K s:=by
 obtain⟨u,hk,rfl,rfl⟩:=hV5 hv;have lt:=(List.getElem?_eq_some_iff.mp hk).1;refine wpAny_pyNext_dict_item it da (List.getElem?_zip_eq_some.mpr ⟨hk,List.getElem?_eq_getElem (lv▸lt)⟩) λkey h' hkey i1 i2=> ?_;refine e13 i1 λo' e1 e2 e3=> ?_;exact gM4 c o i2 e1 e2 (by decide) R k (kr hk hkey) λx=>mk (DictAt.same (x.keep _ ka).2 da) ⟨o',e1,e2,e3⟩
theorem iA9{n:Nat}{x c':Int}(R:Rep w sA g S s)(c:iE0 t=true)(k:hI5 w sA g S s I [I] (.int x) (cnt n (x+c') c') K)(o:g.own I= .priv)(it:IsRangeIter s.heap I x ((n+1:Nat):Int) c'):gR6 w A E t I K s:=by refine wpAny_pyNext_range_item it (Int.ofNat_lt.mpr (Nat.succ_pos _)) λh' i1 i2=> ?_;exact gM4 c o i2 i1 rfl (by decide) R k ⟨_,rfl⟩ λx=> .range o (by rw[show(n:Int)=((n+1:Nat):Int)-1 by lia];exact i1)
theorem iG3{it a:Addr}{its:Array Value}{old:Value}(R:Rep w sA g S s)(ct:iF5 t=true)(k:hI5 w sA g S s I [I,it] (.tup [.int i,v]) (hB6 (i+1) l) K)(o:g.own I= .priv)(o':g.own it= .priv)(ne:I≠it)(ka:g.own a= .keep)(p:s.heap.PlainList a its)(en:IsEnum s.heap I it i old)(li:s.heap.IsListIter it a i)(r:RVs w g s.heap (v::l) (its.toList.drop i)):gR6 w A E t I K s:=by
 obtain⟨y,ys,e,r1,r2⟩:=r;refine sm ct λq d=>gN7 (G:=λt=>gR6 w A E t I K s) d ?_;refine wpAny_pyNext_enum_item en li p.isList (x:=y) (by rw[←Array.getElem?_toList,←List.head?_drop,e];rfl) ne λh' q1 q2 q3 q4 q5=> ?_;refine wpAny_letOwnedTupleGo_enum q1 λhG eA sB=> ?_;replace sB:Heap.SameBut I h' hG:=sB;have nI:I<s.heap.objs.size:=R.ltOf (by rw[o];nofun);have eit:hG.IsListIter it a (i+1):=by refine e12 q2 λob e1 e2=> ?_;exact⟨ob,(sB.2 _ (Ne.symm ne)).trans e1,e2⟩
 obtain⟨RA,xA⟩:=R.turnX (X:=(· ∈ [I,it])) (h':=hG) (tk₀:=s.toks+1) (List.forall_mem_cons.mpr ⟨⟨o,by rw[eA];rfl⟩,λb q=>by rw[List.mem_singleton.mp q];obtain⟨ob,e1,_⟩:=eit;exact⟨o',by rw[e1];rfl⟩⟩)
  (λb nx q=>by
   have n1:b≠I:=λz=>nx (z▸ .head _);have n2:b≠it:=λz=>nx (z▸ .tail _ (.head _));rw[sB.2 b n1];refine e11 (Option.isSome_iff_exists.mp (R.live b q)) λob e1=> ?_
   rw[e1];exact q5 b ob n1 n2 e1)
 have tt:hG.get? s.heap.objs.size=some {cls:= .type "tuple",data:= .seq #[.int i s.toks,y]}:=(sB.2 _ (Nat.ne_of_gt nI)).trans q3;obtain⟨RB,xB⟩:=RA.own (a:=s.heap.objs.size) (R.fresh _ (Nat.le_refl _)) (by show(hG.get? _).isSome=true;rw[tt];rfl) .keep;have x:=xA.trans (xB.weak nofun);refine k _ _ _ x RB ⟨_,#[.int i s.toks,y],0,rfl,gC1,tt,show 2<=1000000 by decide,⟨_,_,rfl,⟨_,rfl⟩,⟨_,_,rfl,r1.mono x,rfl⟩⟩⟩ ?_;have k1:=x.keep _ ka;exact .enum (x.priv I o).1 (x.priv it o').1 ne k1.1 (IsList.same k1.2 p) eA eit (RVs.mono x (by rw[←List.drop_drop,e];exact r2))
theorem iU7{a:Addr}{its:Array Value}{l':List V}{n:Nat}(R:Rep w sA g S s)(c:iE0 t=true)(k:hI5 w sA g S s I [I] v l'.reverse K)(o:g.own I= .priv)(ka:g.own a= .keep)(p:s.heap.PlainList a its)(it:s.heap.IsRevIter I a ((n:Int)-1))(z:n<=its.size)(r:RVs w g s.heap (l'++ [v]) (its.toList.take n)):gR6 w A E t I K s:=by have ln:=r.length;rw[List.length_take,Array.length_toList,Nat.min_eq_left z,List.length_append]at ln;have ln:n=l'.length+1:=ln;subst ln;obtain⟨y,hy,ry⟩:=r.get (i:=l'.length) (v:=v) (by rw[List.getElem?_append_right (Nat.le_refl _),Nat.sub_self];rfl);rw[List.getElem?_take_of_lt (Nat.lt_succ_self _),Array.getElem?_toList]at hy;rw[show((l'.length+1:Nat):Int)-1=(l'.length:Int)by lia]at it;refine wpAny_pyNext_rev_item it p.isList hy λh' i1 i2=> ?_;refine e13 i1 λo' e1 e2 e3=> ?_;refine gM4 c o i2 e1 e2 (by decide) R k ry λx=> .rev o ka (IsList.same (x.keep _ ka).2 p) ⟨o',e1,e2,e3⟩ (Nat.le_of_succ_le z) (RVs.mono x ?_);have:=r.take l'.length;rwa[List.take_left,List.take_take,Nat.min_eq_left (Nat.le_succ _)]at this
theorem hG3(hh:A.handled=none)(R:Rep w sA g S s)(it:Itr w g s.heap I Ps (v::l))(c:iE0 t=true)(ct:Ps.length=2->iF5 t=true)(k:hI5 w sA g S s I Ps v l K):gR6 w A E t I K s:=by
 generalize hv:v::l=vl at it
 cases it with
 |list o ka p it r=>subst hv;exact iG2 R c k o ka p it r
 |tup o ka p it r=>subst hv;exact iU6 R c k o ka p it r
 |bytes o it=>exact iB0 R c k o it hv
 |dint o ka lv da it=>exact hU1 R c k o ka lv da it hv (λδ q=>Value.isInt_shape q) λd i=> .dint o ka lv d i
 |dstr o ka lv cs da it=>exact hU1 (enc:=λs:Str=>V.str s.cps.toList) R c k o ka lv da it hv (λhk q=>by obtain⟨t',rfl⟩:=Value.isStrOf_shape q;exact⟨_,t',rfl,rfl,cs _ (List.mem_of_getElem? hk)⟩) λd i=> .dstr o ka lv cs d i
 | @range n x c' o it=>
  cases n with
  |zero=>cases hv
  |succ n=>cases hv;exact iA9 R c k o it
 | @enum it a its i l' old o o' ne ka p en li r=>
  cases l' with
  |nil=>cases hv
  |cons v' l'=>cases hv;exact iG3 R (ct rfl) k o o' ne ka p en li r
 | @rev a its n l' o ka p it z r=>
  have hl:l'=l.reverse++ [v]:=by rw[←List.reverse_cons,hv,List.reverse_reverse]
  subst hl;exact iU7 R c (by rw[List.reverse_reverse];exact k) o ka p it z r
end
end
section
variable{w:World}{sA:Shared}{g g':Gh}{S S':St}{s s':Shared}{h h':Heap}{A:Around}{E:VP}{env:Env}{m:Lo}{X:Addr->Prop}{I:Addr}{Ps:List Addr}{l:List V}{v:V}
structure Lost(Ps:List Addr)(g:Gh)(h:Heap)(g':Gh)(h':Heap):Prop where
 rho:g'.rho=g.rho
 own:∀b,b∉Ps->g'.own b=g.own b/\(g.own b≠ .free->h'.get? b=h.get? b)
theorem Rep.lost{a:Addr}(R:Rep w sA g S s)(o:g.own a= .priv)(m:a∈Ps)(e:Heap.ExtBut a s.heap h'){tk₀:Nat}:Rep w sA (g.put a .free) S {s with heap:=h',toks:=tk₀}/\Lost Ps g s.heap (g.put a .free) h':=by refine e02 (R.lose (tk₀:=tk₀) o (λb ob n z=>e b ob n z)) λR' q=> ?_;exact⟨R',rfl,λb n=>q b (by rintro rfl;exact n m)⟩
theorem hQ7{Q:Option Value->Shared->Prop}(hh:A.handled=none)(R:Rep w sA g S s)(it:Itr w g s.heap I Ps [])
  (k:∀g' s',Rep w sA g' S s'->Lost Ps g s.heap g' s'.heap->Q none s'):wpAny (model PP w) A (pyNext (.ref I)) Q E s:=by
 generalize hv:([]:List V)=vl at it;have nx:∀ {its:Array Value}{i:Nat},RVs w g s.heap [] (its.toList.drop i)->its[i]?=none:=λ{its i} r=>by have:=r.length;rw[List.length_drop,Array.length_toList]at this;exact Array.getElem?_eq_none (Nat.le_of_sub_eq_zero this)
 cases it with
 |list o ka p it r=>
  subst hv;refine wpAny_pyNext_list_end hh it p.isList (nx r) λh' e=> ?_;refine e02 (R.lost (Ps:=[I]) (tk₀:=s.toks) o (.head _) e) λR' x=> ?_
  exact k _ _ R' x
 |tup o ka p it r=>
  subst hv;refine wpAny_pyNext_tuple_end hh it ⟨_,p,rfl,_,rfl⟩ (nx r) λh' e=> ?_;refine e02 (R.lost (Ps:=[I]) (tk₀:=s.toks) o (.head _) e) λR' x=> ?_
  exact k _ _ R' x
 | @bytes b t' i o it=>
  have hd:b.toList.drop i=[]:=List.map_eq_nil_iff.mp hv.symm;have hx:b[i]?=none:=Array.getElem?_eq_none (List.drop_eq_nil_iff.mp hd);refine KBw.next_end hh it hx λh' e=> ?_;refine e02 (R.lost (Ps:=[I]) (tk₀:=s.toks) o (.head _) e) λR' x=> ?_
  exact k _ _ R' x
 | @dint d ks vals ep i o ka lv da it=>
  have hd:ks.drop i=[]:=List.map_eq_nil_iff.mp hv.symm;have hx:(ks.zip vals)[i]?=none:=List.getElem?_eq_none (Nat.le_trans (Nat.le_of_eq List.length_zip) (Nat.le_trans (Nat.min_le_left ..) (List.drop_eq_nil_iff.mp hd)));refine wpAny_pyNext_dict_end hh it da hx λh' e=> ?_;refine e02 (R.lost (Ps:=[I]) (tk₀:=s.toks) o (.head _) e) λR' x=> ?_
  exact k _ _ R' x
 | @dstr d ks vals ep i o ka lv cs da it=>
  have hd:ks.drop i=[]:=List.map_eq_nil_iff.mp hv.symm;have hx:(ks.zip vals)[i]?=none:=List.getElem?_eq_none (Nat.le_trans (Nat.le_of_eq List.length_zip) (Nat.le_trans (Nat.min_le_left ..) (List.drop_eq_nil_iff.mp hd)));refine wpAny_pyNext_dict_end hh it da hx λh' e=> ?_;refine e02 (R.lost (Ps:=[I]) (tk₀:=s.toks) o (.head _) e) λR' x=> ?_
  exact k _ _ R' x
 | @range n x c' o it=>
  cases n with
  |succ n=>cases hv
  |zero=>
   refine wpAny_pyNext_range_end hh it (by simp) λh' e=> ?_;refine e02 (R.lost (Ps:=[I]) (tk₀:=s.toks) o (.head _) e) λR' x=> ?_
   exact k _ _ R' x
 | @enum it a its i l' old o o' ne ka p en li r=>
  cases l' with
  |cons v' l'=>cases hv
  |nil=>
   refine wpAny_pyNext_enum_end hh en li p.isList (nx r) λh' e=> ?_;refine e02 (R.lost (Ps:=[I,it]) (tk₀:=s.toks) o' (.tail _ (.head _)) e) λR' x=> ?_
   exact k _ _ R' x
 | @rev a its n l' o ka p it z r=>
  have l0:l'=[]:=by rw[←List.reverse_inj,←hv];rfl
  subst l0;have:=r.length;rw[List.length_take,Array.length_toList,Nat.min_eq_left z]at this;cases this;refine wpAny_pyNext_rev_end hh it λh' e=> ?_;refine e02 (R.lost (Ps:=[I]) (tk₀:=s.toks) o (.head _) e) λR' x=> ?_;exact k _ _ R' x
end
theorem kQ0{a b:Int}(l:a<b):0<=b-a-1:=by lia
theorem lI5{a b c:Int}{f:Nat}(hc:0<c)(h:b-a<=((f+1:Nat):Int)):b-(a+c)<=(f:Int):=by lia
theorem tn1{x:Int}(h:0<=x):(x+1).toNat=x.toNat+1:=Int.toNat_add h (by decide)
set_option tactic.hygienic true in
theorem hC8(c:Int)(hc:0<c):∀(f:Nat) (a b:Int),(b-a).toNat<=f->gY2 f a b c=cnt (Builtin.Range.rangeSize a b c).toNat a c
 |0,a,b,h=>by
  have:¬a<b:=λl=>absurd (Int.toNat_le.mp h) (Int.not_le.mpr (Int.sub_pos_of_lt l))
  rw[show Builtin.Range.rangeSize a b c=0 by simp[Builtin.Range.rangeSize,hc,this]];rfl
 |f+1,a,b,h=>by
  have e:∀a b,Builtin.Range.rangeSize a b c=if a<b then(b-a-1)/c+1 else 0:=λa b=>by simp[Builtin.Range.rangeSize,hc]
  rw[iV4]
  split
  ·rename_i l;rw[hC8 c hc f (a+c) b (Int.toNat_le.mpr (lI5 hc (Int.toNat_le.mp h))),e a b,e (a+c) b,if_pos l];have p:0<=(b-a-1)/c:=Int.ediv_nonneg (kQ0 l) (Int.le_of_lt hc)
   split
   ·rename_i l2;have q:(b-a-1)/c=(b-(a+c)-1)/c+1:=by rw[show b-a-1=(b-(a+c)-1)+c by lia,Int.add_ediv_of_dvd_right (Int.dvd_refl c),Int.ediv_self (Int.ne_of_gt hc)]
    have p2:0<=(b-(a+c)-1)/c:=Int.ediv_nonneg (kQ0 l2) (Int.le_of_lt hc);rw[q,show((b-(a+c)-1)/c+1+1).toNat=((b-(a+c)-1)/c+1).toNat+1 from tn1 (Int.add_nonneg p2 (by decide))];rfl
   ·rename_i l2;have q:(b-a-1)/c=0:=Int.ediv_eq_zero_of_lt (kQ0 l) (Int.lt_of_lt_of_le (Int.sub_lt_self _ (by decide)) (Int.sub_left_le_of_le_add (Int.not_lt.mp l2)));rw[q];rfl
  ·rename_i l;rw[e,if_neg l];rfl
theorem kZ5{x:Int}(h: -3000000<=x/\x<=3000000): -2^63<=x/\x<2^63:=⟨Int.le_trans (by decide) h.1,Int.lt_of_le_of_lt h.2 (by decide)⟩
theorem na6{i:Int}(h:i.natAbs<=1000000): -1000000<=i/\i<=1000000:=naB h
theorem mm6{i:Int}(h: -1000000<=i/\i<=1000000): -2^63<=i/\i<2^63:=kZ5 ⟨Int.le_trans (by decide) h.1,Int.le_trans h.2 (by decide)⟩
theorem iH3{a b c:Int}(h:rOk a b c=true):Builtin.Range.small a b c=true/\0<c:=by
 simp only[rOk,Bool.and_eq_true,decide_eq_true_eq]at h;refine e02 h λh h4=>e02 h λh h3=>e02 h λh1 h2=>⟨?_,h3⟩
 have a1:=na6 h1;have b1:=na6 h2;have c1: -1000000<=c/\c<=1000000:=⟨Int.le_trans (by decide) (Int.le_of_lt h3),h4⟩
 have bc: -2^63<=b+(c-1)/\b+(c-1)<2^63:=kZ5 ⟨Int.le_trans (by decide) (Int.add_le_add b1.1 (Int.le_sub_one_of_lt h3)),Int.le_trans (Int.add_le_add b1.2 (Int.le_trans (Int.sub_le_self c (by decide)) h4)) (by decide)⟩;have hc:c>0:=h3;simp only[Builtin.Range.small,Builtin.Range.rangeSize,Builtin.Range.rangeFitsLong,hc,if_true,Bool.and_eq_true,Bool.or_eq_true,decide_eq_true_eq,beq_iff_eq]
 by_cases l:a<b
 ·rw[if_pos l];have z:=kQ0 l;refine⟨⟨⟨⟨mm6 a1,mm6 b1⟩,mm6 c1⟩,kZ5 ⟨Int.le_trans (by decide) (Int.add_nonneg (Int.ediv_nonneg z (Int.le_of_lt h3)) (by decide)),Int.le_trans (Int.add_le_add_right (Int.ediv_le_self _ z) 1) (Int.le_trans (Int.le_of_eq (Int.sub_add_cancel (b-a) 1)) (Int.le_trans (Int.sub_le_sub b1.2 a1.1) (by decide)))⟩⟩,.inr bc⟩
 ·rw[if_neg l];exact⟨⟨⟨⟨mm6 a1,mm6 b1⟩,mm6 c1⟩,by decide⟩,.inl rfl⟩
section
variable{w:World}{sA:Shared}{g g':Gh}{S S':St}{s s':Shared}{h h':Heap}{A:Around}{E:VP}{env:Env}{m:Lo}{X:Addr->Prop}{I:Addr}{Ps:List Addr}{l:List V}{v:V}{Q:VP}
noncomputable abbrev Pit(w:World)(sA:Shared)(g:Gh)(h:Heap)(l:List V)(S':St)(en:Prop)(Q:VP):Prop:=∀gA hE g' s' I Ps,Ext noX g h gA hE->Ext noX gA hE g' s'.heap->Rep w sA g' S' s'->Itr w g' s'.heap I Ps l->(∀a∈Ps,gA.own a= .free)->(Ps.length=2->en)->Q (.ref I) s'
theorem hV9{K:VP}(it:Itr w g s.heap I Ps l)(k:K (.ref I) s):wpAny (model PP w) A (pyIter (.ref I)) K E s:=by
 cases it with
 |list o ka p it r=>exact wpAny_pyIter_listiter it k
 |tup o ka p it r=>exact wpAny_pyIter_tupleiter it k
 |bytes o it=>exact KBw.pyIter_self it k
 |dint o ka lv da it=>exact wpAny_pyIter_keyiter it k
 |dstr o ka lv cs da it=>exact wpAny_pyIter_keyiter it k
 |range o it=>exact wpAny_pyIter_rangeiter it k
 |enum o o' ne ka p en li r=>exact wpAny_pyIter_enum en k
 |rev o ka p it z r=>exact wpAny_pyIter_revIter it k
theorem iJ4{x:Addr}{its:Array Value}{en:Prop}(R:Rep w sA g S s)(ka:g.own x= .keep)(p:s.heap.PlainList x its)(r:RVs w g s.heap l its.toList)(h:Pit w sA g s.heap l S en Q):wpAny (model PP w) A (pyIter (.ref x)) Q E s:=by refine wpAny_pyIter_list p.isList ?_;refine e03 (R.priv (tk₀:=s.toks) {cls:= .type "list_iterator",data:= .fields #[.ref x,.int 0 0]}) λR' x' o=> ?_;have k:=x'.keep _ ka;exact h _ _ _ _ _ _ (.refl _ _ _) x' R' (.list o k.1 (IsList.same k.2 p) ⟨_,Heap.get?_push_size _ rfl,rfl,rfl⟩ (r.mono x')) (λb hb=>by cases hb with|head=>exact R.fresh _ (Nat.le_refl _)|tail _ q=>cases q) (by nofun)
theorem iT7{x:Value}{en:Prop}(R:Rep w sA g S s)(r:RV w g s.heap (.tup l) x)(h:Pit w sA g s.heap l S en Q):wpAny (model PP w) A (pyIter x) Q E s:=by obtain⟨a,its,n,rfl,ka,p,z,r⟩:=r;refine wpAny_pyIter_tuple ⟨_,p,rfl,_,rfl⟩ ?_;refine e03 (R.priv (tk₀:=s.toks) {cls:= .type "tuple_iterator",data:= .fields #[.ref a,.int 0 0]}) λR' x' o=> ?_;have k:=x'.keep _ ka;exact h _ _ _ _ _ _ (.refl _ _ _) x' R' (.tup o k.1 (k.2.trans p) ⟨_,Heap.get?_push_size _ rfl,rfl,rfl⟩ (r.mono x')) (λb hb=>by rw[List.mem_singleton.mp hb];exact R.fresh _ (Nat.le_refl _)) (by nofun)
theorem jB4{x:Value}{l:List Nat}{en:Prop}(R:Rep w sA g S s)(r:RV w g s.heap (.bytes l) x)(h:Pit w sA g s.heap (l.map λ(c:Nat)=>V.int c) S en Q):wpAny (model PP w) A (pyIter x) Q E s:=by obtain⟨b,t,rfl,rfl,z⟩:=r;refine KBw.pyIter_bytes ?_;refine e03 (R.priv (tk₀:=s.toks) {cls:= .type "bytes_iterator",data:= .fields #[.bytes b t,.int 0 0]}) λR' x' o=> ?_;have:=Itr.bytes (w:=w) (h:=s.heap.push {cls:= .type "bytes_iterator",data:= .fields #[.bytes b t,.int 0 0]}) (b:=b) (t:=t) (i:=0) o ⟨_,Heap.get?_push_size _ rfl,rfl,rfl⟩;exact h _ _ _ _ _ _ (.refl _ _ _) x' R' (by rw[List.map_map];exact this) (λb hb=>by rw[List.mem_singleton.mp hb];exact R.fresh _ (Nat.le_refl _)) (by nofun)
theorem hV8{T:Type}[DecidableEq T]{knd:KeyKind PP w T}{kvs:List (T×Value)}{x:Addr}{en:Prop}(R:Rep w sA g S s)(ka:g.own x= .keep)(hs:(x==sysModules)=false)(d:s.heap.DictOf knd x kvs)
  (it:∀ {g' h' I ep},g'.own I= .priv->g'.own x= .keep->h'.DictAt knd x kvs ep->h'.IsKeyIter I x 0 kvs.length ep->Itr w g' h' I [I] l)(h:Pit w sA g s.heap l S en Q):wpAny (model PP w) A (pyIter (.ref x)) Q E s:=by
 refine e11 (d.dictAt) λep d=> ?_;refine wpAny_pyIter_dict hs d ?_;refine e03 (R.priv (tk₀:=s.toks) {cls:= .type "dict_keyiterator",data:= .fields #[.ref x,.int 0 0,.int kvs.length 0,.int ep 0]}) λR' x' o=> ?_;have k:=x'.keep _ ka;exact h _ _ _ _ _ _ (.refl _ _ _) x' R' (it o k.1 (DictAt.same k.2 d) ⟨_,Heap.get?_push_size _ rfl,rfl,rfl⟩) (λb hb=>by rw[List.mem_singleton.mp hb];exact R.fresh _ (Nat.le_refl _)) (by nofun)
theorem jA0{x:Value}{ks vs:List V}{en:Prop}(R:Rep w sA g S s)(r:RV w g s.heap (.dct ks vs) x)(h:Pit w sA g s.heap ks S en Q):wpAny (model PP w) A (pyIter x) Q E s:=by
 obtain⟨a,vals,rfl,ka,⟨hs,⟨ks,rfl,lv,d⟩|⟨ks,rfl,lv,cs,d⟩⟩,z,_⟩:=r
 ·exact hV8 R ka hs d (λo k d it=> .dint (i:=0) o k lv d it) h
 ·exact hV8 R ka hs d (λo k d it=> .dstr (i:=0) o k lv cs d it) h
theorem Pit.from{gA:Gh}{hE:Heap}{S':St}{en:Prop}(h:Pit w sA g h' l S' en Q)(x:Ext noX g h' gA hE):Pit w sA gA hE l S' en Q:=λgB hG g' s' I Ps xB=>h gB hG g' s' I Ps (x.trans xB)
theorem iX8{x:Value}{v:V}{q:List V×St}{en:Prop}(R:Rep w sA g S s)(e:gG2 S v=some q)(r:RV w g s.heap v x)(h:Pit w sA g s.heap q.1 q.2 en Q):wpAny (model PP w) A (pyIter x) Q E s:=by
 unfold gG2 at e;have back:∀ {p:List V×St},some p=some q->Pit w sA g s.heap p.1 p.2 en Q:=λe=>sS (G:=λq=>Pit w sA g s.heap q.1 q.2 en Q) e.symm h
 cases ht:tOf v with
 |some l=>rw[ht]at e;exact iT7 R (gI8 ht▸r) (back e)
 |none=>
  rw[ht]at e;dsimp only at e
  cases hy:yOf v with
  |some l=>rw[hy]at e;exact jB4 R (gD6 hy▸r) (back e)
  |none=>
   rw[hy]at e;refine bd e λp hf e=>bd e λl hl e=> ?_;have h:=back e;obtain⟨gA,xA,RA,rA⟩:=gQ6 _ R (v':=p.1) (S':=p.2) hf r;obtain⟨v',SA⟩:=p;cases v'<;>first|exact nn hl|skip
   ·cases hl;obtain⟨a,its,rfl,ka,p,z,rB⟩:=rA;exact iJ4 RA ka p rB (h.from xA)
   ·cases hl;exact jA0 RA rA (h.from xA)
noncomputable def kS4(w:World)(sA:Shared)(T:Txt)(f:Nat):Prop:=∀ {n:Nat}{it:It}{e:XE}{env:Env}{m:Lo}{S S':St}{l:List V}{g:Gh}{s:Shared}{A:Around}{E:VP}{Q:VP},
 ckI n env.scope.names it e=true->itI T f it m S=some (l,S')->Rep w sA g S s->VarR w g s.heap env m->AOk A f->Pit w sA g s.heap l S' (∃e,it= .enum e) Q->wpAny (model PP w) A (eval e env) (λx s'=>wpAny (model PP w) A (pyIter x) Q E s') E s
theorem gW6{T:String}{es:List XE}{pos:Pos}{Q:VP}(h:starEach es env=es.map λe=>(false,eval e env))
  (k:wpAny (model PP w) A (spliced (backTo pos (starEach es env))) (λys s'=>wpAny (model PP w) A (call (.type T) ys) Q E s') E s):wpAny (model PP w) A (callWith pos (.type T) [] (backTo pos (starEach es env)) []) Q E s:=
 PySem.callWith_type (by rw[gF6 h]) (gT5 h k)
theorem hU2{sc:NKs}{f:Nat}{me:ME}{e:XE}(c:ckE f sc me e=true):starEach [e] env=[(false,eval e env)]:=gP5 c
theorem gX4{e:XE}{pos:Pos}{Q:List Value->Shared->Prop}(h:starEach [e] env=[(false,eval e env)])(k:wpAny (model PP w) A (eval e env) (λy s'=>Q [y] s') E s):
  wpAny (model PP w) A (spliced (backTo pos (starEach [e] env))) Q E s:=by
 rw[h];exact spliced_cons (wpAny_mono k (λy s' q=>spliced_nil q) λδ δ e=>e)
theorem gY1{a b c:Int}{t u v:Tok}{tk:Nat}{en:Prop}(R:Rep w sA g S s)(hr:rOk a b c=true)(h:Pit w sA g s.heap (gY2 (b-a).toNat a b c) S en Q):
  wpAny (model PP w) A (pyIter (.ref s.heap.objs.size)) Q E {s with heap:=s.heap.push {cls:= .type "range",data:= .fields #[.int a t,.int b u,.int c v]},toks:=tk}:=by
 refine e02 (iH3 hr) λhs hc=> ?_;refine wpAny_pyIter_range (IsRange.new s.heap a b c t u v) hs ?_;refine e02 (R.push (tk₀:=tk) {cls:= .type "range",data:= .fields #[.int a t,.int b u,.int c v]}) λRA xA=> ?_;refine e03 (RA.priv (tk₀:=tk) {cls:= .type "range_iterator",data:= .fields #[rawInt a,rawInt (Builtin.Range.rangeSize a b c),rawInt c]}) λRB xB o=> ?_
 have p:0<=Builtin.Range.rangeSize a b c:=by
  simp only[Builtin.Range.rangeSize,hc,gt_iff_lt,if_true]
  split
  ·have:=Int.ediv_nonneg (a:=b-a-1) (b:=c) (by lia) (by lia);omega
  ·lia
 have it:=Itr.range (w:=w) (n:=(Builtin.Range.rangeSize a b c).toNat) (x:=a) (c:=c) o (by
  rw[Int.toNat_of_nonneg p]
  exact Heap.get?_push_size _ rfl)
 rw[←hC8 c hc _ _ _ (Nat.le_refl _)]at it;exact h _ _ _ _ _ _ xA xB RB it (λb hb=>by rw[List.mem_singleton.mp hb];exact RA.fresh _ (Nat.le_refl _)) (by nofun)
theorem iV3{vs:List V}{ys:List Value}{en:Prop}(R:Rep w sA g S s)(e:hC7 vs=some l)(r:RVs w g s.heap vs ys)(h:Pit w sA g s.heap l S en Q):
  wpAny (model PP w) A (call (.type "range") ys) (λx s'=>wpAny (model PP w) A (pyIter x) Q E s') E s:=by
 refine bd e λis hi e=> ?_;rw[gS8 hi]at r;replace r:=hF5 r;have fin:∀ {a b c:Int},kQ1 a b c=some l->rOk a b c=true/\Pit w sA g s.heap (gY2 (b-a).toNat a b c) S en Q:=λe=>ifs e λc e=>⟨c,sS (G:=λl=>Pit w sA g s.heap l S en Q) e.symm h⟩
 cases r with
 |nil=>exact nn e
 |cons a t r=>
  cases r with
  |nil=>exact call_range_1 (gY1 R (fin e).1 (fin e).2)
  |cons b u r=>
   cases r with
   |nil=>exact call_range_2 (gY1 R (fin e).1 (fin e).2)
   |cons c v r=>
    cases r with
    |cons _ _ _=>exact nn e
    |nil=>
     refine e02 (fin e) λhr h=> ?_;have h4:=hr;simp only[rOk,Bool.and_eq_true,decide_eq_true_eq]at h4;exact call_range_3 (Int.ne_of_gt h4.1.2) (gY1 R hr h) (.inl (PyProof.noPylong_small (Int.ofNat_lt.mp (by rw[Int.natAbs_of_nonneg (Int.le_of_lt h4.1.2)];exact Int.lt_of_le_of_lt h4.2 (by decide)))))
theorem gE4{e:XE}{q:Str×List XE}{G:XE->Prop}(h:hN5 e=some q)(k:∀p p',G (.Call (.Name q.1 p) q.2 [] p')):G e:=
 bd h λc d h=>bd h λn d' h=>ifs h λz h=>hH6 d (gL7 (G:=λf=>G (.Call f c.2.1 c.2.2.1 c.2.2.2)) d' (by
  rw[List.isEmpty_iff.mp z]
  exact sS (G:=λq:Str×List XE=>∀p p',G (.Call (.Name q.1 p) q.2 [] p')) h.symm k _ _))
theorem iZ3{a0:Addr}{its:Array Value}{en:Prop}(R:Rep w sA g S s)(ka:g.own a0= .keep)(pA:s.heap.PlainList a0 its)(r:RVs w g s.heap l its.toList)(e:en)(h:Pit w sA g s.heap (hB6 0 l) S en Q):
  wpAny (model PP w) A (call (.type "enumerate") [.ref a0]) (λx s'=>wpAny (model PP w) A (pyIter x) Q E s') E s:=by
 refine call_enumerate_list pA.isList λh' en li sz kp=> ?_;refine wpAny_pyIter_enum en ?_;have lt:s.heap.objs.size≠s.heap.objs.size+1:=Nat.ne_of_lt (Nat.lt_succ_self _);refine e02 (R.grow (h':=h') (tk₀:=s.toks) kp) λRC x3=> ?_;obtain⟨R4,xC⟩:=RC.own (a:=s.heap.objs.size) (R.fresh _ (Nat.le_refl _)) (by obtain⟨o,e1,_⟩:=li;show(h'.get? _).isSome=true;rw[e1];rfl) .priv;obtain⟨R5,xD⟩:=R4.own (a:=s.heap.objs.size+1) (by rw[gB7 (Ne.symm lt)];exact R.fresh _ (Nat.le_succ _)) (by show(h'.get? _).isSome=true;rw[en];rfl) .priv;have xx:=(x3.trans xC).trans xD;have k:=xx.keep _ ka;refine h _ _ _ _ _ [_,_] (.refl _ _ _) xx R5 (.enum gC1 (by rw[gB7 lt];exact gC1) (Ne.symm lt) k.1 (IsList.same k.2 pA) en li (r.mono xx)) (List.forall_mem_cons.mpr ⟨R.fresh _ (Nat.le_succ _),λb hb=>by rw[List.mem_singleton.mp hb];exact R.fresh _ (Nat.le_refl _)⟩) λδ=>e
theorem jL0{a0:Addr}{its:Array Value}{en:Prop}(R:Rep w sA g S s)(ka:g.own a0= .keep)(pA:s.heap.PlainList a0 its)(r:RVs w g s.heap l its.toList)(h:Pit w sA g s.heap l.reverse S en Q):
  wpAny (model PP w) A (call (.type "reversed") [.ref a0]) (λx s'=>wpAny (model PP w) A (pyIter x) Q E s') E s:=by
 refine call_reversed_list pA.isList ?_;refine e03 (R.priv (tk₀:=s.toks) (revObj a0 ((its.size:Int)-1))) λRC x3 o=> ?_;have it:Heap.IsRevIter (s.heap.push (revObj a0 ((its.size:Int)-1))) s.heap.objs.size a0 ((its.size:Int)-1):=⟨_,Heap.get?_push_size _ rfl,rfl,rfl⟩
 refine wpAny_pyIter_revIter it ?_;have k:=x3.keep _ ka;exact h _ _ _ _ _ _ (.refl _ _ _) x3 RC (.rev o k.1 (IsList.same k.2 pA) it (Nat.le_refl _) (by rw[List.take_of_length_le (Nat.le_of_eq Array.length_toList)];exact r.mono x3)) (λb hb=>by rw[List.mem_singleton.mp hb];exact R.fresh _ (Nat.le_refl _)) (by nofun)
theorem lJ1{f:Nat}(B:Bg w sA)(se:gP3 w sA prog f)(ss:gV7 w sA prog f):kS4 w sA prog (f+1):=by
 intro n it e env m S S' l g s A E Q c ev R V a h;have a':=a.less (Nat.le_succ f)
 cases n with
 |zero=>exact ff c
 |succ n=>
  cases it with
  |ex me=>exact bd ev λr he ev=>se c he R V a' λgA y s' xA RA rA=>iX8 RA ev rA (h.from xA)
  |range args=>
   refine gB2 c λq d c=>an3 c λc1 c2 δ=>gE4 (G:=λe=>wpAny (model PP w) A (eval e env) (λx s'=>wpAny (model PP w) A (pyIter x) Q E s') E s) d λp p'=> ?_;refine hW1 (G:=λq=>Pit w sA g s.heap q.1 q.2 _ Q->_) ev (λx l' he hl h=> ?_) h
   exact Call_Name rfl (gP8 B R V (i:=12) rfl rfl c1 (gW6 (gE0 c2) (ss c2 he R V a' λgA ys s' xA RA rA=>iV3 RA hl rA (h.from xA))) p)
  |enum me=>
   refine gB2 c λq d c=>gB2 c λz d' c=>an c λc1 c2=>gE4 (G:=λe=>wpAny (model PP w) A (eval e env) (λx s'=>wpAny (model PP w) A (pyIter x) Q E s') E s) d λp p'=> ?_;rw[gK7 d'];refine iK7 (G:=λq=>Pit w sA g s.heap q.1 q.2 _ Q->_) ev (λx l' S' he δ hf h=> ?_) h;have st:=hU2 (env:=env) c2;refine Call_Name rfl (gP8 B R V (i:=13) rfl rfl c1 (gW6 (by rw[st];rfl) (gX4 st (se c2 he R V a' λgA y s' xA RA rA=> ?_))) p);obtain⟨gB,xB,RB,rB⟩:=gQ6 _ RA hf rA;obtain⟨a0,its,rfl,ka,pA,z,rC⟩:=rB
   exact iZ3 RB ka pA rC ⟨_,rfl⟩ (h.from (xA.trans xB))
  |rev me=>
   refine gB2 c λq d c=>gB2 c λz d' c=>an c λc1 c2=>gE4 (G:=λe=>wpAny (model PP w) A (eval e env) (λx s'=>wpAny (model PP w) A (pyIter x) Q E s') E s) d λp p'=> ?_;rw[gK7 d'];refine jE7 (G:=λq=>Pit w sA g s.heap q.1 q.2 _ Q->_) ev (λx l' S' he hf h=> ?_) h;have st:=hU2 (env:=env) c2;refine Call_Name rfl (gP8 B R V (i:=14) rfl rfl c1 (gW6 (by rw[st];rfl) (gX4 st (se c2 he R V a' λgA y s' xA RA rA=> ?_))) p);obtain⟨gB,xB,RB,rB⟩:=gQ6 _ RA hf rA;obtain⟨a0,its,rfl,ka,pA,z,rC⟩:=rB;exact jL0 RB ka pA rC (h.from (xA.trans xB))
end
noncomputable def kI1(P:Params)(l:List V)(a:Addr):Bool:=match (Mine.K P).lookup a with
 |some ⟨.type t,none,.seq its n,ss⟩=>t== "tuple"&&ss.size==0&&gT1 l its.toList&&decide (its.size<=1000)
 |_=>false
noncomputable def kZ0(P:Params)(v:V)(x:Value):Bool:=match tOf v with
 |some l=>(match x with
  | .ref a=>kI1 P l a
  |_=>false)
 |none=>iM9 v x
theorem kI0(P:Params):((List.range 23).all λi=>match prog.gvs[i]?,gnL[i]? with
 |some v,some n=>(match gtab.lookup (Str.ofString n)with|some x=>kZ0 P v x|none=>false)
 |_,_=>false)=true:=by kernel_rfl
section
variable{w:World}{sA:Shared}{g g':Gh}{S S':St}{s s':Shared}{h h':Heap}{A:Around}{E:VP}{env:Env}{m:Lo}{l:List V}{v:V}{f n:Nat}{e:XE}
noncomputable def jC3(w:World)(sA:Shared)(T:Txt)(f:Nat):Prop:=∀ {n:Nat}{l:List ME}{es:List XE}{pos:Pos}{env:Env}{m:Lo}{S S':St}{v:V}{g:Gh}{s:Shared}{A:Around}{E:VP}{Q:VP},
 gP4 n env.scope.names l es=true->gQ7 T f l m S=some (v,S')->Rep w sA g S s->VarR w g s.heap env m->AOk A f->Pst w sA g s.heap v S' Q->wpAny (model PP w) A (eval (.BoolOp .And es pos) env) Q E s
noncomputable def jC2(w:World)(sA:Shared)(T:Txt)(f:Nat):Prop:=∀ {n:Nat}{l:List ME}{es:List XE}{pos:Pos}{env:Env}{m:Lo}{S S':St}{v:V}{g:Gh}{s:Shared}{A:Around}{E:VP}{Q:VP},
 gP4 n env.scope.names l es=true->hX6 T f l m S=some (v,S')->Rep w sA g S s->VarR w g s.heap env m->AOk A f->Pst w sA g s.heap v S' Q->wpAny (model PP w) A (eval (.BoolOp .Or es pos) env) Q E s
noncomputable abbrev Pbt(w:World)(sA:Shared)(g:Gh)(h:Heap)(b:Bool)(S':St)(Q:Bool->Shared->Prop):Prop:=∀g' s',Ext noX g h g' s'.heap->Rep w sA g' S' s'->Q b s'
noncomputable def iS4(w:World)(sA:Shared)(T:Txt)(f:Nat):Prop:=∀ {n:Nat}{l:List ME}{es:List XE}{pos:Pos}{env:Env}{m:Lo}{S S':St}{b:Bool}{whole:Sem Value}{g:Gh}{s:Shared}{A:Around}{E:VP}{Q:Bool->Shared->Prop},
 gP4 n env.scope.names l es=true->gQ7 T f l m S=some (.bool b,S')->Rep w sA g S s->VarR w g s.heap env m->AOk A f->Pbt w sA g s.heap b S' Q->wpAny (model PP w) A (isTrue (.BoolOp .And es pos) env whole) Q E s
noncomputable def iS3(w:World)(sA:Shared)(T:Txt)(f:Nat):Prop:=∀ {n:Nat}{l:List ME}{es:List XE}{pos:Pos}{env:Env}{m:Lo}{S S':St}{b:Bool}{whole:Sem Value}{g:Gh}{s:Shared}{A:Around}{E:VP}{Q:Bool->Shared->Prop},
 gP4 n env.scope.names l es=true->hX6 T f l m S=some (.bool b,S')->Rep w sA g S s->VarR w g s.heap env m->AOk A f->Pbt w sA g s.heap b S' Q->wpAny (model PP w) A (isTrue (.BoolOp .Or es pos) env whole) Q E s
theorem Pst.from{gA:Gh}{hE:Heap}{Q:VP}(H:Pst w sA g h v S' Q)(x:Ext noX g h gA hE):Pst w sA gA hE v S' Q:=λg' y s' x'=>H g' y s' (x.trans x')
theorem Pbt.from{gA:Gh}{hE:Heap}{b:Bool}{Q:Bool->Shared->Prop}(H:Pbt w sA g h b S' Q)(x:Ext noX g h gA hE):Pbt w sA gA hE b S' Q:=λg' s' x'=>H g' s' (x.trans x')
theorem kV1{T:Txt}(se:gP3 w sA T f)(ss:gV7 w sA T f):gV7 w sA T (f+1):=by
 intro n l es pos env m S S' vs g s A E Q c ev R V a h;have a':=a.less (Nat.le_succ f);revert ev;refine gN8 (G:=λl es=>gG4 T (f+1) l m S=some (vs,S')->wpAny (model PP w) A (spliced (backTo pos (starEach es env))) Q E s) c (λev=> ?_) λn me l e es hn c1 c2 ev=> ?_
 ·cases ev;exact spliced_nil (h _ _ _ (.refl _ _ _) R rfl)
 ·rw[gP5 c1];refine hH0 (G:=λq=>(∀g' ys s',Ext noX g s.heap g' s'.heap->Rep w sA g' q.2 s'->RVs w g' s'.heap q.1 ys->Q ys s')->wpAny (model PP w) A (spliced (backTo pos ((false,eval e env)::starEach es env))) Q E s) ev (λx y h1 h2 h=> ?_) h;refine spliced_cons (se c1 h1 R V a' λgA y s' xA RA rA=> ?_);exact ss (pos:=pos) c2 h2 RA (V.mono xA) a' λgB ys s'' xB RB rB=>h _ _ _ (xA.trans xB) RB ⟨y,ys,rfl,rA.mono xB,rB⟩
theorem hV1{sc:NKs}{l:List ME}{es:List XE}(c:gP4 n sc l es=true):l=[]->es=[]:=λe=>by have:=gM9 c;rw[e]at this;exact List.length_eq_zero_iff.mp this.symm
theorem hF9{sc:NKs}{l:List ME}{es:List XE}(c:gP4 n sc l es=true)(e:l≠ []):∃x xs,es=x::xs:=by
 cases es with
 |nil=>exact absurd (List.length_eq_zero_iff.mp (gM9 c)) e
 |cons x xs=>exact⟨x,xs,rfl⟩
theorem kV3{T:Txt}(se:gP3 w sA T f)(sa:jC3 w sA T f):jC3 w sA T (f+1):=by
 intro n l es pos env m S S' v g s A E Q c ev R V a h;have a':=a.less (Nat.le_succ f);revert ev;refine gN8 (G:=λl es=>gQ7 T (f+1) l m S=some (v,S')->wpAny (model PP w) A (eval (.BoolOp .And es pos) env) Q E s) c (λev=>nn ev) λn me l e es hn c1 c2 ev=> ?_;refine iO1 (G:=λq=>Pst w sA g s.heap q.1 q.2 Q->_) ev (λz ev h=> ?_) (λS₁ z h1 ev h=> ?_) (λS₁ z h1 h=> ?_) h
 ·rw[hV1 c2 z];exact BoolOp_one (se c1 ev R V a' h)
 ·obtain⟨e',es',rfl⟩:=hF9 c2 z;refine BoolOp_and (se c1 h1 R V a' λgA y s' xA RA rA=> ?_);cases rA;exact wpAny_truthy_bool (sa c2 ev RA (V.mono xA) a' (h.from xA))
 ·obtain⟨e',es',rfl⟩:=hF9 c2 z;refine BoolOp_and (se c1 h1 R V a' λgA y s' xA RA rA=> ?_);cases rA;exact wpAny_truthy_bool (h _ _ _ xA RA rfl)
theorem kV0{T:Txt}(se:gP3 w sA T f)(sa:jC2 w sA T f):jC2 w sA T (f+1):=by
 intro n l es pos env m S S' v g s A E Q c ev R V a h;have a':=a.less (Nat.le_succ f);revert ev;refine gN8 (G:=λl es=>hX6 T (f+1) l m S=some (v,S')->wpAny (model PP w) A (eval (.BoolOp .Or es pos) env) Q E s) c (λev=>nn ev) λn me l e es hn c1 c2 ev=> ?_;refine jR1 (G:=λq=>Pst w sA g s.heap q.1 q.2 Q->_) ev (λz ev h=> ?_) (λS₁ z h1 ev h=> ?_) (λS₁ z h1 h=> ?_) h
 ·rw[hV1 c2 z];exact BoolOp_one (se c1 ev R V a' h)
 ·obtain⟨e',es',rfl⟩:=hF9 c2 z;refine BoolOp_or (se c1 h1 R V a' λgA y s' xA RA rA=> ?_);cases rA;exact wpAny_truthy_bool (sa c2 ev RA (V.mono xA) a' (h.from xA))
 ·obtain⟨e',es',rfl⟩:=hF9 c2 z;refine BoolOp_or (se c1 h1 R V a' λgA y s' xA RA rA=> ?_);cases rA;exact wpAny_truthy_bool (h _ _ _ xA RA rfl)
theorem kB8{T:Txt}(se:jI2 w sA T f)(sa:iS4 w sA T f):iS4 w sA T (f+1):=by
 intro n l es pos env m S S' v whole g s A E Q c ev R V a h;have a':=a.less (Nat.le_succ f);revert ev;refine gN8 (G:=λl es=>gQ7 T (f+1) l m S=some (.bool v,S')->wpAny (model PP w) A (isTrue (.BoolOp .And es pos) env whole) Q E s) c (λev=>nn ev) λn me l e es hn c1 c2 ev=> ?_;refine isTrue_and ?_;refine iO1 (G:=λq=>∀b,q.1= .bool b->Pbt w sA g s.heap b q.2 Q->_) ev (λz ev b hb h=> ?_) (λS₁ z h1 ev b hb h=> ?_) (λS₁ z h1 b hb h=> ?_) v rfl h
 ·cases hb;rw[hV1 c2 z];refine se c1 ev R V a' λgA s' xA RA=> ?_;cases v
  ·exact h _ _ xA RA
  ·exact isTrue_and_nil (h _ _ xA RA)
 ·cases hb;exact se c1 h1 R V a' λgA s' xA RA=>sa c2 ev RA (V.mono xA) a' (h.from xA)
 ·cases hb;exact se c1 h1 R V a' λgA s' xA RA=>h _ _ xA RA
theorem kB7{T:Txt}(se:jI2 w sA T f)(sa:iS3 w sA T f):iS3 w sA T (f+1):=by
 intro n l es pos env m S S' v whole g s A E Q c ev R V a h;have a':=a.less (Nat.le_succ f);revert ev;refine gN8 (G:=λl es=>hX6 T (f+1) l m S=some (.bool v,S')->wpAny (model PP w) A (isTrue (.BoolOp .Or es pos) env whole) Q E s) c (λev=>nn ev) λn me l e es hn c1 c2 ev=> ?_;refine isTrue_or ?_;refine jR1 (G:=λq=>∀b,q.1= .bool b->Pbt w sA g s.heap b q.2 Q->_) ev (λz ev b hb h=> ?_) (λS₁ z h1 ev b hb h=> ?_) (λS₁ z h1 b hb h=> ?_) v rfl h
 ·cases hb;rw[hV1 c2 z];refine se c1 ev R V a' λgA s' xA RA=> ?_;cases v
  ·exact isTrue_or_nil (h _ _ xA RA)
  ·exact h _ _ xA RA
 ·cases hb;exact se c1 h1 R V a' λgA s' xA RA=>sa c2 ev RA (V.mono xA) a' (h.from xA)
 ·cases hb;exact se c1 h1 R V a' λgA s' xA RA=>h _ _ xA RA
end
noncomputable def kS3(w:World)(sA:Shared)(T:Txt)(f:Nat):Prop:=∀ {n:Nat}{ks:List (List Nat)}{kes:List (Option XE)}{l:List ME}{es:List XE}{pos:Pos}{env:Env}{m:Lo}{S S':St}{vs:List V}{g:Gh}{s:Shared}{A:Around}{E:VP}{Q:List (Value×Value)->Shared->Prop},
 hE7 ks kes=true->gP4 n env.scope.names l es=true->kes.length=es.length->gG4 T f l m S=some (vs,S')->Rep w sA g S s->VarR w g s.heap env m->AOk A f->
 (∀g' (ps:List (Value×Value)) (sk:List Str) (ys:List Value) s',Ext noX g s.heap g' s'.heap->Rep w sA g' S' s'->sk.map (λs:Str=>s.cps.toList)=ks->(∀s∈sk,s.cps.toList.length<=1000000)->ys.length=sk.length->Carries (strKind PP w) ps (sk.zip ys)->RVs w g' s'.heap vs ys->Q ps s')->wpAny (model PP w) A (evalPairs (pairTrees kes es env pos)) Q E s
noncomputable abbrev SE(w:World)(sA:Shared)(f:Nat)(me:ME):Prop:=∀ {n:Nat}{e:XE}{env:Env}{m:Lo}{S S':St}{v:V}{g:Gh}{s:Shared}{A:Around}{E:VP}{Q:VP},
 ckE (n+1) env.scope.names me e=true->evE prog (f+1) me m S=some (v,S')->Rep w sA g S s->VarR w g s.heap env m->AOk A f->Pst w sA g s.heap v S' Q->wpAny (model PP w) A (eval e env) Q E s
section
variable{w:World}{sA:Shared}{g g':Gh}{S S':St}{s s':Shared}{h h':Heap}{A:Around}{E:VP}{env:Env}{m:Lo}{l:List V}{v:V}{f n:Nat}{e:XE}
theorem lA4{v:V}:SE w sA f (.lit v):=by intro n e env m S S' u g s A E Q c ev R V a h;exact hW9 (G:=λq=>Pst w sA g s.heap q.1 q.2 Q->_) ev (λδ h=>kG1 R c h) h
theorem kZ8{x:Nat}:SE w sA f (.var x):=by intro n e env m S S' u g s A E Q c ev R V a h;exact jG2 (G:=λq=>Pst w sA g s.heap q.1 q.2 Q->_) ev (λv hx h=>jX8 R V c hx h) h
set_option tactic.hygienic true in
theorem kH9{l:List V}{a:Addr}(B:Bg w sA)(R:Rep w sA g S s)(c:kI1 w.params l a=true):RV w g s.heap (.tup l) (.ref a):=by
 have c:(match (Mine.K w.params).lookup a with
  |some ⟨.type t,none,.seq its n,ss⟩=>t== "tuple"&&ss.size==0&&gT1 l its.toList&&decide (its.size<=1000)
  |_=>false)=true:=c
 cases hK:(Mine.K w.params).lookup a with
 |none=>rw[hK]at c;exact ff c
 |some o=>
  rw[hK]at c;obtain⟨x,y,z,ss⟩:=o;cases x<;>first|exact ff c|skip
  rename_i t;cases y<;>first|exact ff c|skip
  cases z<;>first|exact ff c|skip
  rename_i its n;have c:(t== "tuple"&&ss.size==0&&gT1 l its.toList&&decide (its.size<=1000))=true:=c;simp only[Bool.and_eq_true,beq_iff_eq,decide_eq_true_eq]at c;obtain⟨⟨⟨rfl,c2⟩,c3⟩,c4⟩:=c;have:=Array.eq_empty_of_size_eq_zero c2;subst this;have k:=R.kept _ _ (B.k a _ hK);exact⟨a,its,n,rfl,k.1,k.2,by(exact Nat.le_trans c4 (Nat.le_add_left 1000 999000)),hG7 c3⟩
theorem kY9{v:V}{x:Value}(B:Bg w sA)(R:Rep w sA g S s)(c:kZ0 w.params v x=true):RV w g s.heap v x:=by
 unfold kZ0 at c
 cases hv:tOf v with
 |none=>rw[hv]at c;exact iM8 c
 |some l=>
  rw[hv]at c;rw[gI8 hv];cases x<;>first|exact ff c|exact kH9 B R c
set_option tactic.hygienic true in
theorem lU2{i:Nat}(B:Bg w sA):SE w sA f (.gv i):=by
 intro n e env m S S' u g s A E Q c ev R V a h;refine gB2 c λq d c=>an c λc c3=>an c λc1 c2=>gL7 (G:=λe=>wpAny (model PP w) A (eval e env) Q E s) d ?_;refine kJ5 (G:=λq=>Pst w sA g s.heap q.1 q.2 Q->_) ev (λv hx h=> ?_) h;refine e12 (Option.map_eq_some_iff.mp (bE c1)) λn0 c1' e1=> ?_;have lt:i<23:=(List.getElem?_eq_some_iff.mp c1').1;have z:=List.all_eq_true.mp (kI0 w.params) i (List.mem_range.mpr lt);rw[hx,c1']at z
 cases hl:gtab.lookup (Str.ofString n0)with
 |none=>dsimp only at z;rw[hl]at z;cases z
 |some x=>
  dsimp only at z;rw[hl]at z;rw[e1]at hl;refine hT0 B R V (v:=x) ?_ (h _ _ _ (.refl _ _ _) R (kY9 B R z)) q.2;simp only[iA7,Bool.and_eq_true,beq_iff_eq];exact⟨⟨c2,hl⟩,c3⟩
theorem lA9{op:BOp}{a b:ME}(se:gP3 w sA prog f):SE w sA f (.bin op a b):=by intro n e env m S S' u g s A E Q c ev R V a h;refine gB2 c λq d c=>an3 c λc1 c2 c3=>hY6 (G:=λe=>wpAny (model PP w) A (eval e env) Q E s) d ?_;refine jG9 (G:=λq=>Pst w sA g s.heap q.1 q.2 Q->_) ev (λx y v h1 h2 h3 h=> ?_) h;exact wpAny_BinOp (se c2 h1 R V a λgA yB s' xA RA rA=>se c3 h2 RA (V.mono xA) a λgB yA s'' xB RB rB=>jB7 c1 h3 RB (V.mono (xA.trans xB)) (rA.mono xB) rB (h.from (xA.trans xB)))
theorem gM6{n:Nat}{sc:NKs}{me:ME}{e:XE}(c:ckE n sc me e=true)(o:CmpOp):behindInMarks o e=false:=by
 cases n with
 |zero=>exact ff c
 |succ n=>
  cases e<;>first|rfl|skip
  all_goals cases me<;>exact ff c
theorem AOk.u(a:AOk A f):A.units+300<cLine:=by
 have:=a.2.1;unfold cLine
 (exact lL4 (nl9 this) rfl)
theorem lA8{op:COp}{a b:ME}(se:gP3 w sA prog f):SE w sA f (.cmp op a b):=by intro n e env m S S' u g s A E Q c ev R V a h;refine gB2 c λq d c=>gB2 c λo d1 c=>gB2 c λr d2 c=>an3 c λc1 c2 c3=>hE5 (G:=λe=>wpAny (model PP w) A (eval e env) Q E s) d ?_;rw[gK7 d1,gK7 d2];refine iN9 (G:=λq=>Pst w sA g s.heap q.1 q.2 Q->_) ev (λx y v h1 h2 h3 h=> ?_) h;refine wpAny_Compare1 (se c2 h1 R V a λgA yB s' xA RA rA=>se c3 h2 RA (V.mono xA) a λgB yA s'' xB RB rB=> ?_) (gM6 c3 _);exact gH7 c1 h3 RB (rA.mono xB) rB a.u λk=>h gB _ _ (xA.trans xB) (RB.tk _) rfl
theorem kU3{op:COp}{a b:ME}{whole:Sem Value}{u:Bool}{Q:Bool->Shared->Prop}(se:gP3 w sA prog f)(c:ckE (n+1) env.scope.names (.cmp op a b) e=true)
  (ev:evE prog (f+1) (.cmp op a b) m S=some (.bool u,S'))(R:Rep w sA g S s)(V:VarR w g s.heap env m)(a:AOk A f)(h:Pbt w sA g s.heap u S' Q):wpAny (model PP w) A (isTrue e env whole) Q E s:=by
 refine gB2 c λq d c=>gB2 c λo d1 c=>gB2 c λr d2 c=>an3 c λc1 c2 c3=>hE5 (G:=λe=>wpAny (model PP w) A (isTrue e env whole) Q E s) d ?_;rw[gK7 d1,gK7 d2];refine iN9 (G:=λq=>∀b,q.1= .bool b->Pbt w sA g s.heap b q.2 Q->_) ev (λx y v h1 h2 h3 b hb h=> ?_) u rfl h;cases hb;refine wpAny_isTrue_Compare1 (se c2 h1 R V a λgA yB s' xA RA rA=>se c3 h2 RA (V.mono xA) a λgB yA s'' xB RB rB=> ?_) (gM6 c3 _);exact gH7 c1 h3 RB (rA.mono xB) rB a.u λk=>wpAny_truthy_bool (h gB _ (xA.trans xB) (RB.tk _))
theorem jR9{oA oB:COp}{a b c:ME}(se:gP3 w sA prog f):SE w sA f (.chain oA oB a b c):=by
 intro n e env m S S' u g s A E Q ck ev R V a h;refine gB2 ck λq d ck=>gB2 ck λo d1 ck=>gB2 ck λr d2 ck=>an5 ck λk1 k2 k3 k4 k5=>hE5 (G:=λe=>wpAny (model PP w) A (eval e env) Q E s) d ?_;rw[hJ0 d1,hJ0 d2];refine hH1 (G:=λq=>Pst w sA g s.heap q.1 q.2 Q->_) ev (λx y z v h1 h2 h3 h4 h5 h=> ?_) (λx y h1 h2 h3 h=> ?_) h
 ·refine Compare_chain (se k3 h1 R V a λgA yB s' xA RA rA=>chain_link (se k4 h2 RA (V.mono xA) a λgB yA s'' xB RB rB=>gH7 k1 h3 RB (rA.mono xB) rB a.u λk=>wpAny_truthy_bool (chain_last (se k5 h4 (RB.tk _) (V.mono (xA.trans xB)) a λgD yC sD x3 RC rC=> ?_)))) (gM6 k5 _);exact gH7 k2 h5 RC (rB.mono x3) rC a.u λk=>h gD _ _ ((xA.trans xB).trans x3) (RC.tk _) rfl
 ·exact Compare_chain (se k3 h1 R V a λgA yB s' xA RA rA=>chain_link (se k4 h2 RA (V.mono xA) a λgB yA s'' xB RB rB=>gH7 k1 h3 RB (rA.mono xB) rB a.u λk=>wpAny_truthy_bool (h gB _ _ (xA.trans xB) (RB.tk _) rfl))) (gM6 k5 _)
theorem jJ5{oA oB:COp}{ma mb mc:ME}{whole:Sem Value}{u:Bool}{Q:Bool->Shared->Prop}(se:gP3 w sA prog f)(ck:ckE (n+1) env.scope.names (.chain oA oB ma mb mc) e=true)
  (ev:evE prog (f+1) (.chain oA oB ma mb mc) m S=some (.bool u,S'))(R:Rep w sA g S s)(V:VarR w g s.heap env m)(a:AOk A f)(h:Pbt w sA g s.heap u S' Q):wpAny (model PP w) A (isTrue e env whole) Q E s:=by
 refine gB2 ck λq d ck=>gB2 ck λo d1 ck=>gB2 ck λr d2 ck=>an5 ck λk1 k2 k3 k4 k5=>hE5 (G:=λe=>wpAny (model PP w) A (isTrue e env whole) Q E s) d ?_;rw[hJ0 d1,hJ0 d2];refine hH1 (G:=λq=>∀b,q.1= .bool b->Pbt w sA g s.heap b q.2 Q->_) ev (λx y z v h1 h2 h3 h4 h5 b hb h=> ?_) (λx y h1 h2 h3 b hb h=> ?_) u rfl h
 ·cases hb;refine isTrue_chain (se k3 h1 R V a λgA yB s' xA RA rA=>test_link (se k4 h2 RA (V.mono xA) a λgB yA s'' xB RB rB=>gH7 k1 h3 RB (rA.mono xB) rB a.u λk=>wpAny_truthy_bool (test_last (se k5 h4 (RB.tk _) (V.mono (xA.trans xB)) a λgD yC sD x3 RC rC=> ?_)))) (gM6 k5 _);exact gH7 k2 h5 RC (rB.mono x3) rC a.u λk=>wpAny_truthy_bool (h gD _ ((xA.trans xB).trans x3) (RC.tk _))
 ·cases hb;exact isTrue_chain (se k3 h1 R V a λgA yB s' xA RA rA=>test_link (se k4 h2 RA (V.mono xA) a λgB yA s'' xB RB rB=>gH7 k1 h3 RB (rA.mono xB) rB a.u λk=>wpAny_truthy_bool (h gB _ (xA.trans xB) (RB.tk _)))) (gM6 k5 _)
theorem lB0{l:List ME}(sa:jC3 w sA prog f):SE w sA f (.andE l):=by intro n e env m S S' u g s A E Q c ev R V a h;exact gB2 c λq d c=>an c λc1 c2=>gT3 (G:=λe=>wpAny (model PP w) A (eval e env) Q E s) d (by rw[oX c1];exact sa c2 ev R V a h)
theorem lU1{l:List ME}(sa:jC2 w sA prog f):SE w sA f (.orE l):=by intro n e env m S S' u g s A E Q c ev R V a h;exact gB2 c λq d c=>an c λc1 c2=>gT3 (G:=λe=>wpAny (model PP w) A (eval e env) Q E s) d (by rw[oX c1];exact sa c2 ev R V a h)
theorem lA2{b:ME}(se:gP3 w sA prog f):SE w sA f (.notE b):=by intro n e env m S S' u g s A E Q c ev R V a h;refine gB2 c λq d c=>an c λc1 c2=>hR6 (G:=λe=>wpAny (model PP w) A (eval e env) Q E s) d ?_;rw[oX c1];refine iN7 (G:=λq=>Pst w sA g s.heap q.1 q.2 Q->_) ev (λS₁ b h1 h=> ?_) h;refine UnaryOp_ (se c2 h1 R V a λgA yB s' xA RA rA=> ?_);cases rA;exact not_of (wpAny_truthy_bool (h _ _ _ xA RA rfl))
theorem lA5{c a b:ME}(se:gP3 w sA prog f)(st:jI2 w sA prog f):SE w sA f (.ite c a b):=by intro n e env m S S' u g s A E Q c ev R V a h;refine gB2 c λq d c=>an3 c λc1 c2 c3=>jT3 (G:=λe=>wpAny (model PP w) A (eval e env) Q E s) d ?_;exact iN8 (G:=λq=>Pst w sA g s.heap q.1 q.2 Q->_) ev (λS₁ h1 ev h=>IfExp_ (st c1 h1 R V a λgA s' xA RA=>se c2 ev RA (V.mono xA) a (h.from xA))) (λS₁ h1 ev h=>IfExp_ (st c1 h1 R V a λgA s' xA RA=>se c3 ev RA (V.mono xA) a (h.from xA))) h
theorem hH2{T:Txt}:∀ {f:Nat}{l:List ME}{m:Lo}{S:St}{q:List V×St},gG4 T f l m S=some q->q.1.length=l.length
 |0,_,_,_,_,e=>nn e
 |f+1,[],_,_,_,e=>by cases e;rfl
 |f+1,a::l,_,_,_,e=>hH0 (G:=λq=>q.1.length=l.length+1) e λx y δ h2=>congrArg (· +1) (hH2 h2)
theorem iN0{l:List ME}{es:List XE}{q:List V×St}{g:Gh}{h:Heap}{ys:List Value}(c1:gP4 n env.scope.names l es=true)(c2:few es=true)(h1:gG4 prog f l m S=some q)(r:RVs w g h q.1 ys):ys.length<=10:=by rw[r.length,hH2 h1,gM9 c1];exact oX c2
theorem kZ9{l:List ME}(ss:gV7 w sA prog f):SE w sA f (.tupE l):=by intro n e env m S S' u g s A E Q c ev R V a h;refine gB2 c λq d c=>an c λc1 c2=>gN7 (G:=λe=>wpAny (model PP w) A (eval e env) Q E s) d ?_;refine jG3 (G:=λq=>Pst w sA g s.heap q.1 q.2 Q->_) ev (λx y h1 h2 h=> ?_) h;refine wpAny_Tuple (ss c1 h1 R V a λgA ys s' xA RA rA=> ?_);have ln:=iN0 c1 c2 h1 rA;obtain⟨gB,xB,RB,rB⟩:=gZ5 _ RA (l':=y.1) (S':=y.2) h2 rA;refine e13 (RB.newTup (tk₀:=s'.toks) rB (Nat.le_trans ln (by decide))) λgD x3 RC rC=> ?_;exact⟨Nat.le_trans ln (by decide),h _ _ _ ((xA.trans xB).trans x3) RC rC⟩
theorem lA3{l:List ME}(ss:gV7 w sA prog f):SE w sA f (.lstE l):=by intro n e env m S S' u g s A E Q c ev R V a h;refine gB2 c λq d c=>an c λc1 c2=>hR7 (G:=λe=>wpAny (model PP w) A (eval e env) Q E s) d ?_;refine jG6 (G:=λq=>Pst w sA g s.heap q.1 q.2 Q->_) ev (λx y h1 h2 h=> ?_) h;refine wpAny_List (ss c1 h1 R V a λgA ys s' xA RA rA=> ?_);have ln:=iN0 c1 c2 h1 rA;obtain⟨gB,xB,RB,rB⟩:=gZ5 _ RA (l':=y.1) (S':=y.2) h2 rA;refine e13 (RB.newLst (tk₀:=s'.toks) rB (Nat.le_trans ln (by decide))) λgD x3 RC rC=> ?_;exact⟨Nat.le_trans ln (by decide),h _ _ _ ((xA.trans xB).trans x3) RC rC⟩
theorem iR1{o:XE}(c:gN2 o=true)(nn:Str)(whole:Sem Value):attributeBase o nn env whole=whole:=iL1 (G:=λo=>attributeBase o nn env whole=whole) c (λδ δ=>rfl) (λδ δ δ=>rfl) (λδ δ δ=>rfl) (λδ δ δ=>rfl) (λδ δ δ=>rfl) (λδ δ δ δ=>rfl) (λf δ δ δ δ=>by cases f<;>rfl)
theorem jV3{o:XE}{nn:Str}{p:Pos}(c:gN2 o=true):eval (.Attribute o nn p) env=(do
   let v←eval o env
   standAt p.atName
   let r←holding [v] (getAttr v nn true)
   letTemporaryGo o v r
   pure r):=by
 rw[arm_eval_Attribute,iR1 c]
theorem kK7{o:ME}{x:Nat}(B:Bg w sA)(se:gP3 w sA prog f):SE w sA f (.attr o x):=by intro n e env m S S' u g s A E Q c ev R V a h;refine gB2 c λq d c=>an3 c λc1 c2 c3=>hE6 (G:=λe=>wpAny (model PP w) A (eval e env) Q E s) d ?_;rw[bE c1];refine iO0 (G:=λq=>Pst w sA g s.heap q.1 q.2 Q->_) ev (λv q u h1 h2 h3 h=> ?_) h;exact Attribute_any_ (se c2 h1 R V a λgA yB s' xA RA rA=>iC6 B RA h2 h3 rA (h.from xA)) (jV3 c3)
theorem lA0{o i:ME}(B:Bg w sA)(se:gP3 w sA prog f):SE w sA f (.sub o i):=by intro n e env m S S' u g s A E Q c ev R V a h;refine gB2 c λq d c=>an3 c λc1 c2 c3=>gU9 (G:=λe=>wpAny (model PP w) A (eval e env) Q E s) d ?_;refine jG4 (G:=λq=>Pst w sA g s.heap q.1 q.2 Q->_) ev (λx y v h1 h2 h3 h=> ?_) h;exact Subscript_ (se c1 h1 R V a λgA yB s' xA RA rA=>se c2 h2 RA (V.mono xA) a λgB yA s'' xB RB rB=>kB3 B c3 RB h3 (rA.mono xB) rB (h.from (xA.trans xB)))
end
section
variable{w:World}{sA:Shared}{g g':Gh}{S S':St}{s s':Shared}{h h':Heap}{A:Around}{E:VP}{env:Env}{m:Lo}{l:List V}{v:V}{f n:Nat}{e:XE}{Q:VP}
theorem hL3{me:ME}{G:ME->Prop}(h:hQ4 me=true)(k:G (.lit .none)):G me:=by
 cases me with
 |lit v=>rw[gL3 h];exact k
 |_=>exact ff h
theorem iI0{me:ME}{le:Option XE}(se:gP3 w sA prog f)(c:ckO n env.scope.names me le=true)(ev:evE prog f me m S=some (v,S'))(R:Rep w sA g S s)(V:VarR w g s.heap env m)(a:AOk A f)
  (h:Pst w sA g s.heap v S' Q):wpAny (model PP w) A (evalPart le env) Q E s:=by
 cases n with
 |zero=>exact ff c
 |succ n=>
  cases le with
  |some e=>rw[evalPart_some];exact se (show ckE n env.scope.names me e=true from c) ev R V a h
  |none=>
   rw[evalPart_none];revert ev;refine hL3 (G:=λme=>evE prog f me m S=some (v,S')->_) c λev=> ?_
   cases f with
   |zero=>exact nn ev
   |succ f=>exact hW9 (G:=λq=>Pst w sA g s.heap q.1 q.2 Q->_) ev (λδ h=>wpAny_pure (h _ _ _ (.refl _ _ _) R rfl)) h
theorem jK4{value:XE}{l u:Option XE}{p:Pos}{bl:List Nat}{a b:V}{ij:Nat×Nat}{x y z:Value}{sl:Addr}(hc:hN2 bl.length a b=some ij)(R:Rep w sA g S s)(hs:s.heap.IsSliceOf sl y z .none)(ro:RV w g s.heap (.bytes bl) x)(ra:RV w g s.heap a y)(rb:RV w g s.heap b z)
  (h:Pst w sA g s.heap (.bytes ((bl.take ij.2).drop ij.1)) S Q):wpAny (model PP w) A (subscriptTail value (.Slice l u none p) x (.ref sl)) Q E s:=by
 obtain⟨i,j⟩:=ij;obtain⟨b,t,rfl,rfl,zz⟩:=ro;rw[List.length_map]at hc zz;refine e24 (hY7 hc ra rb) λlo' hi' p1 p2 p3 p4=> ?_;refine iQ5 p1 p2 hs (by rw[←Array.length_toList];exact zz) λt' k=> ?_;refine h _ _ _ (.refl _ _ _) (R.tk k) ⟨_,t',rfl,?_,?_⟩
 ·rw[KBc.picked_eq];rw[Array.length_toList]at p3 p4;rw[p3,p4];have:=jH5 b.toList i j;rw[Array.length_toList]at this;rw[this];show(((b.toList.take j).drop i).map _)=_;rw[List.map_drop,List.map_take]
 ·rw[List.length_drop,List.length_take,List.length_map];exact Nat.le_trans (Nat.sub_le _ _) (Nat.le_trans (Nat.min_le_right _ _) zz)
theorem jK3{value:XE}{l u:Option XE}{p:Pos}{bl:List V}{a b:V}{ij:Nat×Nat}{x y z:Value}{sl:Addr}(hc:hN2 bl.length a b=some ij)(R:Rep w sA g S s)(hs:s.heap.IsSliceOf sl y z .none)(ro:LstV w g s.heap bl x)(ra:RV w g s.heap a y)(rb:RV w g s.heap b z)
  (h:Pst w sA g s.heap (.loc S.n) (S.new (.lst ((bl.take ij.2).drop ij.1))) Q):wpAny (model PP w) A (subscriptTail value (.Slice l u none p) x (.ref sl)) Q E s:=by
 obtain⟨i,j⟩:=ij;obtain⟨al,its,rfl,pl,zz,rl⟩:=ro;have ll:=rl.length;rw[Array.length_toList]at ll;rw[←ll]at hc;refine e24 (hY7 hc ra rb) λlo' hi' p1 p2 p3 p4=> ?_;refine tail_any pl.isList.typeIs F.slot_list_getitem.lookup (wpAny_getItem_list_slice pl.isList hs p1 p2 .none (by nofun) ?_) (ops:=[.ref sl,.ref al]) rfl;rw[slicePick_plain,p3,p4];have ce:=jH5 its.toList i j;rw[Array.length_toList]at ce;rw[ce];obtain⟨g5,xD,R5,rD⟩:=R.newLst (tk₀:=s.toks) (l:=(bl.take j).drop i) (vs:=(its.toList.take j).drop i) (RVs.drop i (RVs.take j rl)) (by rw[List.length_drop,List.length_take,Array.length_toList];exact Nat.le_trans (Nat.sub_le _ _) (Nat.le_trans (Nat.min_le_right _ _) zz));exact h _ _ _ xD R5 rD
theorem kB9{value:XE}{l u:Option XE}{p:Pos}{o a b:V}{q:V×St}{x y z:Value}{sl:Addr}(e:jK2 S o a b=some q)(R:Rep w sA g S s)(hs:s.heap.IsSliceOf sl y z .none)(ro:RV w g s.heap o x)(ra:RV w g s.heap a y)(rb:RV w g s.heap b z)
  (h:Pst w sA g s.heap q.1 q.2 Q):wpAny (model PP w) A (subscriptTail value (.Slice l u none p) x (.ref sl)) Q E s:=by
 unfold jK2 at e
 cases hy:yOf o with
 |some bl=>rw[hy]at e;exact bd e λij hc e=>jK4 hc R hs (gD6 hy▸ro) ra rb (sS (G:=λq=>Pst w sA g s.heap q.1 q.2 Q) e.symm h)
 |none=>rw[hy]at e;exact bd e λbl hl e=>bd e λij hc e=>jK3 hc R hs (gE2 R hl ro) ra rb (sS (G:=λq=>Pst w sA g s.heap q.1 q.2 Q) e.symm h)
theorem lA1{o lo hi:ME}(se:gP3 w sA prog f):SE w sA f (.slc o lo hi):=by intro n e env m S S' u g s A E Q c ev R V a h;refine gB2 c λq d c=>gB2 c λz d' c=>an4 c λc0 c1 c2 c3=>gU9 (G:=λe=>wpAny (model PP w) A (eval e env) Q E s) d (kL5 (G:=λj=>wpAny (model PP w) A (eval (.Subscript q.1 j q.2.2) env) Q E s) d' ?_);rw[Option.isNone_iff_eq_none.mp c0];refine jG5 (G:=λδ=>_) ev λx y z h1 h2 h3 ev=> ?_;refine Subscript_ (se c1 h1 R V a λgA yB s' xA RA rA=>wpAny_Slice (iI0 se c2 h2 RA (V.mono xA) a λgB yA s'' xB RB rB=>iI0 se c3 h3 RB (V.mono (xA.trans xB)) a λgD yC sD x3 RC rC=> ?_));rw[evalPart_none];refine wpAny_pure ?_;refine e02 (RC.push (tk₀:=sD.toks) {cls:= .type "slice",data:= .fields #[yA,yC,.none]}) λR4 xC=> ?_;have xo:=(xB.trans x3).trans xC;exact kB9 ev R4 ⟨_,Heap.get?_push_size _ rfl,rfl,rfl⟩ (rA.mono xo) (rB.mono (x3.trans xC)) (rC.mono xC) (h.from (xA.trans xo))
theorem hY9{ks:List (List Nat)}{es:List (Option XE)}{G:List (List Nat)->List (Option XE)->Prop}(c:hE7 ks es=true)(n:G [] [])
  (k:∀s ks es i p,s.cps.toList.length<=1000->s.cps.toList∉ks->hE7 ks es=true->G (s.cps.toList::ks) (some (.Constant (.str s) i p)::es)):G ks es:=by
 cases ks with
 |nil=>rw[List.isEmpty_iff.mp (show es.isEmpty=true from c)];exact n
 |cons k' ks=>
  cases es with
  |nil=>exact ff c
  |cons e es=>
   refine an3 c λc1 c2 c3=>gB2 c1 λe' he c1'=> ?_;subst he;refine gB2 c1' λq d c=>hE4 (G:=λe=>G (k'::ks) (some e::es)) d ?_;obtain⟨u,i,p⟩:=q;cases u<;>first|exact ff c|skip
   refine an c λc4 c5=> ?_;have c4:=bE c4;subst c4;exact k _ _ _ _ _ (oX c5) (by simpa using c2) c3
theorem lI9(se:gP3 w sA prog f)(sp:kS3 w sA prog f):kS3 w sA prog (f+1):=by
 intro n ks kes l es pos env m S S' vs g s A E Q ck c hl ev R V a h;have a':=a.less (Nat.le_succ f);revert hl ev h;refine gN8 (G:=λl es=>kes.length=es.length->gG4 prog (f+1) l m S=some (vs,S')->_->wpAny (model PP w) A (evalPairs (pairTrees kes es env pos)) Q E s) c (λhl ev h=> ?_) λn me l e es hn c1 c2 hl ev h=> ?_
 ·cases ev;cases List.length_eq_zero_iff.mp hl
  cases ks with
  |cons _ _=>exact ff ck
  |nil=>exact pairTrees_nil_walk (h _ _ [] [] _ (.refl _ _ _) R rfl (gC4) rfl trivial rfl)
 ·revert hl h
  refine hY9 (G:=λks kes=>kes.length=(e::es).length->(∀g' (ps:List (Value×Value)) (sk:List Str) (ys:List Value) s',Ext noX g s.heap g' s'.heap->Rep w sA g' S' s'->sk.map (λs:Str=>s.cps.toList)=ks->(∀s∈sk,s.cps.toList.length<=1000000)->ys.length=sk.length->Carries (strKind PP w) ps (sk.zip ys)->RVs w g' s'.heap vs ys->Q ps s')->
   wpAny (model PP w) A (evalPairs (pairTrees kes (e::es) env pos)) Q E s) ck (λhl=>nomatch hl) λk0 ks kes i p b δ ck hl h=> ?_
  refine hH0 (G:=λq=>(q.1=vs/\q.2=S')->_) ev (λx y h1 h2 hq=> ?_) ⟨rfl,rfl⟩;obtain⟨rfl,rfl⟩:=hq;refine pairTrees_cons_walk (wpAny_Constant_str ?_);refine se c1 h1 (R.tk _) V a' λgA yB s' xA RA rA=> ?_;refine sp (pos:=pos) ck c2 (Nat.succ.inj hl) h2 RA (V.mono xA) a' λgB ps sk ys s'' xB RB e1 e2 e3 e4 rB=> ?_;exact h _ _ (_::sk) (yB::ys) _ (xA.trans xB) RB (by rw[List.map_cons,e1]) (List.forall_mem_cons.mpr ⟨Nat.le_trans b (by decide),e2⟩) (congrArg (· +1) e3) ⟨strKind_is PP w _ _,rfl,e4⟩ ⟨yB,ys,rfl,rA.mono xB,rB⟩
theorem gV0:∀ {ks:List (List Nat)}{es:List (Option XE)},hE7 ks es=true->ks.Nodup/\es.all (·.isSome)=true/\ks.length=es.length
 | [],es,c=>by rw[List.isEmpty_iff.mp (show es.isEmpty=true from c)];exact⟨List.nodup_nil,rfl,rfl⟩
 |k::ks,es,c=>hY9 (G:=λks' es=>ks'=k::ks->ks'.Nodup/\es.all (·.isSome)=true/\ks'.length=es.length) c (by nofun) (λs ks' es i p b ni ck e=>by
   cases e;refine e03 (gV0 ck) λi1 i2 i3=> ?_
   exact⟨List.nodup_cons.mpr ⟨ni,i1⟩,i2,congrArg (· +1) i3⟩) rfl
theorem gU6{α β:Type}{f:α->β}:∀ {l:List α},(l.map f).Nodup->l.Nodup
 | [],_=>List.nodup_nil
 |a::l,h=>by rw[List.map_cons,List.nodup_cons]at h;exact List.nodup_cons.mpr ⟨λm=>h.1 (List.mem_map_of_mem m),gU6 h.2⟩
theorem Rep.given{S:St}{a:Addr}{o:O}{gC:Gh}{hH:Heap}(R:Rep w sA g S s)(ow:g.own a= .priv)(x:Ext noX gC hH g s.heap)(fr:gC.own a= .free)(hs:Heap.SameBut a s.heap h')(lv:(h'.get? a).isSome=true){tk₀:Nat}
  (p:∀g',KpS g s.heap g' h'->g'.rho S.n=some a->g'.own a= .mut S.n->PlR w g' h' S.n o):
  ∃g',Ext noX gC hH g' h'/\Rep w sA g' (S.new o) {s with heap:=h',toks:=tk₀}/\RV w g' h' (.loc S.n) (.ref a):=by
 obtain⟨RA,l⟩:=R.lose (tk₀:=tk₀) ow λb ob n e=>by rw[hs.2 b n];exact e
 have xA:=x.lost fr l;refine e02 (RA.own (a:=a) gC1 lv (.mut S.n)) λRB xB=> ?_
 have kp:KpS g s.heap ((g.put a .free).put a (.mut S.n)) h':=⟨λb q=>by
  have n:b≠a:=by rintro rfl;rw[ow]at q;cases q
  exact⟨(gB7 n).trans ((gB7 n).trans q),hs.2 b n⟩,λδ δ q=>q⟩
 refine e02 (RB.place (a:=a) (o:=o) λx3=>p _ ⟨λb q=>⟨(x3.keep b (kp.keep b q).1).1,(kp.keep b q).2⟩,λk b q=>x3.rho k b q⟩ (if_pos rfl) gC1) λRC x3=> ?_;exact⟨_,(xA.trans xB).trans x3,RC,a,rfl,if_pos rfl⟩
theorem Rep.notSys(R:Rep w sA g S s)(B:Bg w sA):(s.heap.objs.size==sysModules)=false:=by have:(Mine.K w.params).lookup 3=some (kQ3 3 (objs w.params)):=rfl;have:=Heap.lt_size (R.K B _ _ this);rw[beq_eq_false_iff_ne];intro e;rw[e]at this;exact absurd this (by decide)
theorem hS6{α β:Type}:∀ {l:List α}{k:List β},k.length=l.length->(l.zip k).map (·.1)=l
 | [],[],_=>rfl
 | [],_::_,h=>by simp at h
 |_::_,[],h=>by simp at h
 |a::l,b::k,h=>by rw[List.zip_cons_cons,List.map_cons,hS6 (by simpa using h)]
theorem jT0(B:Bg w sA)(R:Rep w sA g S s){p:Pos}(h:Pst w sA g s.heap (.loc S.n) (S.new (.dct [] [])) Q):wpAny (model PP w) A (eval (.Dict [] [] p) env) Q E s:=by
 refine wpAny_Dict_empty ?_;refine e03 (R.priv (tk₀:=s.toks) {cls:= .type "dict",data:= .dict #[]}) λR0 xE o0=> ?_
 obtain⟨g',y1,y2,y3⟩:=R0.given (h':=s.heap.push {cls:= .type "dict",data:= .dict #[]}) (o:= .dct [] []) (tk₀:=s.toks) o0 xE (R.fresh _ (Nat.le_refl _)) ⟨rfl,λδ δ=>rfl⟩ (by show((s.heap.push _).get? _).isSome=true;rw[Heap.get?_push_size _ rfl];rfl) λg' k r ow=>
  ⟨_,[],r,ow,⟨R.notSys B,.inl ⟨[],rfl,rfl,Heap.DictOf.new _⟩⟩,Nat.zero_le _,rfl⟩
 exact h _ _ _ y1 y2 y3
theorem lA7{ks:List (List Nat)}{vs:List ME}(B:Bg w sA)(sp:kS3 w sA prog f):SE w sA f (.dctE ks vs):=by
 intro n e env m S S' u g s A E Q c ev R V a h;refine gB2 c λq d c=>an4 c λc1 c2 c3 c4=>hR9 (G:=λe=>wpAny (model PP w) A (eval e env) Q E s) d ?_;refine e03 (gV0 c1) λk1 k2 k3=> ?_;have c4:=oX c4;refine jG8 (G:=λq=>Pst w sA g s.heap q.1 q.2 Q->_) ev (λx y h1 h2 hl h=> ?_) h;obtain⟨kes,es,p⟩:=q
 cases kes with
 |nil=>
  cases List.length_eq_zero_iff.mp k3;cases List.length_eq_zero_iff.mp c4.symm;cases List.length_eq_zero_iff.mp (gM9 c2)
  cases f with
  |zero=>exact nn h1
  |succ f=>cases h1;cases h2;exact jT0 B R h
 |cons ke kes=>
  have fr:=R.fresh s.heap.objs.size (Nat.le_refl _);refine e03 (R.priv (tk₀:=s.toks) {cls:= .type "dict",data:= .dict #[]}) λR0 xE o0=> ?_;refine wpAny_Dict_walk (knd:=strKind PP w) k2 c4 (by nofun) (Nat.le_trans (Nat.le_of_eq c4) (Nat.le_trans (oX c3) (by decide))) ?_;refine sp c1 c2 c4 h1 R0 (V.mono xE) a λgA ps sk ys s' xA RA e1 e2 e3 e4 rA=> ?_;have pr:=xA.priv _ o0;refine⟨sk.zip ys,e4,DictOf.same (pr.2 id) (Heap.DictOf.new _),λh' d sb=> ?_⟩;rw[merged_nil_of_nodup _ (by rw[hS6 e3];exact gU6 (by rw[e1];exact k1))]at d;obtain⟨gB,xB,RB,rB⟩:=gZ5 _ RA (l':=y.1) (S':=y.2) h2 rA
  obtain⟨g',y1,y2,y3⟩:=RB.given (h':=h') (o:= .dct (ks.map .str) y.1) (tk₀:=s'.toks+ps.length) (xB.priv _ pr.1).1 ((xE.trans xA).trans xB) fr sb (by obtain⟨o,_,_,q,_⟩:=d;rw[q];rfl) λg' k r ow=>by
   refine⟨_,ys,r,ow,⟨R.notSys B,.inr ⟨sk,?_,e3,e2,d⟩⟩,?_,RVs.monoK k rB⟩
   ·rw[←e1,List.map_map];rfl
   ·rw[List.length_map,k3,c4];exact Nat.le_trans (oX c3) (by decide)
  exact h _ _ _ y1 y2 y3
end
theorem iK2(P:Params):((List.range 70).all λi=>keepIn (Mine.K P) (.ref (fa i)))=true:=by kernel_rfl
theorem jP1(P:Params):((List.range 10).all λi=>keepIn (Mine.K P) (.ref (cl i)))=true:=by kernel_rfl
noncomputable def kF8(P:Params)(c:Nat)(p:Nat×Nat):Bool:=decide (p.2<70)&&findIn (Mine.K P) (.ref (cl c)) (nm p.1)==some (some (.ref (fa p.2)))&&typeIn (Mine.K P) (.ref (fa p.2))==some (.type "function")
theorem hV3(P:Params):((List.range 10).all λc=>(prog.cls.getD c []).all (kF8 P c))=true:=by kernel_rfl
theorem jN2:nm prog.init= "__init__":=by decide+kernel
set_option tactic.hygienic true in
theorem gZ7{x g:Nat}:∀ {l:List (Nat×Nat)},gZ8 x l=some g->(x,g)∈l
 | [],h=>nn h
 |(y,g')::r,h=>by
  have h:(if x=y then some g' else gZ8 x r)=some g:=h
  split at h
  ·rename_i e;cases h;subst e;exact .head _
  ·exact .tail _ (gZ7 h)
noncomputable def bfI:BF->Nat
 | .len=>0| .int=>1| .sum=>2| .sorted=>3| .tuple=>4| .list=>5| .dict=>6| .str=>7| .chr=>8| .min=>9| .bytes=>10
theorem kP1(b:BF):outL[bfI b]?=some (jI1 b)/\outV[bfI b]?=some (bfV b):=by cases b<;>exact⟨rfl,rfl⟩
theorem gW7:typeOf (.builtin "bytes.join")=pure (.type "method_descriptor"):=by show builtinType _=_;rw[builtinType_eq_fast];kernel_rfl
theorem gW5:typeOf (.builtin "str.encode")=pure (.type "method_descriptor"):=by show builtinType _=_;rw[builtinType_eq_fast];kernel_rfl
theorem gL0:Slot "bytes" "join" "bytes.join":=
 .of (owner:= "bytes") (n:= "join") (by rw[typeLookup_type,builtinLookup_eq_fast];kernel_rfl) (by decide+kernel) (by decide+kernel) (by decide+kernel)
  (by first|exact .inl (by decide+kernel)|exact .inr (by decide+kernel)) (by rw[isSubtype_type];kernel_rfl)
section
variable{w:World}{sA:Shared}{g g':Gh}{S S':St}{s s':Shared}{h h':Heap}{A:Around}{E:VP}{env:Env}{m:Lo}{l:List V}{v:V}{f n tk₀:Nat}{e:XE}{Q:VP}
theorem jO1{h:Heap}{d:Addr}{mm:Str->Option Value}{n:Str}{od:Obj}(ns:h.Ns d mm)(e:h.get? d=some od)(hm:mm n=none):lookIn n od=some none:=by
 refine e34 ns λo es ep e1 e2 e3 e4=> ?_;rw[e]at e1;cases e1;have:=e4 n;rw[hm]at this;unfold nsFind findBy at this;unfold lookIn;rw[e2];dsimp only;rw[Array.find?_toList]
 cases q:Array.find? (λe=>e.key.isStr n) es with
 |none=>
  have:es.toList.any (·.refKey)=false:=by rw[List.any_eq_false];intro e he;refine e21 (e3 e (by simpa using he)) λn t q=> ?_;simp[DictEntry.refKey,q]
  show(if es.toList.any (·.refKey)then none else some none)=some none
  rw[this];rfl
 |some e=>rw[q]at this;simp at this
theorem hZ6{x:Nat}:∀ {ns:List Nat}{vals:List Value},x∉ns->asc ns vals (nm x)=none
 | [],_,_=>rfl
 |n::ns,[],_=>rfl
 |n::ns,v::vals,h=>by unfold asc;rw[List.map_cons,List.zip_cons_cons,gG5];rw[show(nm x==nm n)=false from beq_eq_false_iff_ne.mpr λq=>h (by rw[gP9 q];exact .head _)];exact hZ6 λq=>h (.tail _ q)
noncomputable def hA6(w:World)(sA:Shared):Prop:=∀ {b:BF}{vs:List V}{ys:List Value}{u:V}{S S':St}{g:Gh}{s:Shared}{A:Around}{E:VP}{Q:VP},
 Rep w sA g S s->A.handled=none->A.units+300<cLine->callB S b vs=some (u,S')->RVs w g s.heap vs ys->Pst w sA g s.heap u S' Q->wpAny (model PP w) A (call (bfV b) ys) Q E s
noncomputable def hA5(w:World)(sA:Shared):Prop:=∀ {b:BM}{o u:V}{x:Value}{vs:List V}{ys:List Value}{S S':St}{g:Gh}{s:Shared}{A:Around}{E:VP}{Q:VP},
 Rep w sA g S s->A.handled=none->A.units+300<cLine->callBM S b o vs=some (u,S')->RV w g s.heap o x->RVs w g s.heap vs ys->Pst w sA g s.heap u S' Q->wpAny (model PP w) A (call (.builtin (lD4 b)) (x::ys)) Q E s
theorem jV0{b:BF}{es:List XE}{pos:Pos}(h:starEach es env=es.map λe=>(false,eval e env))
  (k:wpAny (model PP w) A (spliced (backTo pos (starEach es env))) (λys s'=>wpAny (model PP w) A (call (bfV b) ys) Q E s') E s):wpAny (model PP w) A (callWith pos (bfV b) [] (backTo pos (starEach es env)) []) Q E s:=by
 cases b<;>first|exact PySem.callWith_type (by rw[gF6 h]) (gT5 h k)|exact PySem.Calls.callWith_builtin (by rw[gF6 h]) (gT5 h k)
theorem jS3{b:BF}{args:List ME}(B:Bg w sA)(cb:hA6 w sA)(ss:gV7 w sA prog f):SE w sA f (.callB b args):=by intro n e env m S S' u g s A E Q c ev R V a h;refine gB2 c λq d c=>an3 c λc1 c2 c3=>gE4 (G:=λe=>wpAny (model PP w) A (eval e env) Q E s) d λnp p=> ?_;refine hX5 (G:=λδ=>_) ev λx h1 ev=> ?_;refine e02 (kP1 b) λi1 i2=> ?_;exact Call_Name rfl (gP8 B R V i1 i2 c1 (jV0 (gE0 c2) (ss c2 h1 R V a λgA ys s' xA RA rA=>cb RA a.2.2 a.u ev rA (h.from xA))) np)
theorem iN1{i:Nat}{ys:List Value}{args:List V}(sc:iT1 w sA prog f)(hi:i<70)(ev:gA4 prog f i args S=some (v,S'))(R:Rep w sA g S s)(r:RVs w g s.heap args ys)(a:AOk A f)(h:Pst w sA g s.heap v S' Q):
  wpAny (model PP w) A (call (.ref (fa i)) ys) Q E s:=
 wpAny_call (sc hi ev R r a h)
theorem jS1{i:Nat}{args:List ME}(B:Bg w sA)(ss:gV7 w sA prog f)(sc:iT1 w sA prog f):SE w sA f (.callF i args):=by intro n e env m S S' u g s A E Q c ev R V a h;refine gB2 c λq d c=>an4 c λc1 c2 c3 c4=>gE4 (G:=λe=>wpAny (model PP w) A (eval e env) Q E s) d λnp p=> ?_;refine hX3 (G:=λδ=>_) ev λx h1 ev=> ?_;have c4:i<70:=oX c4;have kk:=List.all_eq_true.mp (iK2 w.params) i (List.mem_range.mpr c4);exact Call_Name rfl (hT0 B R V c1 (hH9 (first:=[]) kk (gE0 c2) (ss c2 h1 R V a λgA ys s' xA RA rA=>⟨RA.K B,iN1 sc c4 ev RA rA a (h.from xA)⟩)) np)
theorem hV2{o:XE}{name:Str}{apos pos:Pos}{args:List XE}(hb:gN2 o=true)(st:starEach args env=args.map λe=>(false,eval e env))(hl:args.length<=10)(hline:(apos.endLine==pos.line)=true)
  (h:wpAny (model PP w) A (eval o env) (λov sA=>wpAny (model PP w) A (getMethod ov name (do return (←importBound o env).getD true)) (λfx sB=>wpAny (model PP w) A (callWith pos fx.1 fx.2 (backTo pos (starEach args env)) []) Q E sB) E sA) E s):
  wpAny (model PP w) A (eval (.Call (.Attribute o name apos) args [] pos) env) Q E s:=by
 rw[arm_eval_Call,iR1 hb];refine wpAny_bind (wpAny_mono h (λov sA hE=> ?_) λδ δ e=>e);refine wpAny_bind (wpAny_standAt ?_)
 have hform:methodCallForm (args.length+([]:List Keyword).length) (backTo pos (starEach args env)) (backToKw pos (keywordEach [] env))=true:=by
  unfold methodCallForm;have q:(backTo pos (starEach args env)).all (λx=> !x.1)=true:=by have:=gF6 st pos;rw[List.all_eq_not_any_not];simp only[Bool.not_not,Bool.not_eq_true'];exact this
  simp only[q,Bool.true_and,Bool.and_eq_true,decide_eq_true_eq];refine⟨rfl,?_⟩;show args.length+0+0<30
  (exact Nat.lt_of_le_of_lt hl (Nat.le_add_left (Nat.succ 10) 19))
 have hpos:methodCallPos true o env apos pos=pure pos:=by unfold methodCallPos;simp[hline]
 unfold methodCall;rw[hform];refine wpAny_bind (wpAny_holding (wpAny_mono hE (λfx sB hG=> ?_) λδ δ e=>e));exact wpAny_bind (wpAny_of_eq hpos hG)
noncomputable abbrev iA2(h:Heap)(x:Value):Prop:=∀a,x= .ref a->∃ob,h.get? a=some ob/\ob.dict=none
theorem hL1{l:List V}{x:Value}(r:LstV w g s.heap l x):s.TypeIs x "list"/\iA2 s.heap x:=by obtain⟨a,its,rfl,p,_,_⟩:=r;exact⟨p.isList.typeIs,λb e=>by cases e;obtain⟨n,q⟩:=p;exact⟨_,q,rfl⟩⟩
theorem hM8{ks vs:List V}{x:Value}(r:DctV w g s.heap ks vs x):s.TypeIs x "dict"/\iA2 s.heap x:=by
 obtain⟨p,vals,rfl,⟨_,⟨_,_,_,ob,_,_,h1,h2,_⟩|⟨_,_,_,_,ob,_,_,h1,h2,_⟩⟩,_,_⟩:=r
 ·exact⟨⟨ob,h1,h2.1⟩,λb e=>by cases e;exact⟨ob,h1,h2.2.1⟩⟩
 ·exact⟨⟨ob,h1,h2.1⟩,λb e=>by cases e;exact⟨ob,h1,h2.2.1⟩⟩
theorem iQ9{b:BM}{o:V}{x:Value}{pl:Sem Bool}{K:Value×List Value->Shared->Prop}(R:Rep w sA g S s)(c:iT0 S b o=true)(r:RV w g s.heap o x)(h:K (.builtin (lD4 b),[x]) s):
  wpAny (model PP w) A (getMethod x (Str.ofString (jI0 b)) pl) K E s:=by
 have lst:∀ {G:Prop},(gD4 S o).isSome=true->(s.TypeIs x "list"->iA2 s.heap x->G)->G:=λq k=>sm q λl hl=>k (hL1 (gE2 R hl r)).1 (hL1 (gE2 R hl r)).2;have dct:∀ {G:Prop},(getD S o).isSome=true->(s.TypeIs x "dict"->iA2 s.heap x->G)->G:=λq k=>sm q λl hl=>k (hM8 (gK1 R hl r)).1 (hM8 (gK1 R hl r)).2;have str:∀ {G:Prop},(sOf o).isSome=true->(∀a t,x= .str a t->G)->G:=λq k=>sm q λl hl=>by rw[gK6 hl]at r;obtain⟨t,_,e,_⟩:=r;exact k _ _ e
 have byt:∀ {G:Prop},(yOf o).isSome=true->(∀a t,x= .bytes a t->G)->G:=λq k=>sm q λl hl=>by rw[gD6 hl]at r;obtain⟨t,_,e,_⟩:=r;exact k _ _ e
 cases b with
 |append=>exact lst c λq1 q2=>getMethod_builtin (name:=Str.ofString "append") q1 F.plainAttrs_list F.slot_list_append PySem.F.type_list_append q2 h
 |pop0=>exact lst c λq1 q2=>getMethod_builtin (name:=Str.ofString "pop") q1 F.plainAttrs_list F.slot_list_pop F.type_list_pop q2 h
 |strJoin=>exact str c λa t e=>by subst e;exact getMethod_builtin (name:=Str.ofString "join") (typeIs_str _ _ _) F.plainAttrs_str F.slot_str_join F.type_str_join (by nofun) h
 |bytesJoin=>exact byt c λa t e=>by subst e;exact getMethod_builtin (name:=Str.ofString "join") (typeIs_bytes _ _ _) FB.plainAttrs_bytes gL0 gW7 (by nofun) h
 |encode=>exact str c λa t e=>by subst e;exact getMethod_builtin (name:=Str.ofString "encode") (typeIs_str _ _ _) F.plainAttrs_str F.slot_str_encode gW5 (by nofun) h
 |get1=>exact dct c λq1 q2=>getMethod_builtin (name:=Str.ofString "get") q1 F.plainAttrs_dict F.slot_dict_get F.type_dict_get q2 h
 |get2=>exact dct c λq1 q2=>getMethod_builtin (name:=Str.ofString "get") q1 F.plainAttrs_dict F.slot_dict_get F.type_dict_get q2 h
 |pop1=>exact dct c λq1 q2=>getMethod_builtin (name:=Str.ofString "pop") q1 F.plainAttrs_dict F.slot_dict_pop F.type_dict_pop q2 h
theorem gT4{e:XE}{q:XE×Str×List XE}{G:XE->Prop}(h:jU3 e=some q)(k:∀p p',(p.endLine==p'.line)=true->G (.Call (.Attribute q.1 q.2.1 p) q.2.2 [] p')):G e:=
 bd h λc d h=>bd h λn d' h=>ifs h λz h=>an z λz z'=>hH6 d (hE6 (G:=λf=>G (.Call f c.2.1 c.2.2.1 c.2.2.2)) d' (by
  rw[List.isEmpty_iff.mp z]
  exact sS (G:=λq:XE×Str×List XE=>∀p p',(p.endLine==p'.line)=true->G (.Call (.Attribute q.1 q.2.1 p) q.2.2 [] p')) h.symm k _ _ z'))
theorem iZ5{o:ME}{b:BM}{args:List ME}(cm:hA5 w sA)(se:gP3 w sA prog f)(ss:gV7 w sA prog f):SE w sA f (.callBM o b args):=by intro n e env m S S' u g s A E Q c ev R V a h;refine gB2 c λq d c=>an5 c λc2 c3 c4 c5 c6=>gT4 (G:=λe=>wpAny (model PP w) A (eval e env) Q E s) d λap p c1=> ?_;rw[bE c2];refine hM4 (G:=λδ=>_) ev λx y h1 hk h2 ev=> ?_;have st:=gE0 (env:=env) c5;refine hV2 c4 st (oX c6) c1 (se c3 h1 R V a λgA yB s' xA RA rA=>iQ9 RA hk rA ?_);refine PySem.Calls.callWith_builtin (by rw[gF6 st]) (gT5 st (ss c5 h2 RA (V.mono xA) a λgB ys s'' xB RB rB=> ?_));exact cm RB a.2.2 a.u ev (rA.mono xB) rB (h.from (xA.trans xB))
theorem jN8{v:V}{x:Value}{p:Nat×List Nat×List V}{nmx i:Nat}{pl:Sem Bool}{K:Value×List Value->Shared->Prop}(B:Bg w sA)(R:Rep w sA g S s)(h2:hM2 S v=some p)(hn:¬p.2.1.contains nmx=true)(hm:gZ8 nmx (prog.cls.getD p.1 [])=some i)(r:RV w g s.heap v x)
  (k:i<70->K (.ref (fa i),[x]) s):wpAny (model PP w) A (getMethod x (nm nmx) pl) K E s:=by
 obtain⟨ia,d,vals,rfl,hc,i0,N,l,rs⟩:=iM3 R h2 r;refine e12 (hG5 i0 N) λod I ed=> ?_;have q:=gR0 (P:=w.params) hc.1;refine an q λq δ=>an q λq δ=>an q λq δ=>an q λq δ=>an q λq δ=>an q λq1 δ=>an q1 λq1 q2=> ?_;refine an (List.all_eq_true.mp (List.all_eq_true.mp (hV3 w.params) p.1 (List.mem_range.mpr hc.1)) _ (gZ7 hm)) λmo m3=>an mo λm1 m2=> ?_;have sh:shadowIn (some od) (nm nmx)=some false:=by show(lookIn (nm nmx) od).map _=_;rw[jO1 N ed (hZ6 (by simpa using hn))];rfl
 exact method_fn (R.K B) I (bE q1) (bE q2) (bE m2) (bE m3) sh (k (oX m1))
theorem jS0{o:ME}{x:Nat}{args:List ME}(B:Bg w sA)(se:gP3 w sA prog f)(ss:gV7 w sA prog f)(sc:iT1 w sA prog f):SE w sA f (.callM o x args):=by intro n e env m S S' u g s A E Q c ev R V a h;refine gB2 c λq d c=>an5 c λc2 c3 c4 c5 c6=>gT4 (G:=λe=>wpAny (model PP w) A (eval e env) Q E s) d λap p c1=> ?_;rw[bE c2];refine hX2 (G:=λδ=>_) ev λov p i y h1 h2 hn hm h3 ev=> ?_;have st:=gE0 (env:=env) c5;refine hV2 c4 st (oX c6) c1 (se c3 h1 R V a λgA yB s' xA RA rA=>jN8 B RA h2 hn hm rA λm1=> ?_);have kk:=List.all_eq_true.mp (iK2 w.params) i (List.mem_range.mpr m1);exact hH9 (first:=[yB]) kk st (ss c5 h3 RA (V.mono xA) a λgB ys s'' xB RB rB=>⟨RB.K B,iN1 sc m1 ev RB ⟨_,ys,rfl,rA.mono xB,rB⟩ a (h.from (xA.trans xB))⟩)
theorem iT4{c:Value}{args:Args}(a:AOk A (f+1))(c':Code)(hc:c'.weight<=1)(hu:c'.cUnits<=1):AOk (A.under c') f:=by
 refine e03 a λa1 a2 a3=> ?_;refine⟨?_,?_,a3⟩
 ·show A.depth+c'.weight+f<950;(exact lK8 a1 hc)
 ·exact lK9 a2 hu
theorem hS3(C:Addr)(r:List Value)(kw:List (Str×Value)):(Code.builtin "type.__call__" ⟨.ref C::r,kw⟩).weight=1:=by rfl
theorem iD2(C:Addr)(r:List Value)(kw:List (Str×Value)):(Code.builtin "type.__call__" ⟨.ref C::r,kw⟩).cUnits=1:=by rfl
theorem Rep.newIns(R:Rep w sA g S s){c:Nat}(hc:c<10):∃g',Ext noX g s.heap g' ((s.heap.push emptyDict).push (instObj (cl c) s.heap.objs.size))/\
  Rep w sA g' (S.new (.ins c [] [])) {s with heap:=(s.heap.push emptyDict).push (instObj (cl c) s.heap.objs.size),toks:=tk₀}/\RV w g' ((s.heap.push emptyDict).push (instObj (cl c) s.heap.objs.size)) (.loc S.n) (.ref (s.heap.objs.size+1)):=by
 refine e02 (R.pushOwn (tk₀:=tk₀) emptyDict (.mutD S.n)) λRA xA=> ?_;refine e02 (RA.pushOwn (tk₀:=tk₀) (instObj (cl c) s.heap.objs.size) (.mut S.n)) λRB xB=> ?_;have sz:(s.heap.push emptyDict).objs.size=s.heap.objs.size+1:=Heap.size_push _ _;have ne:s.heap.objs.size≠(s.heap.push emptyDict).objs.size:=by rw[sz];(exact Nat.ne_of_lt (Nat.le_refl s.heap.objs.size.succ))
 obtain⟨RC,x3⟩:=RB.place (a:=s.heap.objs.size+1) (o:= .ins c [] []) λx3=>by
  refine⟨s.heap.objs.size+1,s.heap.objs.size,[],if_pos rfl,⟨hc,gC4⟩,?_,?_,?_,?_,rfl,rfl,?_⟩
  ·show(Gh.put _ _ _).own _=_;rw[←sz];exact gC1
  ·show(Gh.put _ _ _).own _=_;rw[gB7 ne];exact gC1
  ·show((s.heap.push emptyDict).push _).get? _=_;rw[←sz];exact Heap.get?_push_size _ rfl
  ·refine Ns.same (h:=s.heap.push emptyDict) ?_ (Heap.Ns.new s.heap _);exact gK0 (by rw[sz];exact Nat.lt_succ_self _)
  ·refine SzOk.same (h:=s.heap.push emptyDict) ?_ ⟨_,_,_,Heap.get?_push_size _ rfl,rfl,Nat.le_refl _⟩;exact gK0 (by rw[sz];exact Nat.lt_succ_self _)
 exact⟨_,(xA.trans xB).trans x3,RC,_,rfl,if_pos rfl⟩
theorem jN9{c i:Nat}{vs:List V}{ys:List Value}{SA:St}(B:Bg w sA)(c4:c<10)(hi:gZ8 prog.init (prog.cls.getD c [])=some i)(sc:iT1 w sA prog f)(h2:gA4 prog f i (.loc S.n::vs) (S.new (.ins c [] []))=some (.none,SA))(R:Rep w sA g S s)(r:RVs w g s.heap vs ys)(a:AOk A (f+1))
  (h:Pst w sA g s.heap (.loc S.n) SA Q):wpAny (model PP w) A (call (.ref (cl c)) ys) Q E s:=by
 refine wpAny_call ?_;refine an (gR0 (P:=w.params) c4) λq δ=>an q λq δ=>an q λδ q5=> ?_;refine an (List.all_eq_true.mp (List.all_eq_true.mp (hV3 w.params) c (List.mem_range.mpr c4)) _ (gZ7 hi)) λmo m3=>an mo λm1 m2=> ?_;have m2:=bE m2;rw[jN2]at m2;have X:=R.K B;obtain⟨hh,gn,d,t,os⟩:=s;refine make_core (makes_of X q5) (looks_findIn X m2) (λself=>bind_fn X self (bE m3)) (.inl rfl) ?_;refine e13 (R.newIns (tk₀:=t) c4) λgB xB RB rB=> ?_;have ok:=iT4 (c:= .none) (args:=⟨[],[]⟩) a (.builtin "type.__call__" ⟨.ref (cl c)::([]++ys),[]⟩) (Nat.le_of_eq (hS3 _ _ _)) (Nat.le_of_eq (iD2 _ _ _));exact sc (oX m1) h2 RB ⟨_,ys,rfl,rB,r.mono xB⟩ ok λgD y sD x3 RC rC=>⟨rC,h _ _ _ (xB.trans x3) RC (rB.mono x3)⟩
theorem jS2{c:Nat}{args:List ME}(B:Bg w sA)(ss:gV7 w sA prog f)(sc:iT1 w sA prog f){n:Nat}{e:XE}{S S':St}{v:V}{g:Gh}{s:Shared}(ck:ckE (n+1) env.scope.names (.callC c args) e=true)
  (ev:evE prog (f+1) (.callC c args) m S=some (v,S'))(R:Rep w sA g S s)(V:VarR w g s.heap env m)(a:AOk A (f+1))(h:Pst w sA g s.heap v S' Q):wpAny (model PP w) A (eval e env) Q E s:=by
 refine gB2 ck λq d ck=>an4 ck λc1 c2 c3 c4=>gE4 (G:=λe=>wpAny (model PP w) A (eval e env) Q E s) d λnp p=> ?_;have a':=a.less (Nat.le_succ f);have c4:=oX c4;refine hX4 (G:=λq=>Pst w sA g s.heap q.1 q.2 Q->_) ev (λx i SA h1 hi h2 h=> ?_) h;have kk:=List.all_eq_true.mp (jP1 w.params) c (List.mem_range.mpr c4);exact Call_Name rfl (hT0 B R V c1 (hH9 (first:=[]) kk (gE0 c2) (ss c2 h1 R V a' λgA ys s' xA RA rA=>⟨RA.K B,jN9 B c4 hi sc h2 RA rA a (h.from xA)⟩)) np)
theorem jP2{k:Kd}{t:Str}{tp:Pos}{K:VP}(B:Bg w sA)(R:Rep w sA g S s)(V:VarR w g s.heap env m)(c:lH8 env.scope.names k t=true)(h:K (kdV k) s):wpAny (model PP w) A (eval (.Name t tp) env) K E s:=by
 cases k with
 |bool=>exact gP8 B R V (i:=15) rfl rfl c h tp
 |int=>exact gP8 B R V (i:=1) rfl rfl c h tp
 |list=>exact gP8 B R V (i:=5) rfl rfl c h tp
 |dict=>exact gP8 B R V (i:=6) rfl rfl c h tp
 |cls c'=>
  exact hT0 B R V (Bool.and_eq_true_iff.mp c).2 h tp
theorem lA6{o:ME}{k:Kd}(B:Bg w sA)(se:gP3 w sA prog f):SE w sA f (.isi o k):=by intro n e env m S S' u g s A E Q c ev R V a h;refine gB2 c λq d c=>gB2 c λz d1 c=>gB2 c λt d2 c=>an3 c λc1 c2 c3=>gE4 (G:=λe=>wpAny (model PP w) A (eval e env) Q E s) d λnp p=> ?_;rw[hJ0 d1];refine gL7 (G:=λe=>wpAny (model PP w) A (eval (.Call (.Name q.1 np) [z.1,e] [] p) env) Q E s) d2 ?_;refine jG7 (G:=λq=>Pst w sA g s.heap q.1 q.2 Q->_) ev (λx b h1 h2 h=> ?_) h;have st:starEach [z.1,.Name t.1 t.2] env=[(false,eval z.1 env),(false,eval (.Name t.1 t.2) env)]:=gP5 c2;refine Call_Name rfl (gP8 B R V (i:=11) rfl rfl c1 ?_ np);refine PySem.Calls.callWith_builtin (by rw[gF6 (by exact st)]) (gT5 (by exact st) ?_);rw[st];refine spliced_cons (se c2 h1 R V a λgA yB s' xA RA rA=>spliced_cons (jP2 B RA (V.mono xA) c3 (spliced_nil ?_)));exact kH0 B RA h2 rA (λc' q=>by subst q;exact oX (Bool.and_eq_true_iff.mp c3).1) λtk=>h _ _ _ xA (RA.tk _) rfl
end
noncomputable def tgA(env:Env)(l:List Nat)(a:Addr):Prop:=∃x∈l,(env.kindOf (nm x)=some .local/\a=env.locals)\/(env.kindOf (nm x)=some .cell/\env.cells.lookup (nm x)=some a)
section
variable{w:World}{sA:Shared}{g g':Gh}{S S':St}{s s':Shared}{h h':Heap}{A:Around}{E:VP}{env:Env}{m m':Lo}{l:List V}{v:V}{f n:Nat}{e:XE}{X:Addr->Prop}
theorem gH5{l:List Nat}{a:Addr}(h:tgA env l a):hI7 env a:=by
 obtain⟨x,_,⟨_,rfl⟩|⟨k,q⟩⟩:=h
 ·exact .inl rfl
 ·exact .inr ⟨_,k,q⟩
theorem VarR.less(V:VarR w g h env m')(q:∀x v,m x=some v->m' x=some v):VarR w g h env m:=by obtain⟨mm,n,o,r⟩:=V.loc;exact⟨V.fn,V.gl,V.bl,⟨mm,n,o,λx v e k=>r x v (q x v e) k⟩,λx v e k=>V.cel x v (q x v e) k,V.cells,V.apart,V.inj⟩
set_option tactic.hygienic true in
theorem gM3{x:Nat}{y:Value}{Q:UP}(R:Rep w sA g S s)(V:VarR w g s.heap env m)(c:gS7 env.scope.names (nm x)=true)(r:RV w g s.heap v y)
  (k:∀s',Rep w sA g S s'->Ext (tgA env [x]) g s.heap g s'.heap->VarR w g s'.heap env (m.set x v)->Q () s'):wpAny (model PP w) A (storeName env (nm x) y) Q E s:=by
 refine hQ9 c (λkd=> ?_) λkd=> ?_
 ·obtain⟨mm,n,o,q⟩:=V.loc;refine wpAny_storeName_local kd n (λh' n' sb=> ?_) (by rw[V.fn];rfl);obtain⟨R',x'⟩:=R.turnPriv (h':=h') (tk₀:=s.toks+1) o (by obtain⟨o',_,_,e,_⟩:=n';rw[e];rfl) λb nb δ=>sb.2 b nb;refine k _ R' (x'.weak λa e=>⟨x,.head _,.inl ⟨kd,e⟩⟩) ?_;refine⟨V.fn,V.gl,V.bl,⟨_,n',o,λxB vA eA kA=> ?_⟩,λxB vA eA kA=> ?_,λnB kA=> ?_,V.apart,V.inj⟩
  ·unfold Lo.set at eA
   split at eA
   ·rename_i e3;cases eA;subst e3;exact⟨y,if_pos rfl,r.mono x'⟩
   ·rename_i ne;refine e12 (q xB vA eA kA) λyA p1 p2=> ?_;exact⟨yA,(if_neg λz=>ne (gP9 z)).trans p1,p2.mono x'⟩
  ·unfold Lo.set at eA
   split at eA
   ·rename_i e3;subst e3;rw[show env.kindOf (nm xB)=some .local from kd]at kA;cases kA
   ·obtain⟨c,yA,p1,⟨ob,p2,p3⟩,p4⟩:=V.cel xB vA eA kA;exact⟨c,yA,p1,⟨ob,(sb.2 c (V.apart _ _ p1)).trans p2,p3⟩,p4.mono x'⟩
  ·obtain⟨c,vA,p1,p2,⟨ob,p3,p4⟩⟩:=V.cells nB kA;exact⟨c,vA,p1,p2,ob,(sb.2 c (V.apart _ _ p1)).trans p3,p4⟩
 ·obtain⟨cA,v0,lA,o,ic⟩:=V.cells (nm x) kd;refine wpAny_storeName_cell V.fn kd lA ic λh' ic' sb=> ?_;obtain⟨R',x'⟩:=R.turnPriv (h':=h') (tk₀:=s.toks) o (by obtain⟨o',e,_⟩:=ic';rw[e];rfl) λb nb δ=>sb.2 b nb;refine k _ R' (x'.weak λa e=>⟨x,.head _,.inr ⟨kd,by rw[e];exact lA⟩⟩) ?_;obtain⟨mm,n,ol,q⟩:=V.loc;refine⟨V.fn,V.gl,V.bl,⟨mm,Ns.same (sb.2 _ (Ne.symm (V.apart _ _ lA))) n,ol,λxB vA eA kA=> ?_⟩,λxB vA eA kA=> ?_,λnB kA=> ?_,V.apart,V.inj⟩
  ·unfold Lo.set at eA
   split at eA
   ·rename_i e3;subst e3;rw[show env.kindOf (nm xB)=some .cell from kd]at kA;cases kA
   ·refine e12 (q xB vA eA kA) λyA p1 p2=> ?_;exact⟨yA,p1,p2.mono x'⟩
  ·unfold Lo.set at eA
   split at eA
   ·rename_i e3;cases eA;subst e3;exact⟨cA,y,lA,ic',r.mono x'⟩
   ·rename_i ne;obtain⟨c,yA,p1,⟨ob,p2,p3⟩,p4⟩:=V.cel xB vA eA kA;have nc:c≠cA:=by rintro rfl;exact ne (gP9 (V.inj _ _ _ p1 lA))
    exact⟨c,yA,p1,⟨ob,(sb.2 c nc).trans p2,p3⟩,p4.mono x'⟩
  ·obtain⟨c,vA,p1,p2,⟨ob,p3,p4⟩⟩:=V.cells nB kA
   by_cases nc:c=cA
   ·subst nc;exact⟨c,_,p1,p2,ic'⟩
   ·exact⟨c,vA,p1,p2,ob,(sb.2 c nc).trans p3,p4⟩
theorem hY8{sc:NKs}{xs:List Nat}{es:List XE}{G:List Nat->List XE->Prop}(c:iS9 sc xs es=true)(n:G [] [])(k:∀x xs p es,gS7 sc (nm x)=true->nm x≠("__debug__":Str)->iS9 sc xs es=true->G (x::xs) (.Name (nm x) p::es)):G xs es:=by
 cases xs with
 |nil=>rw[List.isEmpty_iff.mp (show es.isEmpty=true from c)];exact n
 |cons x xs=>
  cases es with
  |nil=>exact ff c
  |cons e es=>exact an c λc1 c2=>jN3 (G:=λe=>G (x::xs) (e::es)) c1 λp q r=>k _ _ _ _ q r c2
theorem hR2{sc:NKs}:∀ {xs:List Nat}{es:List XE},iS9 sc xs es=true->xs.length=es.length/\(assignEach es env).length=es.length/\(assignEach es env).findIdx? (·.1)=none
 | [],es,c=>by rw[List.isEmpty_iff.mp (show es.isEmpty=true from c)];exact⟨rfl,rfl,rfl⟩
 |x::xs,es,c=>hY8 (G:=λxs' es=>xs'=x::xs->xs'.length=es.length/\(assignEach es env).length=es.length/\(assignEach es env).findIdx? (·.1)=none) c (by nofun) (λx' xs' p es δ δ c' e=>by
   cases e;refine e03 (hR2 c') λi1 i2 i3=> ?_;refine⟨congrArg (· +1) i1,congrArg (· +1) i2,?_⟩;show((false,_)::assignEach es env).findIdx? _=none
   rw[List.findIdx?_cons,i3];rfl) rfl
theorem hR5:∀ {xs:List Nat}{es:List XE}{m:Lo}{l:List V}{ys:List Value}{s:Shared}{Q:UP},iS9 env.scope.names xs es=true->l.length=xs.length->Rep w sA g S s->VarR w g s.heap env m->RVs w g s.heap l ys->
  (∀s',Rep w sA g S s'->Ext (tgA env xs) g s.heap g s'.heap->VarR w g s'.heap env (m.sets xs l)->Q () s')->wpAny (model PP w) A (assignInOrder ((assignEach es env).map (·.2)) ys) Q E s
 | [],es,m,l,ys,s,Q,c,hl,R,V,r,k=>by
  rw[List.isEmpty_iff.mp (show es.isEmpty=true from c)];cases List.length_eq_zero_iff.mp hl;cases r
  exact wpAny_assignInOrder_none (k _ R (.refl _ _ _) V)
 |x::xs,es,m,[],ys,s,Q,c,hl,R,V,r,k=>nomatch hl
 |x::xs,es,m,v::l,ys,s,Q,c,hl,R,V,r,k=>by obtain⟨y,ys',rfl,r1,r2⟩:=r;refine hY8 (G:=λxs' es=>xs'=x::xs->wpAny (model PP w) A (assignInOrder ((assignEach es env).map (·.2)) (y::ys')) Q E s) c (by nofun) (λx' xs' p es c2 δ c4 e=> ?_) rfl;cases e;refine wpAny_assignInOrder_more (wpAny_assign_Name (gM3 R V c2 r1 λs' R' x' V'=> ?_));refine hR5 c4 (Nat.succ.inj hl) R' V' (r2.mono x') λs'' R'' x'' V''=>k _ R'' ?_ V'';exact(x'.weak λa ⟨z,q1,q2⟩=>⟨z,List.mem_of_mem_take (i:=1) q1,q2⟩).trans (x''.weak λa ⟨z,q1,q2⟩=>⟨z,mO _ q1,q2⟩)
theorem iE7{xs:List Nat}{es:List XE}{k:Nat}{p:Pos}{y:Value}{Q:UP}(hh:A.handled=none)(c:iS9 env.scope.names xs es=true)(hl:l.length=xs.length)(R:Rep w sA g S s)(V:VarR w g s.heap env m)(r:RV w g s.heap (.tup l) y)
  (kk:∀s',Rep w sA g S s'->Ext (tgA env xs) g s.heap g s'.heap->VarR w g s'.heap env (m.sets xs l)->Q () s'):wpAny (model PP w) A (assign (.Tuple es k p) env y) Q E s:=by
 obtain⟨a,its,n,rfl,ka,p,z,r⟩:=r;refine e03 (hR2 (env:=env) c) λg1 g2 g3=> ?_;have ln:=r.length;rw[Array.length_toList]at ln;refine wpAny_assign_Tuple hh ⟨_,p,rfl,_,rfl⟩ (by rw[ln,hl,g1,g2]) g3 λh' eb=> ?_;obtain⟨R',x'⟩:=R.touch (h':=h') (tk₀:=s.toks) λb q=>by refine e11 (Option.isSome_iff_exists.mp (R.live b q)) λob e1=> ?_;rw[e1];exact eb b ob (by rintro rfl;exact q (R.fresh _ (Nat.le_refl _))) e1
 exact hR5 c hl R' (V.mono x') (r.mono x') λs'' R'' x'' V''=>kk _ R'' (x'.no.trans x'') V''
theorem hN8{t:Tg}{te:XE}{y:Value}{Q:UP}(hh:A.handled=none)(c:jH7 env.scope.names t te=true)(e:t.put v m=some m')(R:Rep w sA g S s)(V:VarR w g s.heap env m)(r:RV w g s.heap v y)
  (k:∀s',Rep w sA g S s'->Ext (tgA env (tgL t)) g s.heap g s'.heap->VarR w g s'.heap env m'->Q () s'):wpAny (model PP w) A (assign te env y) Q E s:=by
 cases t with
 |one x=>
  cases e
  exact jN3 (G:=λte=>wpAny (model PP w) A (assign te env y) Q E s) c λp c2 δ=>wpAny_assign_Name (gM3 R V c2 r k)
 |tup xs=>
  refine gB2 c λq d c=>an c λc1 δ=>gN7 (G:=λte=>wpAny (model PP w) A (assign te env y) Q E s) d (bd e λl ht e=>ifs e λhl e=> ?_);cases e;exact iE7 hh c1 hl R V (gI8 ht▸r) k
theorem hU6{t:Tg}(e:t.put v m=some m')(d:∀x∈tgL t,m x=none):∀x u,m x=some u->m' x=some u:=by
 have st:∀(xs:List Nat) (l:List V) (m:Lo),(∀x∈xs,m x=none)->∀x u,x∉xs->m x=some u->(m.sets xs l) x=some u:=by
  intro xs
  induction xs with
  |nil=>intro l m _ x u _ q;exact q
  |cons y ys ih=>
   intro l m d x u nx q
   cases l with
   |nil=>exact q
   |cons v l=>
    unfold Lo.sets;have nxy:x≠y:=λz=>nx (by rw[z];exact mS)
    have:∀(zs:List Nat) (l:List V) (m:Lo),x∉zs->(m.sets zs l) x=m x:=by
     intro zs
     induction zs with
     |nil=>intro l m _;rfl
     |cons z zs ih2=>
      intro l m nz
      cases l with
      |nil=>rfl
      |cons v l=>
       unfold Lo.sets;rw[ih2 _ _ λq=>nz (.tail _ q)];show(if x=z then some v else m x)=m x;exact if_neg λq:x=z=>nz (by rw[q];exact mS)
    rw[this ys l _ λq=>nx (.tail _ q)];exact(if_neg nxy).trans q
 intro x u q;have nx:x∉tgL t:=λz=>by rw[d x z]at q;cases q
 cases t with
 |one y=>
  cases e;show(if x=y then some v else m x)=some u
  rw[if_neg λz:x=y=>nx (by rw[z];exact mS)];exact q
 |tup xs=>
  exact bd e λl δ e=>ifs e λδ e=>by cases e;exact st _ _ _ d x u nx q
end
structure ExtL(X:Addr->Prop)(Ps:List Addr)(g:Gh)(h:Heap)(g':Gh)(h':Heap):Prop where
 keep:∀a,g.own a= .keep->g'.own a= .keep/\h'.get? a=h.get? a
 priv:∀a,a∉Ps->g.own a= .priv->g'.own a= .priv/\(¬X a->h'.get? a=h.get? a)
 rho:∀k a,g.rho k=some a->g'.rho k=some a
section
variable{X Y:Addr->Prop}{Ps:List Addr}{g g' g'':Gh}{h h' h'':Heap}
theorem ExtL.of(x:Ext noX g h g' h')(fr:∀a∈Ps,g.own a= .free)(y:ExtL X Ps g' h' g'' h''):Ext X g h g'' h'':=
 ⟨λa q=>⟨(y.keep a (x.keep a q).1).1,(y.keep a (x.keep a q).1).2.trans (x.keep a q).2⟩,
  λa q=>by
  have n:a∉Ps:=λz=>by rw[fr a z]at q;cases q
  have k:=x.priv a q;have k':=y.priv a n k.1;exact⟨k'.1,λz=>(k'.2 z).trans (k.2 id)⟩,
  λk a q=>y.rho k a (x.rho k a q)⟩
theorem ExtL.after(x:Ext Y g h g' h')(i:∀a,Y a->X a\/a∈Ps)(y:ExtL X Ps g' h' g'' h''):ExtL X Ps g h g'' h'':=
 ⟨λa q=>⟨(y.keep a (x.keep a q).1).1,(y.keep a (x.keep a q).1).2.trans (x.keep a q).2⟩,
  λa n q=>by
  have k:=x.priv a q;have k':=y.priv a n k.1;refine⟨k'.1,λz=>(k'.2 z).trans (k.2 λw=> ?_)⟩;rcases i a w with w|w
  ·exact z w
  ·exact n w,
  λk a q=>y.rho k a (x.rho k a q)⟩
theorem Lost.extL(x:Lost Ps g h g' h')(o:∀a∈Ps,g.own a= .priv):ExtL X Ps g h g' h':=by
 refine⟨λa q=> ?_,λa n q=> ?_,λk a q=>by rw[x.rho];exact q⟩
 ·have k:=x.own a λz=>by rw[o a z]at q;cases q
  exact⟨k.1.trans q,k.2 (by rw[q];nofun)⟩
 ·have k:=x.own a n;exact⟨k.1.trans q,λδ=>k.2 (by rw[q];nofun)⟩
end
noncomputable def iS2(w:World)(sA:Shared)(f:Nat):Prop:=∀ {n:Nat}{l:List ME}{es:List XE}{env:Env}{m:Lo}{S S':St}{b:Bool}{g:Gh}{s:Shared}{A:Around}{E:VP}{Q:Bool->Shared->Prop},
 gP4 n env.scope.names l es=true->gC8 prog f l m S=some (b,S')->Rep w sA g S s->VarR w g s.heap env m->AOk A f->Pbt w sA g s.heap b S' Q->
  wpAny (model PP w) A (forIn es true λc r=>if r=true then do let ok←isTrue c env (eval c env);pure (ForInStep.yield ok)else pure (ForInStep.yield r)) Q E s
noncomputable def jI3(w:World)(sA:Shared)(f:Nat):Prop:=∀ {n:Nat}{t:Tg}{it:It}{ifs:List ME}{e:XE}{env:Env}{m:Lo}{S S':St}{l:List V}{g:Gh}{s:Shared}{A:Around}{E:VP}{Q:VP},
 ckI n env.scope.names it e=true->itE prog f (.mk t it ifs) m S=some (l,S')->Rep w sA g S s->VarR w g s.heap env m->AOk A f->Pit w sA g s.heap l S' (∃e,it= .enum e) Q->wpAny (model PP w) A (eval e env) (λx s'=>wpAny (model PP w) A (pyIter x) Q E s') E s
noncomputable abbrev gO8(env:Env):Addr->Prop:=hI7 env
structure CompSt(w:World)(g:Gh)(h:Heap)(env:Env)(I D:Addr)(Ps:List Addr)(gs:List Gn)(m:Lo)(l:List V):Prop where
 it:Itr w g h I Ps l
 dp:g.own D= .priv
 nD:D∉Ps
 nM:∀a,(a=D\/a∈Ps)->¬gO8 env a
 tg:∀x∈iD9 gs,m x=none/\env.kindOf (nm x)=some .local
 nd:(iD9 gs).Nodup
noncomputable def enG:List Gn->Prop
 | []=>False
 | .mk _ it _::_=>∃e,it= .enum e
structure LS(w:World)(sA:Shared)(S:St)(env:Env)(D:Addr)(m:Lo)(P:Gh->Heap->Prop)(g:Gh)(s:Shared):Prop where
 R:Rep w sA g S s
 fr:VarR w g s.heap env m
 dp:g.own D= .priv
 ac:P g s.heap
noncomputable def Sta(D:Addr)(P:Gh->Heap->Prop):Prop:=∀ {g h g' h'},KpS g h g' h'->h'.get? D=h.get? D->P g h->P g' h'
inductive ListD(w:World)(vs:List V)(D:Addr)(g:Gh)(h:Heap):Prop
 |mk (its:Array Value):h.PlainList D its->its.size<=1000000->RVs w g h vs its.toList->ListD w vs D g h
theorem gH1{w:World}{vs:List V}{D:Addr}:Sta D (ListD w vs D):=λk e ⟨its,a,b,c⟩=>⟨its,IsList.same e a,b,RVs.monoK k c⟩
noncomputable def PostC(w:World)(sA:Shared)(env:Env)(D:Addr)(Ps:List Addr)(m:Lo)(S':St)(P:Gh->Heap->Prop)(g:Gh)(h:Heap)(R:Result->Shared->Prop):Prop:=∀g' s',ExtL (λa=>a=env.locals\/a=D) Ps g h g' s'.heap->LS w sA S' env D m P g' s'->R (.ok .next) s'
noncomputable def kP5(w:World)(sA:Shared)(f:Nat):Prop:=∀ {n n' d:Nat}{em:ME}{gn:Gn}{r:List Gn}{elt:XE}{cs cr:List Comprehension}{cg:Comprehension}{scope:Scope}{pos:Pos}{sc:NKs}{env:Env}{m:Lo}{l acc:List V}{q:List V×St}{S:St}{g:Gh}{s:Shared}{A:Around}
  {I D:Addr}{Ps:List Addr}{R:Result->Shared->Prop},
 cs.drop d=cg::cr->ckE n env.scope.names em elt=true->iP7 n' sc env.scope.names (gn::r) (cg::cr)=true->gD8 prog f em gn r l m acc S=some q->
 LS w sA S env D m (ListD w acc D) g s->AOk A f->CompSt w g s.heap env I D Ps (gn::r) m l->(Ps.length=2->enG (gn::r))->PostC w sA env D Ps m q.2 (ListD w q.1 D) g s.heap R->
 codeAny (model PP w) A (.compLoop (.ListComp elt cs scope pos) d (.ref I) (.ref D) env) R s
section
variable{w:World}{sA:Shared}{g g':Gh}{S S':St}{s s':Shared}{h h':Heap}{A:Around}{E:VP}{env:Env}{m m':Lo}{l:List V}{v:V}{f n:Nat}{e:XE}{X:Addr->Prop}{I D:Addr}{Ps:List Addr}
theorem iU0{es:List XE}{Q:Bool->Shared->Prop}(h:Q false s):wpAny (model PP w) A (forIn es false λc r=>if r=true then do let ok←isTrue c env (eval c env);pure (ForInStep.yield ok)else pure (ForInStep.yield r)) Q E s:=by
 induction es with
 |nil=>exact wpAny_pure h
 |cons e es ih=>
  rw[List.forIn_cons];exact wpAny_bind (wpAny_pure ih)
theorem kU9(st:jI2 w sA prog f)(sts:iS2 w sA f):iS2 w sA (f+1):=by
 intro n l es env m S S' b g s A E Q c ev R V a h;have a':=a.less (Nat.le_succ f);revert ev;refine gN8 (G:=λl es=>gC8 prog (f+1) l m S=some (b,S')->wpAny (model PP w) A (forIn es true λc r=>if r=true then do let ok←isTrue c env (eval c env);pure (ForInStep.yield ok)else pure (ForInStep.yield r)) Q E s) c (λev=> ?_) λn me l e es hn c1 c2 ev=> ?_
 ·cases ev;exact wpAny_pure (h _ _ (.refl _ _ _) R)
 ·rw[List.forIn_cons];refine wpAny_bind ?_;refine wIf rfl ?_;refine wpAny_bind ?_;refine iN6 (G:=λq=>Pbt w sA g s.heap q.1 q.2 Q->_) ev (λS₁ h1 ev h=> ?_) (λS₁ h1 h=> ?_) h
  ·exact st c1 h1 R V a' λgA s' xA RA=>wpAny_pure (sts c2 ev RA (V.mono xA) a' (h.from xA))
  ·exact st c1 h1 R V a' λgA s' xA RA=>wpAny_pure (iU0 (h _ _ xA RA))
theorem lJ2(si:kS4 w sA prog f):jI3 w sA (f+1):=by intro n t it ifs e env m S S' l g s A E Q c ev R V a h;exact si c (show itI prog f it m S=_ from ev) R V (a.less (Nat.le_succ f)) h
theorem gH6{n:Nat}{sc:NKs}{it:It}{e:XE}(c:ckI n sc it e=true)(x:Value):foldedSetIterable e env x=pure x:=by
 cases n with
 |zero=>exact ff c
 |succ n=>
  cases e<;>first|rfl|skip
  all_goals cases it with
  |ex me=>
   cases n with
   |zero=>exact ff c
   |succ n=>cases me<;>exact ff c
  |_=>exact ff c
theorem VarR.mono'(V:VarR w g h env m)(x:Ext X g h g' h')(n:∀a,X a->¬gO8 env a):VarR w g' h' env m:=by
 have no:∀a,gO8 env a->¬X a:=λa p q=>n a q p;obtain⟨mm,q1,o,q⟩:=V.loc;have pl:=x.priv _ o;refine⟨V.fn,V.gl,V.bl,⟨mm,Ns.same (pl.2 (no _ (.inl rfl))) q1,pl.1,λy v e k=> ?_⟩,λy v e k=> ?_,λn k=> ?_,V.apart,V.inj⟩
 ·obtain⟨z,a,b⟩:=q y v e k;exact⟨z,a,b.mono x⟩
 ·obtain⟨c,z,a,⟨ob,e1,e2⟩,r⟩:=V.cel y v e k;obtain⟨c',v',p1,p2,p3⟩:=V.cells _ k;rw[a]at p1;cases p1;exact⟨c,z,a,⟨ob,((x.priv _ p2).2 (no _ (.inr ⟨_,k,a⟩))).trans e1,e2⟩,r.mono x⟩
 ·obtain⟨c',v',p1,p2,⟨ob,e1,e2⟩⟩:=V.cells _ k;exact⟨c',v',p1,(x.priv _ p2).1,ob,((x.priv _ p2).2 (no _ (.inr ⟨_,k,p1⟩))).trans e1,e2⟩
theorem gX9{x:Nat}:∀(zs:List Nat) (l:List V) (m:Lo),x∉zs->(m.sets zs l) x=m x
 | [],_,_,_=>rfl
 |z::zs,[],_,_=>rfl
 |z::zs,v::l,m,nz=>by unfold Lo.sets;rw[gX9 zs l _ λq=>nz (mO _ q)];show(if x=z then some v else m x)=m x;exact if_neg λq:x=z=>nz (by rw[q];exact mS)
theorem iV5{t:Tg}{x:Nat}(e:t.put v m=some m')(d:x∉tgL t):m' x=m x:=by
 cases t with
 |one y=>cases e;exact gX9 [y] [v] m d
 |tup xs=>
  exact bd e λl δ e=>ifs e λδ e=>by cases e;exact gX9 _ _ _ d
theorem jY4{sc:NKs}{t:Tg}{te:XE}(c:jH7 sc t te=true):iE0 te=true:=by
 cases t with
 |one x=>exact jN3 (G:=λte=>iE0 te=true) c λp δ δ=>rfl
 |tup xs=>exact gB2 c λq d δ=>gN7 (G:=λte=>iE0 te=true) d rfl
theorem LS.mono{P:Gh->Heap->Prop}(L:LS w sA S env D m P g s)(st:Sta D P)(x:Ext noX g s.heap g' s'.heap)(R:Rep w sA g' S' s'):LS w sA S' env D m P g' s':=⟨R,L.fr.mono x,(x.priv _ L.dp).1,st ⟨x.keep,x.rho⟩ ((x.priv _ L.dp).2 id) L.ac⟩
theorem PostC.after{P:Gh->Heap->Prop}{R:Result->Shared->Prop}{Y:Addr->Prop}(p:PostC w sA env D Ps m S' P g h R)(x:Ext Y g h g' h')(i:∀a,Y a->(a=env.locals\/a=D)\/a∈Ps):PostC w sA env D Ps m S' P g' h' R:=λg'' s'' y=>p g'' s'' (ExtL.after x i y)
theorem PostC.from{P:Gh->Heap->Prop}{R:Result->Shared->Prop}(p:PostC w sA env D Ps m S' P g h R)(x:Ext noX g h g' h'):PostC w sA env D Ps m S' P g' h' R:=p.after x λa q=>q.elim
theorem hJ2{K:UP}{t:Tg}{te:XE}{it:It}{ifs:List ME}{r:List Gn}{P:Gh->Heap->Prop}(hh:A.handled=none)(L:LS w sA S env D m P g s)(sta:Sta D P)(C:CompSt w g s.heap env I D Ps (.mk t it ifs::r) m (v::l))(hp:t.put v m=some m')
  (c1:kR5 it te=true)(c2:jH7 env.scope.names t te=true)(en:Ps.length=2->∃e,it= .enum e)
  (k:∀g' s',Ext (λa=>(a=env.locals\/a=D)\/a∈Ps) g s.heap g' s'.heap->LS w sA S env D m P g' s'->VarR w g' s'.heap env m'->CompSt w g' s'.heap env I D Ps (.mk t it ifs::r) m l->(∀x∈iD9 r,m' x=none)->K () s'):
  gR6 w A E te I (λy s''=>wpAny (model PP w) A (assign te env y) K E s'') s:=by
 have ttp:Ps.length=2->iF5 te=true:=λq=>by obtain⟨e,rfl⟩:=en q;exact c1
 have tg:∀z∈tgL t,m z=none/\env.kindOf (nm z)=some .local:=λz q=>C.tg z (by rw[hC0];exact List.mem_append_left _ q);refine hG3 hh L.R C.it (jY4 c2) ttp λgA y s' xA RA rA it1=> ?_;refine hN8 hh c2 hp RA (L.fr.mono' xA λa q=>C.nM a (.inr q)) rA λs'' RB xB V2=> ?_
 have loc:∀a,tgA env (tgL t) a->a=env.locals:=λa ⟨z,q1,q2⟩=>by
  rcases q2 with⟨_,q⟩|⟨q,_⟩
  ·exact q
  ·rw[(tg z q1).2]at q;cases q
 have nloc:∀a,(a=D\/a∈Ps)->a≠env.locals:=λa q e=>C.nM a q (.inl e);have pD:=xA.priv D C.dp;have pD':=xB.priv D pD.1;have x3:Ext (λa=>(a=env.locals\/a=D)\/a∈Ps) g s.heap gA s''.heap:=(xA.weak λa q=> .inr q).trans (xB.weak λa q=> .inl (.inl (loc a q)));refine k _ _ x3 ⟨RB,V2.less (hU6 hp λx hx=>(tg x hx).1),pD'.1,sta ⟨x3.keep,x3.rho⟩ ((pD'.2 λz=>nloc D (.inl rfl) (loc _ z)).trans (pD.2 C.nD)) L.ac⟩ V2 ⟨it1.mono xB λa q z=>nloc a (.inr q) (loc a z),pD'.1,C.nD,C.nM,C.tg,C.nd⟩ λx hx=> ?_;have nd:=C.nd;rw[hC0]at nd;rw[iV5 hp λz=>(List.nodup_append.mp nd).2.2 _ z _ hx rfl];exact(C.tg x (by rw[hC0];exact List.mem_append_right _ hx)).1
end
section
variable{w:World}{sA:Shared}{g g':Gh}{S S':St}{s s':Shared}{h h':Heap}{A:Around}{E:VP}{env:Env}{m m':Lo}{l:List V}{v:V}{f n:Nat}{e:XE}{X:Addr->Prop}{I D:Addr}{Ps:List Addr}
theorem hC2{elt te ie:XE}{ies:List XE}{cs:List Comprehension}{scope:Scope}{pos:Pos}{d:Nat}{acc:Value}{R:Result->Shared->Prop}(hd:cs[d]?=some ⟨te,ie,ies,0⟩)(it:Itr w g s.heap I Ps l)
  (h:codeAny (model PP w) A (.compLoop (.ListComp elt cs scope pos) d (.ref I) acc env) R s):codeAny (model PP w) A (.compStart (.ListComp elt cs scope pos) d (.ref I) acc env) R s:=by
 refine codeAny_of_tree ?_;show wpAny _ _ ((compStart (.ListComp elt cs scope pos) d (.ref I) acc env).onRaise (λx=>do noteFrame x env;standAt theWindowsPlace)) _ _ s;refine wpAny_notedAt ?_;unfold compStart;have hc:(clausesOf (.ListComp elt cs scope pos))[d]?=some ⟨te,ie,ies,0⟩:=hd;rw[hc];show wpAny _ _ (ask>>=_) _ _ s;refine wpAny_bind (wpAny_askSetting (wpAny_ite ?_))
 split
 ·first
   |exact wpAny_bind (wpAny_pure (wpAny_pure (And.intro rfl h)))
   |exact wpAny_pure (And.intro rfl h)
 ·refine wpAny_bind (wpAny_rule ?_);show wpAny _ _ (standAt ie.pos>>=_) _ _ s;exact wpAny_bind (wpAny_standAt (wpAny_bind (hV9 it (wpAny_pure (And.intro rfl h)))))
theorem iB1{k v te ie:XE}{ies:List XE}{cs:List Comprehension}{scope:Scope}{pos:Pos}{d:Nat}{acc:Value}{R:Result->Shared->Prop}(hd:cs[d]?=some ⟨te,ie,ies,0⟩)(it:Itr w g s.heap I Ps l)
  (h:codeAny (model PP w) A (.compLoop (.DictComp k v cs scope pos) d (.ref I) acc env) R s):codeAny (model PP w) A (.compStart (.DictComp k v cs scope pos) d (.ref I) acc env) R s:=by
 refine codeAny_of_tree ?_;show wpAny _ _ ((compStart (.DictComp k v cs scope pos) d (.ref I) acc env).onRaise (λx=>do noteFrame x env;standAt theWindowsPlace)) _ _ s;refine wpAny_notedAt ?_;unfold compStart;have hc:(clausesOf (.DictComp k v cs scope pos))[d]?=some ⟨te,ie,ies,0⟩:=hd;rw[hc];show wpAny _ _ (ask>>=_) _ _ s;refine wpAny_bind (wpAny_askSetting (wpAny_ite ?_))
 split
 ·first
   |exact wpAny_bind (wpAny_pure (wpAny_pure (And.intro rfl h)))
   |exact wpAny_pure (And.intro rfl h)
 ·refine wpAny_bind (wpAny_rule ?_);show wpAny _ _ (standAt ie.pos>>=_) _ _ s;exact wpAny_bind (wpAny_standAt (wpAny_bind (hV9 it (wpAny_pure (And.intro rfl h)))))
theorem VarR.monoL(V:VarR w g h env m)(x:ExtL X Ps g h g' h')(n:∀a,(X a\/a∈Ps)->¬gO8 env a):VarR w g' h' env m:=by
 have pr:∀a,gO8 env a->g.own a= .priv->g'.own a= .priv/\h'.get? a=h.get? a:=λa p o=>by have k:=x.priv a (λq=>n a (.inr q) p) o;exact⟨k.1,k.2 λq=>n a (.inl q) p⟩
 have K:KpS g h g' h':=⟨x.keep,x.rho⟩
 obtain⟨mm,q1,o,q⟩:=V.loc;have pl:=pr _ (.inl rfl) o;refine⟨V.fn,V.gl,V.bl,⟨mm,Ns.same pl.2 q1,pl.1,λy v e k=> ?_⟩,λy v e k=> ?_,λn k=> ?_,V.apart,V.inj⟩
 ·obtain⟨z,a,b⟩:=q y v e k;exact⟨z,a,RV.monoK K b⟩
 ·obtain⟨c,z,a,⟨ob,e1,e2⟩,r⟩:=V.cel y v e k;obtain⟨c',v',p1,p2,p3⟩:=V.cells _ k;rw[a]at p1;cases p1;exact⟨c,z,a,⟨ob,(pr _ (.inr ⟨_,k,a⟩) p2).2.trans e1,e2⟩,RV.monoK K r⟩
 ·obtain⟨c',v',p1,p2,⟨ob,e1,e2⟩⟩:=V.cells _ k;exact⟨c',v',p1,(pr _ (.inr ⟨_,k,p1⟩) p2).1,ob,(pr _ (.inr ⟨_,k,p1⟩) p2).2.trans e1,e2⟩
theorem hK7{α:Type}{te:XE}{N rest:Sem α}{Q':α->Shared->Prop}(h:gR6 w A E te I (λy s''=>wpAny (model PP w) A (assign te env y) (λδ sD=>wpAny (model PP w) A rest Q' E sD) E s'') s):
  wpAny (model PP w) A (pyNext (.ref I)) (λo s'=>wpAny (model PP w) A (match o with|none=>N|some v=>letOwnedTupleGo te (.ref I) v>>=λδ=>assign te env v>>=λδ=>rest) Q' E s') E s:=
 wpAny_mono h (λo s' q=>by
  cases o with
  |none=>exact q.elim
  |some y=>exact wpAny_bind (wpAny_mono q (λδ s'' q2=>wpAny_bind (wpAny_mono q2 (λδ sD q3=>q3) λδ δ z=>z)) λδ δ z=>z)) λδ δ z=>z
theorem hP4{α:Type}{ie:XE}{p:Pos}{K:Value->Sem α}{Q':α->Shared->Prop}(hf:∀x,foldedSetIterable ie env x=pure x)
  (h:wpAny (model PP w) A (eval ie env) (λx s'=>wpAny (model PP w) A (pyIter x) (λit s''=>wpAny (model PP w) A (K it) Q' E s'') E s') E s):
  wpAny (model PP w) A (eval ie env>>=λx=>standAt p>>=λδ=>foldedSetIterable ie env x>>=λx=>holding [x] (pyIter x)>>=K) Q' E s:=
 wpAny_bind (wpAny_mono h (λx s' q=>wpAny_bind (wpAny_standAt (wpAny_bind (wpAny_of_eq (hf x) (wpAny_bind (wpAny_holding (wpAny_mono q (λδ δ z=>z) λδ δ z=>z))))))) λδ δ z=>z)
theorem gJ1(V:VarR w g h env m){a:Addr}(q:gO8 env a):g.own a= .priv:=by
 rcases q with rfl|⟨n,k,q⟩
 ·obtain⟨_,_,o,_⟩:=V.loc;exact o
 ·obtain⟨c,v,e,o,_⟩:=V.cells n k;rw[q]at e;cases e;exact o
inductive GsX(n:Nat)(sc sc':NKs)(t:Tg)(it:It)(ifs:List ME)(gs:List Gn):Comprehension->List Comprehension->Prop
 |mk (te ie:XE) (ies:List XE) (cs:List Comprehension):kR5 it te=true->jH7 sc' t te=true->ckI n sc it ie=true->gP4 n sc' ifs ies=true->iP7 n sc' sc' gs cs=true->GsX n sc sc' t it ifs gs ⟨te,ie,ies,0⟩ cs
theorem hN4{n:Nat}{sc sc':NKs}{g:Gn}{gs:List Gn}{cg:Comprehension}{cr:List Comprehension}(c:iP7 n sc sc' (g::gs) (cg::cr)=true):∃n' t it ifs,n=n'+1/\g= .mk t it ifs/\GsX n' sc sc' t it ifs gs cg cr:=by
 cases n with
 |zero=>exact ff c
 |succ n=>
  obtain⟨t,it,ifs⟩:=g;obtain⟨te,ie,ies,a⟩:=cg;refine⟨n,t,it,ifs,rfl,rfl,an6 c λc1 c2 c3 c4 c5 c6=> ?_⟩;cases oX c1;exact⟨te,ie,ies,cr,c2,c3,c4,c5,c6⟩
theorem hZ0{n:Nat}{sc sc':NKs}{cr:List Comprehension}(c:iP7 n sc sc' [] cr=true):cr=[]:=by
 cases n with
 |zero=>exact ff c
 |succ n=>exact List.isEmpty_iff.mp c
theorem hA2{n:Nat}{sc sc':NKs}{g:Gn}{gs:List Gn}{cr:List Comprehension}(c:iP7 n sc sc' (g::gs) cr=true):∃x xs,cr=x::xs:=by
 cases n with
 |zero=>exact ff c
 |succ n=>
  cases cr with
  |nil=>exact ff c
  |cons x xs=>exact⟨x,xs,rfl⟩
theorem CompSt.mono{gs:List Gn}{l:List V}(C:CompSt w g h env I D Ps gs m l)(x:Ext noX g h g' h'):CompSt w g' h' env I D Ps gs m l:=⟨C.it.mono x λδ δ q=>q,(x.priv _ C.dp).1,C.nD,C.nM,C.tg,C.nd⟩
theorem CompSt.turn{gs:List Gn}{l:List V}(C:CompSt w g h env I D Ps gs m l)(x:Ext (· =D) g h g h'):CompSt w g h' env I D Ps gs m l:=⟨C.it.mono x λa q e=>C.nD (e▸q),C.dp,C.nD,C.nM,C.tg,C.nd⟩
theorem LS.turn{gs:List Gn}{P P':Gh->Heap->Prop}(L:LS w sA S env D m P g s)(C:CompSt w g s.heap env I D Ps gs m l)(x:Ext (· =D) g s.heap g s'.heap)(R:Rep w sA g S s')(p:P' g s'.heap):LS w sA S env D m P' g s':=⟨R,L.fr.mono' x λa e=>C.nM a (.inl e),L.dp,p⟩
theorem hS8{P:Gh->Heap->Prop}{gs:List Gn}{Q:Option Value->Shared->Prop}{R:Result->Shared->Prop}(hh:A.handled=none)(L:LS w sA S env D m P g s)(sta:Sta D P)(C:CompSt w g s.heap env I D Ps gs m [])(post:PostC w sA env D Ps m S P g s.heap R)
  (k:∀s',R (.ok .next) s'->Q none s'):wpAny (model PP w) A (pyNext (.ref I)) Q E s:=
 hQ7 hh L.R C.it λgA s' RA l₁=>by have x0:=Lost.extL (X:=noX) l₁ C.it.own;have pD:=x0.priv D C.nD C.dp;exact k _ (post _ _ (Lost.extL l₁ C.it.own) ⟨RA,L.fr.monoL x0 λa q=>C.nM a (.inr (q.resolve_left id)),pD.1,sta ⟨x0.keep,x0.rho⟩ (pD.2 id) L.ac⟩)
theorem iJ5{gs:List Gn}{u:V}{q:V×St}{y:Value}{acc:List V}{Q:VP}(L:LS w sA S env D m (ListD w acc D) g s)(C:CompSt w g s.heap env I D Ps gs m l)(hf:frz 9 u S=some q)(hs:small acc.length=true)(r:RV w g s.heap u y)
  (k:∀g' s',Ext (· =D) g s.heap g' s'.heap->LS w sA q.2 env D m (ListD w (acc++ [q.1]) D) g' s'->CompSt w g' s'.heap env I D Ps gs m l->Q .none s'):wpAny (model PP w) A (call (.builtin "list.append") [.ref D,y]) Q E s:=by
 obtain⟨g4,xC,R4,r4⟩:=gQ6 9 L.R (v':=q.1) (S':=q.2) hf r;have L4:=L.mono gH1 xC R4;have C4:=C.mono xC;obtain⟨its,pl,sz,rs⟩:=L4.ac;have ll:=rs.length;rw[Array.length_toList]at ll;have hs:=oX hs;refine wpAny_list_append_plain pl (λh' p1 p2=> ?_) (by rw[sizeLine_eq];(exact Nat.le_trans sz (Nat.le_add_left 1000000 15777216)));refine e11 p1 λnA p1=> ?_;obtain⟨R5,xD⟩:=R4.turnPriv (h':=h') (tk₀:=s.toks) C4.dp (by rw[p1];rfl) λb nb δ=>p2.2 b nb;exact k _ _ (xC.no.trans xD) (L4.turn C4 xD R5 ⟨its.push y,⟨nA,p1⟩,by rw[Array.size_push];(exact Nat.lt_of_le_of_lt (Nat.le_of_eq ll) hs),by rw[Array.toList_push];exact(rs.mono xD).snoc (r4.mono xD)⟩) (C4.turn xD)
theorem hW5{env:Env}{D:Addr}{Ps:List Addr}:∀a,a=D->(a=env.locals\/a=D)\/a∈Ps:=λδ e=> .inl (.inr e)
theorem hA1{cs cr:List Comprehension}{cg:Comprehension}{d:Nat}(h:cs.drop d=cg::cr):cs[d]?=some cg/\cs.drop (d+1)=cr:=by
 refine⟨?_,by rw[←List.drop_drop,h];rfl⟩;have:(cs.drop d)[0]?=some cg:=by rw[h];rfl
 rwa[List.getElem?_drop]at this
theorem iP3{cs:List Comprehension}{d:Nat}(h:cs.drop d=[]):cs[d]?=none:=by
 have:(cs.drop d)[0]?=none:=by rw[h];rfl
 rwa[List.getElem?_drop]at this
theorem CompSt.inner{gA:Gh}{hE:Heap}{t:Tg}{it:It}{ifs:List ME}{r:List Gn}{I':Addr}{Ps':List Addr}{l l₂:List V}(C:CompSt w g h env I D Ps (.mk t it ifs::r) m l)(V:VarR w g h env m')(x:Ext noX g h gA hE)(x':Ext noX gA hE g' h')(it4:Itr w g' h' I' Ps' l₂)(fr:∀a∈Ps',gA.own a= .free)
  (m1n:∀x∈iD9 r,m' x=none):CompSt w g' h' env I' D Ps' r m' l₂:=by
 have nPs:∀a,gA.own a= .priv->a∉Ps':=λa o q=>by rw[fr a q]at o;cases o
 have td:=C.nd;rw[hC0]at td;refine⟨it4,(x'.priv _ (x.priv _ C.dp).1).1,nPs D (x.priv _ C.dp).1,λb hb mb=> ?_,λx hx=>⟨m1n x hx,(C.tg x (by rw[hC0];exact List.mem_append_right _ hx)).2⟩,(List.nodup_append.mp td).2.1⟩;rcases hb with rfl|hb
 ·exact C.nM _ (.inl rfl) mb
 ·exact nPs _ (gJ1 (V.mono x) mb) hb
theorem CompSt.outer{gs:List Gn}{l:List V}(C:CompSt w g h env I D Ps gs m l)(x:Ext (λa=>a=env.locals\/a=D) g h g' h')(o:g'.own D= .priv):CompSt w g' h' env I D Ps gs m l:=
 ⟨C.it.mono x λa q z=>by
  rcases z with z|z
  ·exact C.nM a (.inr q) (.inl z)
  ·exact C.nD (z▸q),o,C.nD,C.nM,C.tg,C.nd⟩
theorem lD5{α β:Type}{M:Model}{A:Around}{E:VP}{s:Shared}{m:Sem α}{f:α->Sem β}{Q:β->Shared->Prop}(h:∀f',f'=f->wpAny M A m (λa s'=>wpAny M A (f' a) Q E s') E s):wpAny M A (m>>=f) Q E s:=wpAny_bind (h f rfl)
theorem wkG{α β:Type}{M:Model}{A:Around}{E:VP}{s:Shared}{x:α}{f f':α->Sem β}{Q:β->Shared->Prop}(e:f'=f)(h:wpAny M A (f x) Q E s):wpAny M A (f' x) Q E s:=e▸h
theorem lJ0(se:gP3 w sA prog f)(sts:iS2 w sA f)(sg:jI3 w sA f)(sl:kP5 w sA f):kP5 w sA (f+1):=by
 intro n n' d em gn r elt cs cr cg scope pos sc env m l acc q S g s A I D Ps R' hcs ck cg' ev L a C en post;have a':=a.less (Nat.le_succ f);obtain⟨n',t,it,tests,rfl,rfl,te,ie,ies,cr,k1,k2,k3,k4,k5⟩:=hN4 cg';refine e02 (hA1 hcs) λhd hd1=> ?_;refine codeAny_of_tree ?_;show wpAny _ _ ((compTurn (.ListComp elt cs scope pos) d (.ref I) (.ref D) env).onRaise (λx=>do noteFrame x env;theTreesLotGoes x)) _ _ s;refine wpAny_noted ?_;unfold compTurn;dsimp only;rw[hd];show wpAny _ _ (standAt ie.pos>>=_) _ _ s;refine wpAny_bind (wpAny_standAt (wpAny_bind ?_));show wpAny _ _ (pyNext (.ref I)) _ _ s
 cases l with
 |nil=>cases ev;exact hS8 a.2.2 L gH1 C post λs' z=>wpAny_pure z
 |cons v l=>
  refine hX0 ev λmA hp ev=>hK7 (hJ2 a.2.2 L gH1 C hp k1 k2 en λgA s' xA L1 V1 C1 m1n=> ?_);have post:=post.after xA λδ q=>q;refine lD5 λkk hk=> ?_
  cases ev with
  |no S₁ ht ev=>
   refine sts k4 ht L1.R V1 a' λgB sB xB RB=>wkG hk ?_;refine jI8 (by decide) ?_
   exact wpAny_pure ⟨rfl,sl hcs ck cg' ev (L1.mono gH1 xB RB) a' (C1.mono xB) en (post.from xB)⟩
  |leaf S₁ z y e0 ht hu hf hs ev=>
   subst e0;refine sts k4 ht L1.R V1 a' λgB sB xB RB=>wkG hk ?_;rw[iP3 (hd1.trans (hZ0 k5))];refine wIf rfl ?_;refine wpAny_bind (wpAny_bind (se ck (S':=z.2) (v:=z.1) hu RB (V1.mono xB) a' λgD yv sD x3 RC rC=>wpAny_bind ?_));refine iJ5 (L1.mono gH1 (xB.trans x3) RC) (C1.mono (xB.trans x3)) hf hs rC λg5 sF xD L5 C5=>wpAny_pure (wpAny_pure ⟨rfl,?_⟩)
   exact sl hcs ck cg' ev L5 a' C5 en ((post.from (xB.trans x3)).after xD hW5)
  |nest S₁ gn' r' z z' e0 ht hi hc ev=>
   subst e0;obtain⟨cg2,cr2,rfl⟩:=hA2 k5;obtain⟨nB,t',it',ifs',rfl,rfl,te',ie',ies',cr2,j1,j2,j3,j4,j5⟩:=hN4 k5;refine sts k4 ht L1.R V1 a' λgB sB xB RB=>wkG hk ?_;rw[(hA1 hd1).1];refine wIf rfl ?_;have V2:=V1.mono xB;have C2:=C1.mono xB;refine hP4 (gH6 j3) (sg (t:=t') (ifs:=ifs') j3 (l:=z.1) (S':=z.2) hi RB V2 a' λgD hN g4 sE I' Ps' x3 xC R4 it4 fr en'=> ?_);refine wpAny_bind (wpAny_runOwn ?_);have L4:=L1.mono gH1 (xB.trans (x3.trans xC)) R4;refine hC2 (hA1 hd1).1 it4 (sl hd1 ck k5 hc ⟨R4,V2.mono (x3.trans xC),L4.dp,L4.ac⟩ a' (C2.inner V2 x3 xC it4 fr m1n) en' λg5 sF xD L5=>wpAny_pure ⟨rfl,?_⟩);have x6:=ExtL.of xC fr xD;exact sl hcs ck cg' ev ⟨L5.R,L5.fr.less (hU6 hp λx hx=>(C.tg x (by rw[hC0];exact List.mem_append_left _ hx)).1),L5.dp,L5.ac⟩ a' ((C2.mono x3).outer x6 L5.dp) en ((post.from (xB.trans x3)).after x6 λa q=> .inl q)
end
inductive OwnD(w:World)(ks vs:List V)(D:Addr)(g:Gh)(h:Heap):Prop
 |mk (sk:List Str) (ys:List Value):ks=sk.map (λs=> .str s.cps.toList)->ys.length=sk.length->(∀s∈sk,s.cps.toList.length<=1000000)->h.DictOf (strKind PP w) D (sk.zip ys)->sk.length<=1000000->RVs w g h vs ys->OwnD w ks vs D g h
theorem gM5{w:World}{ks vs:List V}{D:Addr}:Sta D (OwnD w ks vs D):=λk e ⟨sk,ys,a,b,c,d,z,r⟩=>⟨sk,ys,a,b,c,DictOf.same e d,z,RVs.monoK k r⟩
theorem hH4{k v:V}:∀ {ks vs:List V},∀u∈(gJ5 k v ks vs).1,u=k\/u∈ks
 | [],vs,u,h=> .inl (List.mem_singleton.mp h)
 |x::ks,[],u,h=> .inl (List.mem_singleton.mp h)
 |x::ks,y::vs,u,h=>by
  have h:u∈(if gB1 k x then(x::ks,v::vs)else(x::(gJ5 k v ks vs).1,y::(gJ5 k v ks vs).2)).1:=h
  split at h
  ·exact .inr h
  ·rcases mC h with q|q
   ·exact .inr (q▸ .head _)
   ·exact(hH4 u q).imp_right (.tail _)
noncomputable def kP6(w:World)(sA:Shared)(f:Nat):Prop:=∀ {n n':Nat}{km vm:ME}{gn:Gn}{ke ve:XE}{cg:Comprehension}{scope:Scope}{pos:Pos}{sc:NKs}{env:Env}{m:Lo}{l:List V}{d:List V×List V}{q:(List V×List V)×St}{S:St}{g:Gh}{s:Shared}{A:Around}
  {I D:Addr}{Ps:List Addr}{R:Result->Shared->Prop},
 ckE n env.scope.names km ke=true->ckE n env.scope.names vm ve=true->iP7 n' sc env.scope.names [gn] [cg]=true->gQ9 prog f km vm gn l m d S=some q->
 LS w sA S env D m (OwnD w d.1 d.2 D) g s->AOk A f->CompSt w g s.heap env I D Ps [gn] m l->(Ps.length=2->enG [gn])->PostC w sA env D Ps m q.2 (OwnD w q.1.1 q.1.2 D) g s.heap R->
 codeAny (model PP w) A (.compLoop (.DictComp ke ve [cg] scope pos) 0 (.ref I) (.ref D) env) R s
section
variable{w:World}{sA:Shared}{g g':Gh}{S S':St}{s s':Shared}{h h':Heap}{A:Around}{E:VP}{env:Env}{m m':Lo}{l:List V}{v:V}{f n:Nat}{e:XE}{X:Addr->Prop}{I D:Addr}{Ps:List Addr}
theorem iJ6{gs:List Gn}{k u:V}{q:V×St}{x y:Value}{d:List V×List V}{Q:UP}(L:LS w sA S env D m (OwnD w d.1 d.2 D) g s)(C:CompSt w g s.heap env I D Ps gs m l)(hf:frz 9 u S=some q)(hs:(gB4 k&&d.1.all gB4&&small d.1.length)=true)(rk:RV w g s.heap k x)(r:RV w g s.heap u y)
  (K:∀g' s',Ext (· =D) g s.heap g' s'.heap->LS w sA q.2 env D m (OwnD w (gJ5 k q.1 d.1 d.2).1 (gJ5 k q.1 d.1 d.2).2 D) g' s'->CompSt w g' s'.heap env I D Ps gs m l->Q () s'):wpAny (model PP w) A (dictSet D x y) Q E s:=by
 refine an hs λhs hs3=>an hs λhs1 hs2=> ?_;obtain⟨g4,xC,R4,r4⟩:=gQ6 9 L.R (v':=q.1) (S':=q.2) hf r;have L4:=L.mono gM5 xC R4;have C4:=C.mono xC;obtain⟨sk,ys,o1,o2,o3,o4,o5,o6⟩:=L4.ac;obtain⟨kl,rfl⟩:=gF8 hs1;obtain⟨ky,tD,rfl,rfl,kz⟩:=rk;rw[o1]at hs3 K;have hs3:=oX hs3;rw[List.length_map]at hs3;refine wpAny_dictSet_pairs (knd:=strKind PP w) (strKind_is PP w _ _) o4 (λh' p1 p2=> ?_) (by rw[List.length_zip,o2,Nat.min_self,sizeLine_eq];(exact Nat.le_trans o5 (Nat.le_add_left 1000000 15777216)));have nd:((sk.zip ys).map (·.1)).Nodup:=by obtain⟨_,_,_,_,_,_,_,_,q⟩:=o4;exact q
 obtain⟨sk',ys',q1,q2,q3,q4,q5⟩:=hH3 (enc:=λs:Str=>Mine.V.str s.cps.toList) jW4 (k:=ky) o6 o2 r4 nd;rw[q4]at p1;obtain⟨R6,x6⟩:=R4.turnPriv (h':=h') (tk₀:=s.toks+1) C4.dp (by obtain⟨o,_,_,e,_⟩:=p1;rw[e];rfl) λb nb δ=>p2.2 b nb;refine K _ _ (xC.no.trans x6) (L4.turn C4 x6 R6 ⟨sk',ys',q1,q3,λs hs=> ?_,p1,by(exact Nat.le_trans q5 hs3),q2.mono x6⟩) (C4.turn x6);have hm:Mine.V.str s.cps.toList∈(gJ5 (.str ky.cps.toList) q.1 (sk.map λs=>Mine.V.str s.cps.toList) d.2).1:=by rw[q1];exact List.mem_map_of_mem hs
 rcases hH4 _ hm with q|q
 ·injection q with q;rw[q];exact kz
 ·refine e12 (List.mem_map.mp q) λs' z1 z2=> ?_;injection z2 with z2;rw[←z2];exact o3 _ z1
theorem lJ5(se:gP3 w sA prog f)(sts:iS2 w sA f)(sd:kP6 w sA f):kP6 w sA (f+1):=by
 intro n n' km vm gn ke ve cg scope pos sc env m l d q S g s A I D Ps R' ck cv cg' ev L a C en post;have a':=a.less (Nat.le_succ f);obtain⟨n',t,it,tests,rfl,rfl,te,ie,ies,cr,k1,k2,k3,k4,k5⟩:=hN4 cg';refine codeAny_of_tree ?_;show wpAny _ _ ((compTurn (.DictComp ke ve [⟨te,ie,ies,0⟩] scope pos) 0 (.ref I) (.ref D) env).onRaise (λx=>do noteFrame x env;theTreesLotGoes x)) _ _ s;refine wpAny_noted ?_;unfold compTurn;show wpAny _ _ (standAt ie.pos>>=_) _ _ s;refine wpAny_bind (wpAny_standAt (wpAny_bind ?_));show wpAny _ _ (pyNext (.ref I)) _ _ s
 cases l with
 |nil=>cases ev;exact hS8 a.2.2 L gM5 C post λs' z=>wpAny_pure z
 |cons v l=>
  refine hX1 ev λmA hp ev=>hK7 (hJ2 a.2.2 L gM5 C hp k1 k2 en λgA s' xA L1 V1 C1 m1n=> ?_);have post:=post.after xA λδ q=>q;refine wpAny_bind ?_
  cases ev with
  |no S₁ ht ev=>
   refine sts k4 ht L1.R V1 a' λgB sB xB RB=> ?_;refine jI8 (by decide) ?_
   exact wpAny_pure ⟨rfl,sd ck cv cg' ev (L1.mono gM5 xB RB) a' (C1.mono xB) en (post.from xB)⟩
  |leaf S₁ k z y ht hk hu hf hs ev=>
   refine sts k4 ht L1.R V1 a' λgB sB xB RB=> ?_;refine wIf rfl ?_;refine wpAny_bind (wpAny_bind (se ck (S':=k.2) (v:=k.1) hk RB (V1.mono xB) a' λgD ky sD x3 RC rC=>wpAny_bind (wpAny_holding (se cv (S':=z.2) (v:=z.1) hu RC (V1.mono (xB.trans x3)) a' λg4 yv sE xC R4 r4=> ?_))));show wpAny _ _ (standAt _>>=λδ=>holding [ky,yv] (dictSet D ky yv)) _ _ sE;have x24:=(xB.trans x3).trans xC;refine wpAny_bind (wpAny_standAt (wpAny_holding (iJ6 (L1.mono gM5 x24 R4) (C1.mono x24) hf hs (rC.mono xC) r4 λg5 sF xD L5 C5=>wpAny_pure ⟨rfl,?_⟩)));exact sd ck cv cg' ev L5 a' C5 en ((post.from x24).after xD hW5)
end
section
variable{w:World}{sA:Shared}{g g':Gh}{S S':St}{s s':Shared}{h h':Heap}{A:Around}{E:VP}{env:Env}{m m':Lo}{l:List V}{v:V}{f n:Nat}{e:XE}{X:Addr->Prop}{I D:Addr}{Ps:List Addr}
set_option tactic.hygienic true in
theorem hH8{all:NKs}:∀(l:NKs) (cs:List (Str×Addr)),(∀p∈l,p∈all)->(∀p∈l,p.2= .free->∃c,env.cells.lookup p.1=some c)->(∀n c,cs.lookup n=some c->env.cells.lookup n=some c/\(n,NameKind.free)∈all)->
  ∃cl,(forIn l cs λx r=>if(x.2==NameKind.free)=true then do let y←cellOf env x.1;pure (ForInStep.yield ((x.1,y)::r))else pure (ForInStep.yield r):Sem (List (Str×Addr)))=pure cl/\
   (∀n c,cl.lookup n=some c->env.cells.lookup n=some c/\(n,NameKind.free)∈all)/\(∀n c,cs.lookup n=some c->cl.lookup n=some c)/\(∀n,(n,NameKind.free)∈l->cl.lookup n=env.cells.lookup n)
 | [],cs,_,_,q=>⟨cs,rfl,q,λδ δ z=>z,by nofun⟩
 |(n,k)::l,cs,ha,hf,q=>by
  rw[List.forIn_cons]
  by_cases hk:k=NameKind.free
  ·subst hk;refine e11 (hf _ (.head _) rfl) λc hc=> ?_;have cell:cellOf env n=pure c:=by unfold cellOf;rw[hc]
   obtain⟨cl,e1,e2,e3,e4⟩:=hH8 l ((n,c)::cs) (λp z=>ha p (.tail _ z)) (λp z=>hf p (.tail _ z)) λn' c' z=>by
    rw[gG5]at z
    split at z
    ·rename_i b;rw[beq_iff_eq]at b;subst b;cases z;exact⟨hc,ha _ (.head _)⟩
    ·exact q _ _ z
   refine⟨cl,?_,e2,λn' c' z=> ?_,λn' z=> ?_⟩
   ·rw[if_pos (by rfl),cell,pure_bind,pure_bind];exact e1
   ·refine e3 n' c' ?_;rw[gG5]
    split
    ·rename_i b;rw[beq_iff_eq]at b;subst b;rw[←(q _ _ z).1,hc]
    ·exact z
   ·rcases mC z with z|z
    ·cases z;rw[hc];exact e3 _ _ (by rw[gG5,if_pos (beq_self_eq_true _)])
    ·exact e4 _ z
  ·refine e14 (hH8 l cs (λp z=>ha p (.tail _ z)) (λp z=>hf p (.tail _ z)) q) λcl e1 e2 e3 e4=> ?_;refine⟨cl,?_,e2,e3,λn' z=> ?_⟩
   ·rw[if_neg (by simpa using hk),pure_bind];exact e1
   ·rcases mC z with z|z
    ·cases z;exact absurd rfl hk
    ·exact e4 _ z
theorem iD1{scope:Scope}(hf:∀p∈scope.names,p.2= .free->∃c,env.cells.lookup p.1=some c):∃cl,closureFor scope env=pure cl/\
  (∀n c,cl.lookup n=some c->env.cells.lookup n=some c/\(n,NameKind.free)∈scope.names)/\(∀n,(n,NameKind.free)∈scope.names->cl.lookup n=env.cells.lookup n):=by
 refine e14 (hH8 (env:=env) (all:=scope.names) scope.names [] (λδ z=>z) hf (by nofun)) λcl e1 e2 δ e4=> ?_;refine⟨cl,?_,e2,e4⟩;unfold closureFor;show((forIn scope.names [] λx r=>if(x.2==NameKind.free)=true then do let y←cellOf env x.1;pure (ForInStep.yield ((x.1,y)::r))else pure (ForInStep.yield r):Sem (List (Str×Addr)))>>=λcs=>pure cs)=_;rw[bind_pure];exact e1
theorem hL2{env:Env}(hk:env.scope.kind= .function):∀(names:NKs) (n:Str),(names.map λp=>if p.2== .free&&env.scope.names.lookup p.1==some .cell then(p.1,NameKind.cell)else p).lookup n=
  (names.lookup n).map λk=>if k== .free&&env.kindOf n==some .cell then .cell else k
 | [],n=>rfl
 |(x,k)::r,n=>by
  rw[List.map_cons];have ih:=hL2 hk r n
  by_cases hc:((k== .free&&env.scope.names.lookup x==some .cell)=true)
  ·rw[if_pos hc,gG5,gG5]
   cases hx:n==x with
   |true=>
    rw[beq_iff_eq]at hx;subst hx;show some NameKind.cell=some (if(k==NameKind.free&&List.lookup n env.scope.names==some NameKind.cell)=true then NameKind.cell else k)
    rw[if_pos hc]
   |false=>exact ih
  ·rw[if_neg hc,gG5,gG5]
   cases hx:n==x with
   |true=>
    rw[beq_iff_eq]at hx;subst hx;show some k=some (if(k==NameKind.free&&List.lookup n env.scope.names==some NameKind.cell)=true then NameKind.cell else k)
    rw[if_neg hc]
   |false=>exact ih
theorem gP7{scope:Scope}(hk:env.scope.kind= .function):(relabel scope env).names=gR9 env.scope.names scope.names:=by unfold relabel gR9;show scope.names.map _=scope.names.map _;apply List.map_congr_left;rintro ⟨n,k⟩ _;simp only[hk,beq_self_eq_true,Bool.and_true];rfl
theorem kK9(x:Nat):nm x≠(".0":Str):=by
 intro q;have low:((nmL.map Str.ofString).all λs=>s !=(".0":Str))=true:=by decide+kernel
 have q:(match nmL[x]? with|some s=>Str.ofString s|none=>⟨#[2000000+x]⟩)=(".0":Str):=q
 cases hs:nmL[x]? with
 |some s=>
  rw[hs]at q;have q:Str.ofString s=(".0":Str):=q;have:=List.all_eq_true.mp low (Str.ofString s) (List.mem_map_of_mem (List.mem_of_getElem? hs));rw[q]at this
  simp at this
 |none=>
  rw[hs]at q;have q:(⟨#[2000000+x]⟩:Str)=(".0":Str):=q;have:=congrArg (λs:Str=>s.cps[0]?) q;have e0:(Str.ofString ".0").cps[0]?=some 46:=by decide+kernel
  simp only[show((".0":Str)).cps[0]?=some 46 from e0]at this;simp at this;lia
structure ScOk(env:Env)(vars:List Nat)(scope:Scope):Prop where
 kind:scope.kind= .function
 names:∀p∈scope.names,(p.2= .local/\((∃x∈vars,nm x=p.1)\/p.1=(".0":Str))/\scope.names.lookup p.1=some .local)\/(p.2= .free/\env.kindOf p.1=some .cell)\/p.2= .globalImplicit
 vars:∀x∈vars,scope.names.lookup (nm x)=some .local
theorem iP6{vars:List Nat}{scope:Scope}(c:jW9 env.scope.names vars scope=true):ScOk env vars scope:=by
 simp only[jW9,Bool.and_eq_true,Bool.not_eq_true',beq_iff_eq,List.all_eq_true,Bool.or_eq_true,List.any_eq_true]at c;obtain⟨⟨⟨⟨c1,c2⟩,c3⟩,c4⟩,c5⟩:=c;refine⟨c1,λp hp=> ?_,c5⟩;rcases c4 p hp with(⟨⟨a,b⟩,c⟩|⟨a,b⟩)|a
 ·exact .inl ⟨a,b,c⟩
 ·exact .inr (.inl ⟨a,b⟩)
 ·exact .inr (.inr a)
set_option tactic.hygienic true in
theorem gO9{n:Str}{k:NameKind}:∀ {l:NKs},l.lookup n=some k->(n,k)∈l
 | [],h=>nomatch h
 |(y,e)::r,h=>by
  rw[gG5]at h
  split at h
  ·rename_i q;rw[beq_iff_eq]at q;cases h;subst q;exact .head _
  ·exact .tail _ (gO9 h)
set_option tactic.hygienic true in
theorem lB9{vars:List Nat}{scope:Scope}{cl:List (Str×Addr)}{C:Addr}{q:Str}{fn:Option Addr}{cd:Value}(O:ScOk env vars scope)(V:VarR w g h env m)(hn:h.Ns C λδ=>none)(oC:g.own C= .priv)(nC:¬gO8 env C)
  (c1:∀n c,cl.lookup n=some c->env.cells.lookup n=some c/\(n,NameKind.free)∈scope.names)(c2:∀n,(n,NameKind.free)∈scope.names->cl.lookup n=env.cells.lookup n)(cenv:Env)(he:cenv= {newEnv scope C env.globals cl q fn cd (some env) 0 with scope:=relabel scope env}):
  VarR w g h cenv (m.del vars)/\(∀x∈vars,cenv.kindOf (nm x)=some .local)/\(∀a,gO8 cenv a->a=C\/gO8 env a):=by
 subst he;have kd:∀n,Env.kindOf {newEnv scope C env.globals cl q fn cd (some env) 0 with scope:=relabel scope env} n=(scope.names.lookup n).map λk=>if k== .free&&env.kindOf n==some .cell then .cell else k:=λn=>by show(relabel scope env).names.lookup n=_;rw[gP7 V.fn];exact hL2 V.fn _ n
 have cell:∀n,Env.kindOf {newEnv scope C env.globals cl q fn cd (some env) 0 with scope:=relabel scope env} n=some .cell->(n,NameKind.free)∈scope.names/\env.kindOf n=some .cell:=λn e=>by
  rw[kd]at e;refine e12 (Option.map_eq_some_iff.mp e) λk e1 e2=> ?_;have mem:=gO9 e1;rcases O.names _ mem with⟨a,_⟩|⟨a,b⟩|a
  ·dsimp only at a;subst a;simp at e2
  ·dsimp only at a b;subst a;exact⟨mem,b⟩
  ·dsimp only at a;subst a;simp at e2
 refine⟨⟨O.kind,V.gl,V.bl,⟨_,hn,oC,λx v e k=> ?_⟩,λx v e k=> ?_,λn k=> ?_,λn c e=> ?_,λn n' c e e'=>V.inj n n' c (c1 n c e).1 (c1 n' c e').1⟩,λx hx=> ?_,λa ma=> ?_⟩
 ·exfalso;rw[kd]at k;refine e12 (Option.map_eq_some_iff.mp k) λk' e1 e2=> ?_;have mem:=gO9 e1;unfold Lo.del at e
  split at e
  ·cases e
  ·rename_i nx;rcases O.names _ mem with⟨a,b,_⟩|⟨a,b⟩|a
   ·rcases b with⟨x',h1,h2⟩|b
    ·rw[gP9 h2]at h1;exact nx (by simpa using h1)
    ·exact kK9 x b
   ·dsimp only at a b;subst a;simp[b]at e2
   ·dsimp only at a;subst a;simp at e2
 ·refine e02 (cell _ k) λc3 c4=> ?_;unfold Lo.del at e
  split at e
  ·cases e
  ·obtain⟨c,y,p1,p2,p3⟩:=V.cel x v e c4;exact⟨c,y,(c2 _ c3).trans p1,p2,p3⟩
 ·refine e02 (cell _ k) λc3 c4=> ?_;obtain⟨c,v,p1,p2,p3⟩:=V.cells n c4;exact⟨c,v,(c2 _ c3).trans p1,p2,p3⟩
 ·rintro rfl;refine e02 (c1 n _ e) λp1 p2=> ?_;rcases O.names _ p2 with⟨a,_⟩|⟨_,b⟩|a
  ·cases a
  ·exact nC (.inr ⟨n,b,p1⟩)
  ·cases a
 ·rw[kd,O.vars x hx];rfl
 ·rcases ma with rfl|⟨n,k,p⟩
  ·exact .inl rfl
  ·exact .inr (.inr ⟨n,(cell n k).2,(c1 n a p).1⟩)
end
noncomputable def Loose(g:Gh)(a:Addr):Prop:=g.own a≠ .keep/\g.own a≠ .priv
section
variable{w:World}{sA:Shared}{g g' gC gA gB g4:Gh}{S S' S₁ SA:St}{s s':Shared}{h h' hH hE hG hP:Heap}{A:Around}{E:VP}{env:Env}{m m':Lo}{l vs:List V}{v:V}{f n:Nat}{e:XE}{X:Addr->Prop}{I D:Addr}{Ps:List Addr}
theorem Loose.of{a:Addr}(x:Ext X g h g' h')(f:g'.own a= .free):Loose g a:=⟨λq=>(by rw[(x.keep a q).1]at f;cases f),λq=>(by rw[(x.priv a q).1]at f;cases f)⟩
theorem ExtL.fin(x:Ext noX g h gA hE)(x':Ext noX gA hE gB hG)(fr:∀a∈Ps,gA.own a= .free)(xC:Ext noX gB hG g4 hP)(fX:∀a,X a->gB.own a= .free)(y:ExtL X Ps g4 hP g' h'):Ext noX g h g' h':=by
 refine⟨λa q=> ?_,λa q=> ?_,λk a q=>y.rho k a (xC.rho k a (x'.rho k a (x.rho k a q)))⟩
 ·have k1:=x.keep a q;have k2:=x'.keep a k1.1;have k3:=xC.keep a k2.1;have k4:=y.keep a k3.1;exact⟨k4.1,k4.2.trans (k3.2.trans (k2.2.trans k1.2))⟩
 ·have k1:=x.priv a q;have n:a∉Ps:=λz=>by have:=fr a z;rw[k1.1]at this;cases this
  have k2:=x'.priv a k1.1;have k3:=xC.priv a k2.1;have k4:=y.priv a n k3.1;exact⟨k4.1,λδ=>(k4.2 λz=>by have:=fX a z;rw[k2.1]at this;cases this).trans ((k3.2 id).trans ((k2.2 id).trans (k1.2 id)))⟩
theorem Ext.lostL{a:Addr}(x:Ext X gC hH g s.heap)(f:Loose gC a)(l:∀b,b≠a->(g.put a .free).own b=g.own b/\(g.own b≠ .free->h'.get? b=s.heap.get? b)):Ext X gC hH (g.put a .free) h':=by
 refine⟨λb q=> ?_,λb q=> ?_,x.rho⟩
 ·have n:b≠a:=by rintro rfl;exact f.1 q
  have k:=x.keep b q;exact⟨(l b n).1.trans k.1,((l b n).2 (by rw[k.1];nofun)).trans k.2⟩
 ·have n:b≠a:=by rintro rfl;exact f.2 q
  have k:=x.priv b q;exact⟨(l b n).1.trans k.1,λz=>((l b n).2 (by rw[k.1];nofun)).trans (k.2 z)⟩
theorem Rep.givenL{S:St}{a:Addr}{o:O}{gC:Gh}{hH:Heap}(R:Rep w sA g S s)(ow:g.own a= .priv)(x:Ext X gC hH g s.heap)(fr:Loose gC a)(lv:(s.heap.get? a).isSome=true)
  (p:∀g',KpS g s.heap g' s.heap->g'.rho S.n=some a->g'.own a= .mut S.n->PlR w g' s.heap S.n o):
  ∃g',Ext X gC hH g' s.heap/\Rep w sA g' (S.new o) s/\RV w g' s.heap (.loc S.n) (.ref a)/\(∀b,b≠a->g'.own b=g.own b):=by
 refine e02 (R.lose (h':=s.heap) (tk₀:=s.toks) ow λb ob n e=>e) λRA l=> ?_;have xA:=x.lostL fr l;refine e02 (RA.own (a:=a) gC1 lv (.mut S.n)) λRB xB=> ?_
 have kp:KpS g s.heap ((g.put a .free).put a (.mut S.n)) s.heap:=⟨λb q=>by
  have n:b≠a:=by rintro rfl;rw[ow]at q;cases q
  exact⟨(gB7 n).trans ((gB7 n).trans q),rfl⟩,λδ δ q=>q⟩
 refine e02 (RB.place (a:=a) (o:=o) λx3=>p _ ⟨λb q=>⟨(x3.keep b (kp.keep b q).1).1,(kp.keep b q).2⟩,λk b q=>x3.rho k b q⟩ (if_pos rfl) gC1) λRC x3=> ?_;refine⟨_,(xA.trans xB.no).trans x3.no,RC,⟨a,rfl,if_pos rfl⟩,λb n=>(gB7 n).trans (gB7 n)⟩
structure CompEnd(w:World)(sA:Shared)(g:Gh)(h:Heap)(SA:St)(PD:Addr->Gh->Heap->Prop)(g':Gh)(s':Shared)(D C:Addr):Prop where
 x:Ext noX g h g' s'.heap
 lD:Loose g D
 lC:Loose g C
 ne:D≠C
 oD:g'.own D= .priv
 oC:g'.own C= .priv
 rep:Rep w sA g' SA s'
 pd:PD D g' s'.heap
 ns:∃mm,s'.heap.Ns C mm
 sys:(D==sysModules)=false
theorem lH6{ce ie:XE}{vars:List Nat}{scope:Scope}{gn:Gn}{r:List Gn}{t:Tg}{it:It}{ifs:List ME}{obj:Obj}{newAcc:Sem Value}{PD:Addr->Gh->Heap->Prop}{RR:Value->Addr->Result->Shared->Prop}{cl:List (Str×Addr)}
  (B:Bg w sA)(sg:jI3 w sA f)(R:Rep w sA g S s)(V:VarR w g s.heap env m)(a:AOk A f)(O:ScOk env vars scope)(cv:jW8 vars (iD9 (gn::r))=true)(hg:gn= .mk t it ifs)(ck:ckI n env.scope.names it ie=true)(h1:itE prog f gn m S=some (l,S₁))
  (c1:∀n c,cl.lookup n=some c->env.cells.lookup n=some c/\(n,NameKind.free)∈scope.names)(c2:∀n,(n,NameKind.free)∈scope.names->cl.lookup n=env.cells.lookup n)
  (hnew:∀ {s:Shared}{Q:VP},Q (.ref s.heap.objs.size) {s with heap:=s.heap.push obj}->wpAny (model PP w) A newAcc Q E s)(nf:obj.isFreed=false)
  (start:∀ {g:Gh}{s:Shared}{I:Addr}{Ps:List Addr}{l:List Mine.V}{acc:Value}{env:Env}{R:Result->Shared->Prop},Itr w g s.heap I Ps l->codeAny (model PP w) A (.compLoop ce 0 (.ref I) acc env) R s->codeAny (model PP w) A (.compStart ce 0 (.ref I) acc env) R s)
  (loop:∀ {g4:Gh}{sE:Shared}{cenv:Env}{D I:Addr}{Ps:List Addr}{R':Result->Shared->Prop},cenv.scope.names=gR9 env.scope.names scope.names->Rep w sA g4 S₁ sE->VarR w g4 sE.heap cenv (m.del vars)->CompSt w g4 sE.heap cenv I D Ps (gn::r) (m.del vars) l->(Ps.length=2->enG (gn::r))->sE.heap.get? D=some obj->
   PostC w sA cenv D Ps (m.del vars) SA (PD D) g4 sE.heap R'->codeAny (model PP w) A (.compLoop ce 0 (.ref I) (.ref D) cenv) R' sE)
  (post:∀g' s' D C,CompEnd w sA g s.heap SA PD g' s' D C->RR (.ref D) C (.ok .next) s'):
  wpAny (model PP w) A (eval ie env) (λx sA=>wpAny (model PP w) A (pyIter x) (λit sB=>wpAny (model PP w) A newAcc (λacc sD=>
   wpAny (model PP w) A (newFunctionEnv scope env.globals cl [] env.qual none .none (some env)) (λcenv sE=>
    codeAny (model PP w) A (.compStart ce 0 it acc {cenv with scope:=relabel scope env}) (RR acc cenv.locals) sE) E sD) E sB) E sA) E s:=by
 subst hg;simp only[jW8,Bool.and_eq_true,decide_eq_true_eq,List.all_eq_true]at cv;refine sg (t:=t) (ifs:=ifs) ck h1 R V a λgA hE gB sB I Ps xA xB RB it2 fr en=> ?_;refine hnew ?_;refine e03 (RB.priv (tk₀:=sB.toks) obj nf) λRC x3 oE=> ?_;have dD:Heap.get? (sB.heap.push obj) sB.heap.objs.size=some obj:=Heap.get?_push_size _ nf;have hD:∃D,D=sB.heap.objs.size:=⟨_,rfl⟩
 refine e11 hD λD hD=> ?_;rw[←hD]at oE RC x3 dD⊢;have fD:gB.own D= .free:=by rw[hD];exact RB.fresh _ (Nat.le_refl _)
 refine wpAny_newFunctionEnv (λx hx q=> ?_) (gC4) (λh' hn sb=> ?_) O.kind
 ·rcases O.names x hx with⟨b,_⟩|⟨b,_⟩|b<;>rw[q]at b<;>cases b
 refine e03 (RC.priv (tk₀:=sB.toks) {cls:= .type "dict",data:= .dict #[]}) λR4 xC oF=> ?_;have hC:∃C,C=(sB.heap.push obj).objs.size:=⟨_,rfl⟩
 refine e11 hC λC hC=> ?_;have sC:({sB with heap:=sB.heap.push obj}:Shared).heap.objs.size=C:=hC.symm;have fC:(gB.put D .priv).own C= .free:=by rw[hC];exact RC.fresh _ (Nat.le_refl _)
 have fC2:gB.own C= .free:=by
  cases q:gB.own C with
  |free=>rfl
  |_=>
   have:=RB.ltOf (b:=C) (by rw[q];nofun);have e:C=sB.heap.objs.size+1:=by rw[hC];exact Heap.size_push _ _
   rw[e]at this;exact absurd this (Nat.not_lt.mpr (Nat.le_succ _))
 have ne:D≠C:=by rintro rfl;rw[oE]at fC;cases fC
 simp only[sC]at hn sb R4 xC oF⊢;obtain⟨R5,xD⟩:=R4.turnPriv (h':=h') (tk₀:=sB.toks+0) oF (by obtain⟨o,_,_,e,_⟩:=hn;rw[e];rfl) λb nb δ=>sb.2 b nb;have x24:=x3.trans xC;have eD:h'.get? D=some obj:=by rw[sb.2 D ne];have:=xC.priv D oE;exact(this.2 id).trans dD
 have V2:=V.mono (xA.trans xB);have V1:=V.mono xA;have V4:=V2.mono x24;have pm:∀a,gO8 env a->gB.own a= .priv:=λa q=>gJ1 V2 q;have pm1:∀a,gO8 env a->gA.own a= .priv:=λa q=>gJ1 V1 q;have nCm:¬gO8 env C:=λq=>by have:=pm _ q;rw[fC2]at this;cases this
 have nDm:¬gO8 env D:=λq=>by have:=pm _ q;rw[fD]at this;cases this
 have V5:=V4.mono' xD λa q=>by rw[q];exact nCm
 have CV:=λcenv he=>lB9 (q:=env.qual) (fn:=none) (cd:= .none) O V5 hn (xD.priv _ oF).1 nCm c1 c2 cenv he;refine e03 (CV _ rfl) λcV cK cM=> ?_;have oD5:=(xD.priv D (xC.priv D oE).1).1;have x25:Ext (· =C) gB sB.heap _ h':=x24.no.trans xD;have it5:Itr w _ h' I Ps l:=it2.mono x25 λb hb q=>by have:=it2.own b hb;rw[q,fC2]at this;cases this
 have nPs:∀b∈Ps,b≠D/\b≠C:=λb hb=>⟨λq=>(by have:=it2.own b hb;rw[q,fD]at this;cases this),λq=>(by have:=it2.own b hb;rw[q,fC2]at this;cases this)⟩
 refine start it5 (loop (gP7 V.fn) R5 cV ⟨it5,oD5,λq=>(nPs _ q).1 rfl,λb hb mb=> ?_,λx hx=>⟨?_,cK x (by simpa using cv.1 x hx)⟩,cv.2⟩ en eD λg' s' x6 L6=> ?_)
 ·rcases cM b mb with q|q
  ·rcases hb with hb|hb
   ·exact ne (hb.symm.trans q)
   ·exact(nPs b hb).2 q
  ·rcases hb with hb|hb
   ·rw[hb]at q;exact nDm q
   ·have:=pm1 b q;rw[fr b hb]at this;cases this
 ·unfold Lo.del;rw[if_pos (cv.1 x hx)]
 ·obtain⟨mm,n6,oc,_⟩:=L6.fr.loc;refine post g' s' D C ⟨?_,Loose.of (xA.trans xB) fD,Loose.of (xA.trans xB) fC2,ne,L6.dp,oc,L6.R,L6.ac,⟨mm,n6⟩,by rw[hD];exact RB.notSys B⟩;have xg:Ext (· =C) gB sB.heap _ h':=x25;have y:ExtL (λa=>a=C\/a=D) Ps gB sB.heap g' s'.heap:=ExtL.after xg (λa q=> .inl (.inl q)) x6;exact ExtL.fin xA xB fr (.refl _ _ _) (λa q=>by rcases q with q|q<;>rw[q]<;>assumption) y
end
section
variable{w:World}{sA:Shared}{g g' gC gA gB g4:Gh}{S S' S₁ SA:St}{s s':Shared}{h h' hH hE hG hP:Heap}{A:Around}{E:VP}{env:Env}{m m':Lo}{l vs:List V}{v:V}{f n:Nat}{e:XE}{X:Addr->Prop}{I D C:Addr}{Ps:List Addr}
structure PdOk(w:World)(PD:Addr->Gh->Heap->Prop)(o:O):Prop where
 mono:∀ {D},Sta D (PD D)
 live:∀ {g h D},PD D g h->(h.get? D).isSome=true
 make:∀ {g h D k},PD D g h->(D==sysModules)=false->g.rho k=some D->g.own D= .mut k->PlR w g h k o
theorem iF6{l:List Nat}{a:Addr}(h:tgA env l a):gO8 env a:=by
 obtain⟨x,_,⟨_,q⟩|⟨k,q⟩⟩:=h
 ·exact .inl q
 ·exact .inr ⟨_,k,q⟩
theorem hX8{PD:Addr->Gh->Heap->Prop}{o:O}{Q:VP}(P:PdOk w PD o)(en:CompEnd w sA g s.heap SA PD g' s' D C)(h:Pst w sA g s.heap (.loc SA.n) (SA.new o) Q):compPost (model PP w) A E none Q (.ref D) C (.ok .next) s':=by
 obtain⟨x,lD,lC,ne,oD,oC,R,pd,⟨mm,ns⟩,sys⟩:=en;refine⟨mm,ns,λh' sb=> ?_⟩;obtain⟨RA,l⟩:=R.lose (h':=h') (tk₀:=s'.toks) oC (λb ob n e=>by rw[sb.2 b n];exact e);have xA:=x.lostL lC l
 have kp:KpS g' s'.heap (g'.put C .free) h':=⟨λb q=>by
  have n:b≠C:=by rintro rfl;rw[oC]at q;cases q
  exact⟨(gB7 n).trans q,sb.2 b n⟩,λδ δ q=>q⟩
 have pd1:PD D (g'.put C .free) h':=P.mono kp (sb.2 D ne) pd;refine e14 (RA.givenL (o:=o) ((gB7 ne).trans oD) xA lD (P.live pd1) λg'' k r ow=>P.make (P.mono k rfl pd1) sys r ow) λg'' y1 y2 y3 δ=> ?_;exact h _ _ _ y1 y2 y3
theorem hX7{PD:Addr->Gh->Heap->Prop}{o:O}{x:Nat}{p:Pos}{Q:Shared->Prop}(P:PdOk w PD o)(V:VarR w g s.heap env m)(c:gS7 env.scope.names (nm x)=true)(en:CompEnd w sA g s.heap SA PD g' s' D C)
  (h:∀g' s',Ext (tgA env [x]) g s.heap g' s'.heap->Rep w sA g' (SA.new o) s'->VarR w g' s'.heap env (m.set x (.loc SA.n))->Q s'):compPost (model PP w) A E (some (assign (.Name (nm x) p) env)) (λδ s''=>Q s'') (.ref D) C (.ok .next) s':=by
 obtain⟨xx,lD,lC,ne,oD,oC,R,pd,⟨mm,ns⟩,sys⟩:=en;refine e14 (R.givenL (o:=o) oD xx lD (P.live pd) λg'' k r ow=>P.make (P.mono k rfl pd) sys r ow) λgB y1 y2 y3 y4=> ?_;have nm':¬gO8 env C:=λq=>lC.2 (gJ1 V q);have oC2:gB.own C= .priv:=(y4 C (Ne.symm ne)).trans oC;show wpAny _ _ (assign (.Name (nm x) p) env (.ref D)) _ _ _;refine wpAny_assign_Name (gM3 y2 (V.mono y1) c y3 λs'' RC x3 V3=> ?_);refine⟨mm,Ns.same ((x3.priv C oC2).2 λq=>nm' (iF6 q)) ns,λh' sb=> ?_⟩;refine e02 (RC.lost (h':=h') (Ps:=[C]) (tk₀:=s''.toks) oC2 (.head _) sb.extBut) λR4 lo=> ?_;have xl:=Lost.extL (X:=noX) lo (λa q=>by cases q with|head=>exact oC2|tail _ q=>cases q);refine h _ _ ?_ R4 (V3.monoL xl λa q=> ?_)
 ·refine((y1.no).trans x3).lostL lC λb n=>lo.own b λq=> ?_
  cases q with
  |head=>exact n rfl
  |tail _ q=>cases q
 ·rcases q with q|q
  ·exact q.elim
  ·cases q with
   |head=>exact nm'
   |tail _ q=>cases q
theorem hV7:PdOk w (ListD w vs) (.lst vs):=⟨gH1,λ⟨its,⟨n,a⟩,_,_⟩=>by rw[a];rfl,λ⟨its,a,b,c⟩ δ r o=>⟨_,its,r,o,a,b,c⟩⟩
theorem hY4{ks:List V}:PdOk w (OwnD w ks vs) (.dct ks vs):=
 ⟨gM5,λ⟨sk,ys,a,b,c,⟨o,_,_,e,_⟩,_,_⟩=>by rw[e];rfl,
  λ⟨sk,ys,a,b,c,d,z,r⟩ n rh o=>⟨_,ys,rh,o,⟨n,.inr ⟨sk,a,b,c,d⟩⟩,by rw[a,List.length_map];exact z,r⟩⟩
theorem ScOk.closure{vars:List Nat}{scope:Scope}(O:ScOk env vars scope)(V:VarR w g h env m):∃cl,closureFor scope env=pure cl/\(∀n c,cl.lookup n=some c->env.cells.lookup n=some c/\(n,NameKind.free)∈scope.names)/\(∀n,(n,NameKind.free)∈scope.names->cl.lookup n=env.cells.lookup n):=
 iD1 λp hp hf=>by
  rcases O.names p hp with⟨b,_⟩|⟨_,b⟩|b
  ·rw[hf]at b;cases b
  ·obtain⟨c,v,q,_⟩:=V.cells _ b;exact⟨c,q⟩
  ·rw[hf]at b;cases b
theorem ScOk.locals{vars:List Nat}{scope:Scope}(O:ScOk env vars scope):∀x∈scope.names,x.2= .local->scope.names.lookup x.1=some .local:=λx hx hl=>by
 rcases O.names x hx with⟨_,_,b⟩|⟨b,_⟩|b
 ·exact b
 ·rw[hl]at b;cases b
 ·rw[hl]at b;cases b
theorem hL5{vars:List Nat}{em:ME}{gn:Gn}{r:List Gn}{elt:XE}{cs:List Comprehension}{scope:Scope}{pos:Pos}{use:Option (Value->Sem Unit)}{q:List V×St}{z:List V×St}{Q:VP}(B:Bg w sA)(sg:jI3 w sA f)(sl:kP5 w sA f)
  (c1:jW8 vars (iD9 (gn::r))=true)(c2:jW9 env.scope.names vars scope=true)(c3:ckE n (gR9 env.scope.names scope.names) em elt=true)(c4:iP7 n env.scope.names (gR9 env.scope.names scope.names) (gn::r) cs=true)
  (h1:itE prog f gn m S=some q)(h2:gD8 prog f em gn r q.1 (m.del vars) [] q.2=some z)(R:Rep w sA g S s)(V:VarR w g s.heap env m)(a:AOk A f)
  (post:∀g' s' D C,CompEnd w sA g s.heap z.2 (ListD w z.1) g' s' D C->compPost (model PP w) A E use Q (.ref D) C (.ok .next) s'):
  wpAny (model PP w) A (comprehension (.ListComp elt cs scope pos) scope env (firstIterPos cs pos) (newList []) (firstAsync cs) (firstIter cs env) use) Q E s:=by
 have O:=iP6 c2;obtain⟨cg,cr,rfl⟩:=hA2 c4;obtain⟨n',t,it,ifs,rfl,rfl,te,ie,ies,cr,k1,k2,k3,k4,k5⟩:=hN4 c4;refine e13 (O.closure V) λcl e1 e2 e3=> ?_;show wpAny _ _ (comprehension (.ListComp elt (⟨te,ie,ies,0⟩::cr) scope pos) scope env _ (newList []) false (eval ie env) use) Q E s;refine wpAny_comprehension_free (use:=use) rfl (gH6 k3) e1 O.kind O.locals ?_;refine lH6 (obj:= {cls:= .type "list",data:= .seq ([]:List Value).toArray}) (PD:=ListD w z.1) (RR:=λacc C=>compPost (model PP w) A E use Q acc C) (l:=q.1) (S₁:=q.2) B sg R V a O c1 rfl k3 h1 e2 e3 (λq=>wpAny_newObj_type q) rfl (λit h=>hC2 rfl it h) ?_ post;intro g4 sE cenv D I Ps R' hn R4 V4 C4 en dD post';exact sl (sc:=env.scope.names) (d:=0) rfl (by rw[hn];exact c3) (by rw[hn];exact c4) h2 ⟨R4,V4,C4.dp,#[],⟨0,dD⟩,Nat.zero_le _,rfl⟩ a C4 en post'
theorem hM9{vars:List Nat}{km vm:ME}{gn:Gn}{ke ve:XE}{cs:List Comprehension}{scope:Scope}{pos:Pos}{q:List V×St}{z:(List V×List V)×St}{use:Option (Value->Sem Unit)}{Q:VP}(B:Bg w sA)(sg:jI3 w sA f)(sd:kP6 w sA f)
  (c1:jW8 vars (iD9 [gn])=true)(c2:jW9 env.scope.names vars scope=true)(c3:ckE n (gR9 env.scope.names scope.names) km ke=true)(c3':ckE n (gR9 env.scope.names scope.names) vm ve=true)(c4:iP7 n env.scope.names (gR9 env.scope.names scope.names) [gn] cs=true)
  (h1:itE prog f gn m S=some q)(h2:gQ9 prog f km vm gn q.1 (m.del vars) ([],[]) q.2=some z)(R:Rep w sA g S s)(V:VarR w g s.heap env m)(a:AOk A f)
  (post:∀g' s' D C,CompEnd w sA g s.heap z.2 (OwnD w z.1.1 z.1.2) g' s' D C->compPost (model PP w) A E use Q (.ref D) C (.ok .next) s'):
  wpAny (model PP w) A (comprehension (.DictComp ke ve cs scope pos) scope env (firstIterPos cs pos) newDict (firstAsync cs) (firstIter cs env) use) Q E s:=by
 have O:=iP6 c2;obtain⟨cg,cr,rfl⟩:=hA2 c4;obtain⟨n',t,it,ifs,rfl,rfl,te,ie,ies,cr,k1,k2,k3,k4,k5⟩:=hN4 c4;cases hZ0 k5;refine e13 (O.closure V) λcl e1 e2 e3=> ?_;show wpAny _ _ (comprehension (.DictComp ke ve [⟨te,ie,ies,0⟩] scope pos) scope env _ newDict false (eval ie env) use) Q E s;refine wpAny_comprehension_free (use:=use) rfl (gH6 k3) e1 O.kind O.locals ?_;refine lH6 (obj:= {cls:= .type "dict",data:= .dict #[]}) (PD:=OwnD w z.1.1 z.1.2) (RR:=λacc C=>compPost (model PP w) A E use Q acc C) (l:=q.1) (S₁:=q.2) B sg R V a O c1 rfl k3 h1 e2 e3 (λq=>wpAny_newObj_type q) rfl (λit h=>iB1 rfl it h) ?_ post;intro g4 sE cenv D I Ps R' hn R4 V4 C4 en dD post';have dN:Heap.DictOf (strKind PP w) sE.heap D []:=by refine e32 (Heap.DictOf.new (knd:=strKind PP w) sE.heap) λo es ep q1 q2=> ?_;rw[Heap.get?_push_size _ rfl]at q1;cases q1;exact⟨_,es,ep,dD,q2⟩
 exact sd (sc:=env.scope.names) (by rw[hn];exact c3) (by rw[hn];exact c3') (by rw[hn];exact c4) h2 ⟨R4,V4,C4.dp,[],[],rfl,rfl,gC4,dN,Nat.zero_le _,rfl⟩ a C4 en post'
theorem jR7{vars:List Nat}{em:ME}{gs:List Gn}(B:Bg w sA)(sg:jI3 w sA f)(sl:kP5 w sA f):SE w sA f (.lcomp vars em gs):=by intro n e env m S S' u g s A E Q c ev R V a h;refine gB2 c λq d c=>an4 c λc1 c2 c3 c4=>jA1 (G:=λe=>wpAny (model PP w) A (eval e env) Q E s) d ?_;refine hG8 (G:=λq=>Pst w sA g s.heap q.1 q.2 Q->_) ev (λg' gs' q z e0 h1 h2 h=> ?_) h;subst e0;rw[eval_ListComp];exact hL5 B sg sl c1 c2 c3 c4 h1 h2 R V a λg' s' D C en=>hX8 hV7 en h
theorem jR8{vars:List Nat}{km vm:ME}{gn:Gn}(B:Bg w sA)(sg:jI3 w sA f)(sd:kP6 w sA f):SE w sA f (.dcomp vars km vm gn):=by intro n e env m S S' u g s A E Q c ev R V a h;refine gB2 c λq d c=>an4 c λc1 c2 c3 c=>an c λc3' c4=>jA2 (G:=λe=>wpAny (model PP w) A (eval e env) Q E s) d ?_;refine hG9 (G:=λq=>Pst w sA g s.heap q.1 q.2 Q->_) ev (λq z h1 h2 h=> ?_) h;rw[arm_eval_DictComp];exact hM9 B sg sd c1 c2 c3 c3' c4 h1 h2 R V a λg' s' D C en=>hX8 hY4 en h
end
structure IH(w:World)(sA:Shared)(f:Nat):Prop where
 e:gP3 w sA prog f
 t:jI2 w sA prog f
 es:gV7 w sA prog f
 an:jC3 w sA prog f
 or:jC2 w sA prog f
 anT:iS4 w sA prog f
 orT:iS3 w sA prog f
 p:kS3 w sA prog f
 i:kS4 w sA prog f
 ts:iS2 w sA f
 g:jI3 w sA f
 l:kP5 w sA f
 d:kP6 w sA f
 c:iT1 w sA prog f
section
variable{w:World}{sA:Shared}{g g':Gh}{S S':St}{s s':Shared}{A:Around}{E:VP}{env:Env}{m:Lo}{v:V}{f n:Nat}{e:XE}
theorem lJ4(B:Bg w sA)(cb:hA6 w sA)(cm:hA5 w sA)(H:IH w sA f):gP3 w sA prog (f+1):=by
 intro n me e env m S S' v g s A E Q c ev R V a h;have a':=a.less (Nat.le_succ f)
 cases n with
 |zero=>exact ff c
 |succ n=>
  cases me with
  |lit v=>exact lA4 c ev R V a' h
  |var x=>exact kZ8 c ev R V a' h
  |gv i=>exact lU2 B c ev R V a' h
  |bin op x y=>exact lA9 H.e c ev R V a' h
  |cmp op x y=>exact lA8 H.e c ev R V a' h
  |chain oA oB x y z=>exact jR9 H.e c ev R V a' h
  |andE l=>exact lB0 H.an c ev R V a' h
  |orE l=>exact lU1 H.or c ev R V a' h
  |notE x=>exact lA2 H.e c ev R V a' h
  |ite x y z=>exact lA5 H.e H.t c ev R V a' h
  |tupE l=>exact kZ9 H.es c ev R V a' h
  |lstE l=>exact lA3 H.es c ev R V a' h
  |dctE ks vs=>exact lA7 B H.p c ev R V a' h
  |attr x y=>exact kK7 B H.e c ev R V a' h
  |sub x y=>exact lA0 B H.e c ev R V a' h
  |slc x y z=>exact lA1 H.e c ev R V a' h
  |callF i l=>exact jS1 B H.es H.c c ev R V a' h
  |callC i l=>exact jS2 B H.es H.c c ev R V a h
  |callM x y l=>exact jS0 B H.e H.es H.c c ev R V a' h
  |callB b l=>exact jS3 B cb H.es c ev R V a' h
  |callBM x b l=>exact iZ5 cm H.e H.es c ev R V a' h
  |isi x k=>exact lA6 B H.e c ev R V a' h
  |lcomp vs x gs=>exact jR7 B H.g H.l c ev R V a' h
  |dcomp vs k x gn=>exact jR8 B H.g H.d c ev R V a' h
noncomputable def gB3(e:XE):Bool:=(iO7 e).isSome||((dIf e).isSome||((kL9 e).isSome||(dUn e).any λq=>decide (q.1= .Not)))
set_option tactic.hygienic true in
theorem iA4(c:gB3 e=false)(env:Env)(whole:Sem Value):isTrue e env whole=(do let v←whole;standAt e.pos;holding [v] (truthy v)):=by
 cases e<;>first|rfl|exact ff c.symm|skip
 rename_i op x p;cases op<;>first|rfl|exact ff c.symm
theorem lI7(H:IH w sA f)(se:gP3 w sA prog (f+1)):jI2 w sA prog (f+1):=by
 intro n me e env m S S' b g s A E Q c ev R V a h;have a':=a.less (Nat.le_succ f);have plain:gB3 e=false->wpAny (model PP w) A (isTrue e env (eval e env)) Q E s:=λq=>by refine isTrue_plain (se c ev R V a λgA y s' xA RA rA=> ?_) (iA4 q _ _);cases rA;exact wpAny_truthy_bool (h _ _ xA RA)
 cases n with
 |zero=>exact ff c
 |succ n=>
  cases me with
  |lit v=>
   refine plain ?_;have c:hS1 v e=true:=c;unfold hS1 at c
   cases d:jA3 e with
   |some q=>exact hE4 (G:=λe=>gB3 e=false) d rfl
   |none=>
    rw[d]at c
    exact gB2 c λq d c=>an c λc1 δ=>hR6 (G:=λe=>gB3 e=false) d (by rw[bE c1];rfl)
  |cmp op x y=>exact kU3 H.e c ev R V a' h
  |chain oA oB x y z=>exact jJ5 H.e c ev R V a' h
  |andE l=>exact gB2 c λq d c=>an c λc1 c2=>gT3 (G:=λe=>wpAny (model PP w) A (isTrue e env (eval e env)) Q E s) d (by rw[oX c1];exact H.anT c2 ev R V a' h)
  |orE l=>exact gB2 c λq d c=>an c λc1 c2=>gT3 (G:=λe=>wpAny (model PP w) A (isTrue e env (eval e env)) Q E s) d (by rw[oX c1];exact H.orT c2 ev R V a' h)
  |notE x=>
   refine gB2 c λq d c=>an c λc1 c2=>hR6 (G:=λe=>wpAny (model PP w) A (isTrue e env (eval e env)) Q E s) d ?_;rw[oX c1];refine iN7 (G:=λq=>∀b,q.1= .bool b->Pbt w sA g s.heap b q.2 Q->_) ev (λS₁ b' h1 b hb h=> ?_) b rfl h;cases hb
   exact isTrue_not (H.t c2 h1 R V a' λgA s' xA RA=>h _ _ xA RA)
  |ite x y z=>
   refine gB2 c λq d c=>an3 c λc1 c2 c3=>jT3 (G:=λe=>wpAny (model PP w) A (isTrue e env (eval e env)) Q E s) d ?_
   exact iN8 (G:=λδ=>_) ev (λS₁ h1 ev=>isTrue_IfExp (H.t c1 h1 R V a' λgA s' xA RA=>H.t c2 ev RA (V.mono xA) a' (Pbt.from h xA))) λS₁ h1 ev=>isTrue_IfExp (H.t c1 h1 R V a' λgA s' xA RA=>H.t c3 ev RA (V.mono xA) a' (Pbt.from h xA))
  |var x=>exact plain (jN3 (G:=λe=>gB3 e=false) c λδ δ δ=>rfl)
  |gv i=>exact plain (gB2 c λq d δ=>gL7 (G:=λe=>gB3 e=false) d rfl)
  |bin op x y=>exact plain (gB2 c λq d δ=>hY6 (G:=λe=>gB3 e=false) d rfl)
  |tupE l=>exact plain (gB2 c λq d δ=>gN7 (G:=λe=>gB3 e=false) d rfl)
  |lstE l=>exact plain (gB2 c λq d δ=>hR7 (G:=λe=>gB3 e=false) d rfl)
  |dctE ks vs=>exact plain (gB2 c λq d δ=>hR9 (G:=λe=>gB3 e=false) d rfl)
  |attr x y=>exact plain (gB2 c λq d δ=>hE6 (G:=λe=>gB3 e=false) d rfl)
  |sub x y=>exact plain (gB2 c λq d δ=>gU9 (G:=λe=>gB3 e=false) d rfl)
  |slc x y z=>exact plain (gB2 c λq d δ=>gU9 (G:=λe=>gB3 e=false) d rfl)
  |callF i l=>exact plain (gB2 c λq d δ=>gE4 (G:=λe=>gB3 e=false) d λδ δ=>rfl)
  |callC i l=>exact plain (gB2 c λq d δ=>gE4 (G:=λe=>gB3 e=false) d λδ δ=>rfl)
  |callM x y l=>exact plain (gB2 c λq d δ=>gT4 (G:=λe=>gB3 e=false) d λδ δ δ=>rfl)
  |callB b l=>exact plain (gB2 c λq d δ=>gE4 (G:=λe=>gB3 e=false) d λδ δ=>rfl)
  |callBM x b l=>exact plain (gB2 c λq d δ=>gT4 (G:=λe=>gB3 e=false) d λδ δ δ=>rfl)
  |isi x k=>exact plain (gB2 c λq d δ=>gE4 (G:=λe=>gB3 e=false) d λδ δ=>rfl)
  |lcomp vs x gs=>exact plain (gB2 c λq d δ=>jA1 (G:=λe=>gB3 e=false) d rfl)
  |dcomp vs k x gn=>exact plain (gB2 c λq d δ=>jA2 (G:=λe=>gB3 e=false) d rfl)
theorem kV2:gP3 w sA prog 0:=λδ ev=>nn ev
theorem ih0:IH w sA 0:=⟨kV2,λδ ev=>nn ev,λδ ev=>nn ev,λδ ev=>nn ev,λδ ev=>nn ev,λδ ev=>nn ev,λδ ev=>nn ev,λδ δ δ ev=>nn ev,λδ ev=>nn ev,λδ ev=>nn ev,λδ ev=>nn ev,λδ δ δ ev=>nn ev,λδ δ δ ev=>nn ev,λδ ev=>nn ev⟩
theorem jQ3(B:Bg w sA)(cb:hA6 w sA)(cm:hA5 w sA)(H:IH w sA f)(hc:iT1 w sA prog (f+1)):IH w sA (f+1):=by have se:gP3 w sA prog (f+1):=lJ4 B cb cm H;exact⟨se,lI7 H se,kV1 H.e H.es,kV3 H.e H.an,kV0 H.e H.or,kB8 H.t H.anT,kB7 H.t H.orT,lI9 H.e H.p,lJ1 B H.e H.es,kU9 H.t H.ts,lJ2 H.i,lJ0 H.e H.ts H.g H.l,lJ5 H.e H.ts H.d,hc⟩
end
noncomputable def lE0(w:World)(sA:Shared)(f:Nat):Prop:=∀ {n:Nat}{l:MS}{t:PySem.Stmt}{env:Env}{m m':Lo}{S S':St}{fl:Fl}{g:Gh}{s:Shared}{A:Around}{E:VP}{Q:Flow->Shared->Prop},
 ckS n env.scope.names l t=true->exS prog f l m S=some (fl,m',S')->Rep w sA g S s->VarR w g s.heap env m->AOk A f->
 (∀g' fw s',Ext (hI7 env) g s.heap g' s'.heap->Rep w sA g' S' s'->VarR w g' s'.heap env m'->FlR w g' s'.heap fl fw->Q fw s')->wpAny (model PP w) A (exec t env) Q E s
noncomputable def kS0(w:World)(sA:Shared)(f:Nat):Prop:=∀ {n:Nat}{c:ME}{b:List MS}{te:XE}{ts:List PySem.Stmt}{env:Env}{m m':Lo}{S S':St}{fl:Fl}{g:Gh}{s:Shared}{A:Around}{R:Result->Shared->Prop},
 ckE n env.scope.names c te=true->ckB n env.scope.names b ts=true->exW prog f c b m S=some (fl,m',S')->Rep w sA g S s->VarR w g s.heap env m->AOk A f->
 (∀g' fw s',Ext (hI7 env) g s.heap g' s'.heap->Rep w sA g' S' s'->VarR w g' s'.heap env m'->FlR w g' s'.heap fl fw->R (.ok fw) s')->codeAny (model PP w) A (.whileLoop te ts [] env) R s
noncomputable def kS5(w:World)(sA:Shared)(f:Nat):Prop:=∀ {n:Nat}{t:Tg}{b:List MS}{te:XE}{ts:List PySem.Stmt}{env:Env}{l:List V}{m m':Lo}{S S':St}{fl:Fl}{g:Gh}{s:Shared}{I:Addr}{Ps:List Addr}{A:Around}{R:Result->Shared->Prop},
 jH7 env.scope.names t te=true->ckB n env.scope.names b ts=true->exF prog f t l b m S=some (fl,m',S')->Rep w sA g S s->VarR w g s.heap env m->AOk A f->Itr w g s.heap I Ps l->(Ps.length=2->iF5 te=true)->(∀a∈Ps,¬hI7 env a)->
 (∀g' fw s',ExtL (hI7 env) Ps g s.heap g' s'.heap->Rep w sA g' S' s'->VarR w g' s'.heap env m'->FlR w g' s'.heap fl fw->R (.ok fw) s')->codeAny (model PP w) A (.forLoop te (.ref I) ts [] env) R s
noncomputable abbrev Pfl(w:World)(sA:Shared)(env:Env)(g:Gh)(h:Heap)(q:Fl×Lo×St)(Q:Flow->Shared->Prop):Prop:=∀g' fw s',Ext (hI7 env) g h g' s'.heap->Rep w sA g' q.2.2 s'->VarR w g' s'.heap env q.2.1->FlR w g' s'.heap q.1 fw->Q fw s'
section
variable{w:World}{sA:Shared}{g g':Gh}{S S':St}{s s':Shared}{A:Around}{E:VP}{env:Env}{m m':Lo}{v:V}{f n:Nat}{e:XE}
theorem iA3{test:XE}{body:List PySem.Stmt}{R:Result->Shared->Prop}
  (h:∀E,wpAny (model PP w) A (isTrue test env (eval test env)) (λb sB=>if b then wpAny (model PP w) A (execs body env) (λf sD=>match f with
      | .next| .cont=>codeAny (model PP w) A (.whileLoop test body [] env) R sD
      | .brk=>R (.ok .next) sD
      | .ret v=>R (.ok (.ret v)) sD) E sB
    else R (.ok .next) sB) E s):codeAny (model PP w) A (.whileLoop test body [] env) R s:=by
 refine codeAny_of_tree ?_;show wpAny _ A ((whileTurn test body [] env).onRaise (λx=>do noteFrame x env;theTreesLotGoes x)) _ _ s;refine wpAny_noted ?_
 delta whileTurn
 refine wpAny_bind (wpAny_mono (h _) (λb sB hG=> ?_) λδ δ h'=>h')
 cases b with
 |false=>
  rw[if_neg (by decide)]at hG⊢
  exact wpAny_bind (wpAny_execs_nil (wpAny_pure hG))
 |true=>
  rw[if_pos rfl]at hG⊢;refine wpAny_bind (wpAny_mono hG (λf sD hN=> ?_) λδ δ h'=>h')
  cases f with
  |next=>exact wpAny_pure ⟨rfl,hN⟩
  |cont=>exact wpAny_pure ⟨rfl,hN⟩
  |brk=>exact wpAny_pure hN
  |ret v=>exact wpAny_pure hN
theorem iY8{target:XE}{it:Value}{body:List PySem.Stmt}{R:Result->Shared->Prop}
  (h:∀E,wpAny (model PP w) A (pyNext it) (λr sA=>match r with
   |none=>R (.ok .next) sA
   |some v=>wpAny (model PP w) A (letOwnedTupleGo target it v) (λδ s1'=>
     wpAny (model PP w) A (assign target env v) (λδ sB=>wpAny (model PP w) A (execs body env) (λf sD=>match f with
      | .next| .cont=>codeAny (model PP w) A (.forLoop target it body [] env) R sD
      | .brk=>R (.ok .next) sD
      | .ret v=>R (.ok (.ret v)) sD) E sB) E s1') E sA) E s):codeAny (model PP w) A (.forLoop target it body [] env) R s:=by
 refine codeAny_of_tree ?_;show wpAny _ A ((forTurn target it body [] env).onRaise (λx=>do noteFrame x env;theTreesLotGoes x)) _ _ s;refine wpAny_noted ?_
 delta forTurn
 refine wpAny_bind (wpAny_standAt (wpAny_bind (wpAny_onRaise (wpAny_mono (h _) (λr sA hE=> ?_) λδ δ h'=>wpAny_standAt h'))))
 cases r with
 |none=>exact wpAny_pure ⟨rfl,codeAny_block (wpAny_execs_nil hE)⟩
 |some v=>
  refine wpAny_bind (wpAny_mono hE (λδ s1' hA'=> ?_) λδ δ h'=>h');refine wpAny_bind (wpAny_mono hA' (λδ sB hG=>wpAny_bind (wpAny_mono hG (λf sD hN=> ?_) λδ δ h'=>h')) λδ δ h'=>h')
  cases f with
  |next=>exact wpAny_pure ⟨rfl,hN⟩
  |cont=>exact wpAny_pure ⟨rfl,hN⟩
  |brk=>exact wpAny_pure hN
  |ret v=>exact wpAny_pure hN
theorem Pfl.from{gA:Gh}{h hE:Heap}{q:Fl×Lo×St}{Q:Flow->Shared->Prop}(H:Pfl w sA env g h q Q)(x:Ext (hI7 env) g h gA hE):Pfl w sA env gA hE q Q:=λg' fw s' y=>H g' fw s' (x.trans y)
theorem lC3{sc:NKs}{l:List MS}{ts:List PySem.Stmt}{G:List MS->List PySem.Stmt->Prop}(c:ckB n sc l ts=true)(z:G [] [])(k:∀n' s l t ts,ckS n' sc s t=true->ckB n' sc l ts=true->G (s::l) (t::ts)):G l ts:=by
 cases n with
 |zero=>exact ff c
 |succ n=>
  cases l with
  |nil=>rw[List.isEmpty_iff.mp (show ts.isEmpty=true from c)];exact z
  |cons s l=>
   cases ts with
   |nil=>exact ff c
   |cons t ts=>exact an c λc1 c2=>k n s l t ts c1 c2
theorem lJ7(hs:lE0 w sA f)(hb:jI4 w sA f):jI4 w sA (f+1):=by
 intro n l ts env m m' S S' fl g s A E Q c ev R V a h;have a':=a.less (Nat.le_succ f);revert ev;refine lC3 (G:=λl ts=>exB prog (f+1) l m S=some (fl,m',S')->wpAny (model PP w) A (execs ts env) Q E s) c (λev=> ?_) λn st l t ts c1 c2 ev=> ?_
 ·cases ev;exact wpAny_execs_nil (h _ _ _ (.refl _ _ _) R V .nx)
 ·refine iN2 (G:=λq=>Pfl w sA env g s.heap q Q->_) ev (λmA S₁ h1 ev h=>wpAny_execs_cons (hs c1 h1 R V a' λgA fw s' xA RA V1 fr=> ?_)) (λfl mA S₁ hn h1 h=>wpAny_execs_cons (hs c1 h1 R V a' λgA fw s' xA RA V1 fr=> ?_)) h
  ·cases fr;exact hb c2 ev RA V1 a' (Pfl.from h xA)
  ·cases fr with
   |nx=>exact absurd rfl hn
   |ct=>exact h _ _ _ xA RA V1 .ct
   |rt r=>exact h _ _ _ xA RA V1 (.rt r)
theorem lI6(st:jI2 w sA prog f)(hb:jI4 w sA f)(hw:kS0 w sA f):kS0 w sA (f+1):=by
 intro n c b te ts env m m' S S' fl g s A R' ck cb ev R V a h;have a':=a.less (Nat.le_succ f);refine iA3 λE=> ?_;refine jF7 (G:=λq=>Pfl w sA env g s.heap q (λfw s'=>R' (.ok fw) s')->_) ev (λS₁ fl mA SA h1 h2 hq ev h=> ?_) (λS₁ v mA SA h1 h2 h=> ?_) (λS₁ h1 h=> ?_) h
 ·refine st ck h1 R V a' λgA s' xA RA=> ?_;rw[if_pos rfl];refine hb cb h2 RA (V.mono xA) a' λgB fw s'' xB RB V2 fr=> ?_;have go:codeAny (model PP w) A (.whileLoop te ts [] env) R' s'':=hw ck cb ev RB V2 a' (Pfl.from h (xA.no.trans xB))
  cases fr with
  |nx=>exact go
  |ct=>exact go
  |rt r=>exact absurd rfl (hq _)
 ·refine st ck h1 R V a' λgA s' xA RA=> ?_;rw[if_pos rfl];refine hb cb h2 RA (V.mono xA) a' λgB fw s'' xB RB V2 fr=> ?_
  cases fr with
  |rt r=>exact h _ _ _ (xA.no.trans xB) RB V2 (.rt r)
 ·refine st ck h1 R V a' λgA s' xA RA=> ?_;rw[if_neg (by decide)];exact h _ _ _ xA.no RA (V.mono xA) .nx
theorem hW8{t:Tg}{te:XE}{mA:Lo}{l:List V}{I:Addr}{Ps:List Addr}{K:Shared->Prop}(hh:A.handled=none)(R:Rep w sA g S s)(V:VarR w g s.heap env m)(it:Itr w g s.heap I Ps (v::l))(ct:jH7 env.scope.names t te=true)(tt:Ps.length=2->iF5 te=true)(nM:∀a∈Ps,¬hI7 env a)(hp:t.put v m=some mA)
  (k:∀g' s',(∀ {gB hG},ExtL (hI7 env) Ps g' s'.heap gB hG->ExtL (hI7 env) Ps g s.heap gB hG)->Rep w sA g' S s'->VarR w g' s'.heap env mA->Itr w g' s'.heap I Ps l->K s'):gR6 w A E te I (λy s''=>wpAny (model PP w) A (assign te env y) (λδ sB=>K sB) E s'') s:=
 hG3 hh R it (jY4 ct) tt λgA y s' xA RA rA it1=>hN8 hh ct hp RA (V.mono' xA nM) rA λsB RB xB V2=>by have x2m:Ext (hI7 env) gA s'.heap gA sB.heap:=xB.weak λb q=>gH5 q;exact k _ _ (λy=>ExtL.after xA (λb q=> .inr q) (ExtL.after x2m (λb q=> .inl q) y)) RB V2 (it1.mono x2m nM)
theorem lJ3(hb:jI4 w sA f)(hf:kS5 w sA f):kS5 w sA (f+1):=by
 intro n t b te ts env l m m' S S' fl g s I Ps A R' ct cb ev R V a it tt nM h;have a':=a.less (Nat.le_succ f);refine iY8 λE=> ?_
 cases l with
 |nil=>
  cases ev;refine hQ7 a.2.2 R it λgA s' RA l₁=> ?_
  exact h _ _ _ (Lost.extL l₁ it.own) RA (V.monoL (Lost.extL (X:=noX) l₁ it.own) λb q=>nM b (q.resolve_left id)) .nx
 |cons v l=>
  have fin:∀ {K:Shared->Prop},gR6 w A E te I (λy s''=>wpAny (model PP w) A (assign te env y) (λδ sB=>K sB) E s'') s->wpAny (model PP w) A (pyNext (.ref I)) (λr sA=>match r with
   |none=>R' (.ok .next) sA
   |some v=>wpAny (model PP w) A (letOwnedTupleGo te (.ref I) v) (λδ s1'=>wpAny (model PP w) A (assign te env v) (λδ sB=>K sB) E s1') E sA) E s:=λq=>wpAny_mono q (λr s' q=>by
    cases r with
    |none=>exact q.elim
    |some y=>exact q) λδ δ q=>q
  refine jG0 (G:=λq=>(∀g' fw s',ExtL (hI7 env) Ps g s.heap g' s'.heap->Rep w sA g' q.2.2 s'->VarR w g' s'.heap env q.2.1->FlR w g' s'.heap q.1 fw->R' (.ok fw) s')->_) ev (λmA fl mB SA hp h2 hq ev h=>fin (hW8 a.2.2 R V it ct tt nM hp λgA s' xA RA V1 it1=> ?_)) (λmA v' mB SA hp h2 h=>fin (hW8 a.2.2 R V it ct tt nM hp λgA s' xA RA V1 it1=> ?_)) h
  ·refine hb cb h2 RA V1 a' λgD fw sD x3 RC V3 fr=> ?_;have go:codeAny (model PP w) A (.forLoop te (.ref I) ts [] env) R' sD:=hf ct cb ev RC V3 a' (it1.mono x3 nM) tt nM λg4 fw sE xC R4 V4 fr=>h _ _ _ (xA (ExtL.after x3 (λb q=> .inl q) xC)) R4 V4 fr
   cases fr with
   |nx=>exact go
   |ct=>exact go
   |rt r=>exact absurd rfl (hq _)
  ·refine hb cb h2 RA V1 a' λgD fw sD x3 RC V3 fr=> ?_
   cases fr with
   |rt r=>
    have x0:ExtL (hI7 env) Ps gD sD.heap gD sD.heap:=⟨λδ q=>⟨q,rfl⟩,λδ δ q=>⟨q,λδ=>rfl⟩,λδ δ q=>q⟩
    exact h _ _ _ (xA (ExtL.after x3 (λb q=> .inl q) x0)) RC V3 (.rt r)
end
noncomputable abbrev SS(w:World)(sA:Shared)(f:Nat)(l:MS):Prop:=∀ {n:Nat}{t:PySem.Stmt}{env:Env}{m m':Lo}{S S':St}{fl:Fl}{g:Gh}{s:Shared}{A:Around}{E:VP}{Q:Flow->Shared->Prop},
 ckS (n+1) env.scope.names l t=true->exS prog (f+1) l m S=some (fl,m',S')->Rep w sA g S s->VarR w g s.heap env m->AOk A f->
 (∀g' fw s',Ext (hI7 env) g s.heap g' s'.heap->Rep w sA g' S' s'->VarR w g' s'.heap env m'->FlR w g' s'.heap fl fw->Q fw s')->wpAny (model PP w) A (exec t env) Q E s
section
variable{w:World}{sA:Shared}{g g':Gh}{S S':St}{s s':Shared}{A:Around}{E:VP}{env:Env}{m m':Lo}{v:V}{f n:Nat}{e:XE}
theorem iW2(V:VarR w g s.heap env m):interactive env=false:=by unfold interactive;rw[V.fn];rfl
theorem kU6{v:XE}{line:Nat}(h:iL4 v=true):swapsWith v none line env=pure false:=sm h λq d=>hH6 (G:=λv=>swapsWith v none line env=pure false) d rfl
theorem lK0{e:ME}(se:gP3 w sA prog f):SS w sA f (.ex e):=by intro n t env m m' S S' fl g s A E Q c ev R V a h;refine gB2 c λq d c=>an c λc1 c2=>jT4 (G:=λt=>wpAny (model PP w) A (exec t env) Q E s) d ?_;refine kJ4 (G:=λq=>Pfl w sA env g s.heap q Q->_) ev (λx h1 h=> ?_) h;rw[exec_Expr env q.1 q.2 (iW2 V) (kU6 c2)];exact wpAny_bind (wpAny_standAt (wpAny_bind (se c1 h1 R V a λgA y s' xA RA rA=>wpAny_dropValue (h _ _ _ xA.no RA (V.mono xA) .nx))))
theorem kV5{e:ME}(se:gP3 w sA prog f):SS w sA f (.ret e):=by
 intro n t env m m' S S' fl g s A E Q c ev R V a h;refine gB2 c λq d c=>kL6 (G:=λt=>wpAny (model PP w) A (exec t env) Q E s) d ?_;refine jF8 (G:=λq=>Pfl w sA env g s.heap q Q->_) ev (λx h1 h=> ?_) h;obtain⟨o,p⟩:=q
 cases o with
 |some v=>
  rw[exec_Return_some]
  exact wpAny_bind (wpAny_standAt (wpAny_bind (se (show ckE n env.scope.names e v=true from c) h1 R V a λgA y s' xA RA rA=>wpAny_pure (h _ _ _ xA.no RA (V.mono xA) (.rt rA)))))
 |none=>
  revert h1;refine hL3 (G:=λme=>evE prog f me m S=some x->_) c λh1=> ?_
  cases f with
  |zero=>exact nn h1
  |succ f=>
   refine hW9 (G:=λx=>Pfl w sA env g s.heap (.rt x.1,m,x.2) Q->_) h1 (λδ h=> ?_) h;rw[exec_Return_none];exact wpAny_bind (wpAny_standAt (wpAny_pure (h _ _ _ (.refl _ _ _) R V (.rt rfl))))
theorem kC4:SS w sA f .cont:=by intro n t env m m' S S' fl g s A E Q c ev R V a h;refine iY0 (G:=λt=>wpAny (model PP w) A (exec t env) Q E s) c λp=> ?_;cases ev;exact wpAny_Continue (h _ _ _ (.refl _ _ _) R V .ct)
theorem kC3:SS w sA f .pass:=by intro n t env m m' S S' fl g s A E Q c ev R V a h;refine iX9 (G:=λt=>wpAny (model PP w) A (exec t env) Q E s) c λp=> ?_;cases ev;exact wpAny_Pass (h _ _ _ (.refl _ _ _) R V .nx)
theorem kV6{c:ME}{x y:List MS}(st:jI2 w sA prog f)(hb:jI4 w sA f):SS w sA f (.ite c x y):=by intro n t env m m' S S' fl g s A E Q ck ev R V a h;refine gB2 ck λq d c=>an3 c λc1 c2 c3=>kL7 (G:=λt=>wpAny (model PP w) A (exec t env) Q E s) d (wpAny_If ?_);exact jF9 (G:=λδ=>_) ev (λS₁ h1 ev=>st c1 h1 R V a λgA s' xA RA=>hb c2 ev RA (V.mono xA) a (Pfl.from (q:=(fl,m',S')) h xA.no)) λS₁ h1 ev=>st c1 h1 R V a λgA s' xA RA=>hb c3 ev RA (V.mono xA) a (Pfl.from (q:=(fl,m',S')) h xA.no)
theorem kV4{c:ME}{b:List MS}(hw:kS0 w sA f):SS w sA f (.whl c b):=by intro n t env m m' S S' fl g s A E Q ck ev R V a h;refine gB2 ck λq d c=>an3 c λc1 c2 c3=>kL3 (G:=λt=>wpAny (model PP w) A (exec t env) Q E s) d ?_;rw[List.isEmpty_iff.mp c3];exact wpAny_While (hw c1 c2 ev R V a λgA fw s' xA RA V1 fr=>h _ _ _ xA RA V1 fr)
theorem lJ9{t:Tg}{it:It}{b:List MS}(si:kS4 w sA prog f)(hf:kS5 w sA f):SS w sA f (.fr t it b):=by
 intro n t' env m m' S S' fl g s A E Q c ev R V a h;refine gB2 c λq d c=>an5 c λc1 c2 c3 c4 c5=>kL8 (G:=λt=>wpAny (model PP w) A (exec t env) Q E s) d ?_;rw[List.isEmpty_iff.mp c5];refine kJ3 (G:=λδ=>_) ev λz h1 ev=> ?_;refine wpAny_For (si c3 (l:=z.1) (S':=z.2) h1 R V a λgA hE gB sB I Ps xA xB RB it2 fr en=> ?_) (gH6 c3);refine hf c2 c4 ev RB (V.mono (xA.trans xB)) a it2 (λq=> ?_) (λb hb q=> ?_) λgD fw sD x3 RC V3 fr'=> ?_
 ·obtain⟨e,rfl⟩:=en q;exact c1
 ·have:=gJ1 (V.mono xA) q;rw[fr b hb]at this;cases this
 ·exact h _ _ _ (xA.no.trans (ExtL.of xB fr x3)) RC V3 fr'
theorem lJ8{b:List MS}(hb:jI4 w sA f):SS w sA f (.tr b):=by
 intro n t env m m' S S' fl g s A E Q c ev R V a h;refine gB2 c λq d c=>an3 c λc1 c2 c3=>kL4 (G:=λt=>wpAny (model PP w) A (exec t env) Q E s) d ?_;rw[List.isEmpty_iff.mp c2,List.isEmpty_iff.mp c3];show wpAny _ _ (standAt _>>=λδ=>tryStmt false (execs q.1 env) q.2.1 (execs [] env) [] env) _ _ s;refine wpAny_bind (wpAny_standAt ?_)
 delta tryStmt
 refine wIf (by rfl) ?_;refine wpAny_bind (wpAny_attempt ?_);refine hb c1 ev R V a λgA fw s' xA RA V1 fr=> ?_;have fin:=h _ _ _ xA RA V1 fr
 cases fr with
 |nx=>exact wpAny_execs_nil fin
 |ct=>exact wpAny_pure fin
 |rt r=>exact wpAny_pure fin
theorem iB5{es:List XE}{k:Nat}{q:Pos}{v:XE}{line:Nat}(h:gA9 v=true):swapsWithSole [.Tuple es k q] v line env=pure false:=by cases v<;>first|exact ff h|rfl
theorem hK1{es:List XE}{k:Nat}{q:Pos}{v:XE}(h:jD7 v=true):swappedStores [.Tuple es k q] v env=pure none:=by cases v<;>first|exact ff h|rfl
theorem kC5{xs:List Nat}{e:ME}(se:gP3 w sA prog f):SS w sA f (.asgT xs e):=by intro n t env m m' S S' fl g s A E Q c ev R V a h;refine gB2 c λq d c=>gB2 c λz d1 c=>gB2 c λy d2 c=>an5 c λc1 c2 c3 c4 c5=>hN1 (G:=λt=>wpAny (model PP w) A (exec t env) Q E s) d ?_;rw[gK7 d1];refine gN7 (G:=λz=>wpAny (model PP w) A (exec (.Assign [z] q.2.1 q.2.2) env) Q E s) d2 ?_;refine iN3 (G:=λq=>Pfl w sA env g s.heap q Q->_) ev (λl S₁ h1 hl h=> ?_) h;exact Assign_Tuple (se c3 h1 R V a λgA y' s' xA RA rA=>iE7 a.2.2 c1 hl RA (V.mono xA) rA λsB RB xB V2=>h _ _ _ (xA.no.trans (xB.weak λb q=>gH5 q)) RB V2 .nx) (iB5 c4) (hK1 c5)
theorem iU2{x:Nat}{v:XE}{np:Pos}{line:Nat}(h:gA9 v=true):swapsWith v (some (.Name (nm x) np)) line env=pure false:=by cases v<;>first|exact ff h|rfl
theorem jT9{sc:NKs}{e:ME}{v:XE}(c:ckE (n+1) sc e v=true):gA9 v=true\/(∃vars em gs,e= .lcomp vars em gs)\/(∃vars k x gn,e= .dcomp vars k x gn):=by
 cases e with
 |lcomp vars em gs=>exact .inr (.inl ⟨_,_,_,rfl⟩)
 |dcomp vars k x gn=>exact .inr (.inr ⟨_,_,_,_,rfl⟩)
 |lit u=>
  refine .inl ?_;have c:hS1 u v=true:=c;unfold hS1 at c
  cases d:jA3 v with
  |some q=>exact hE4 (G:=λe=>gA9 e=true) d rfl
  |none=>
   rw[d]at c
   exact gB2 c λq d c=>hR6 (G:=λe=>gA9 e=true) d rfl
 |var x=>exact .inl (jN3 (G:=λe=>gA9 e=true) c λδ δ δ=>rfl)
 |gv i=>exact .inl (gB2 c λq d δ=>gL7 (G:=λe=>gA9 e=true) d rfl)
 |bin op x y=>exact .inl (gB2 c λq d δ=>hY6 (G:=λe=>gA9 e=true) d rfl)
 |cmp op x y=>exact .inl (gB2 c λq d δ=>hE5 (G:=λe=>gA9 e=true) d rfl)
 |chain oA oB x y z=>exact .inl (gB2 c λq d δ=>hE5 (G:=λe=>gA9 e=true) d rfl)
 |andE l=>exact .inl (gB2 c λq d δ=>gT3 (G:=λe=>gA9 e=true) d rfl)
 |orE l=>exact .inl (gB2 c λq d δ=>gT3 (G:=λe=>gA9 e=true) d rfl)
 |notE x=>exact .inl (gB2 c λq d δ=>hR6 (G:=λe=>gA9 e=true) d rfl)
 |ite x y z=>exact .inl (gB2 c λq d δ=>jT3 (G:=λe=>gA9 e=true) d rfl)
 |tupE l=>exact .inl (gB2 c λq d δ=>gN7 (G:=λe=>gA9 e=true) d rfl)
 |lstE l=>exact .inl (gB2 c λq d δ=>hR7 (G:=λe=>gA9 e=true) d rfl)
 |dctE ks vs=>exact .inl (gB2 c λq d δ=>hR9 (G:=λe=>gA9 e=true) d rfl)
 |attr x y=>exact .inl (gB2 c λq d δ=>hE6 (G:=λe=>gA9 e=true) d rfl)
 |sub x y=>exact .inl (gB2 c λq d δ=>gU9 (G:=λe=>gA9 e=true) d rfl)
 |slc x y z=>exact .inl (gB2 c λq d δ=>gU9 (G:=λe=>gA9 e=true) d rfl)
 |callF i l=>exact .inl (gB2 c λq d δ=>gE4 (G:=λe=>gA9 e=true) d λδ δ=>rfl)
 |callC i l=>exact .inl (gB2 c λq d δ=>gE4 (G:=λe=>gA9 e=true) d λδ δ=>rfl)
 |callM x y l=>exact .inl (gB2 c λq d δ=>gT4 (G:=λe=>gA9 e=true) d λδ δ δ=>rfl)
 |callB b l=>exact .inl (gB2 c λq d δ=>gE4 (G:=λe=>gA9 e=true) d λδ δ=>rfl)
 |callBM x b l=>exact .inl (gB2 c λq d δ=>gT4 (G:=λe=>gA9 e=true) d λδ δ δ=>rfl)
 |isi x k=>exact .inl (gB2 c λq d δ=>gE4 (G:=λe=>gA9 e=true) d λδ δ=>rfl)
theorem jB9{x:Nat}{vars:List Nat}{em:ME}{gs:List Gn}{v:XE}{np:Pos}{p:Pos}{q:V×St}{Q:Flow->Shared->Prop}(B:Bg w sA)(H:IH w sA f)(c:ckE (n+1) env.scope.names (.lcomp vars em gs) v=true)(c2:gS7 env.scope.names (nm x)=true)(hb:swapsWith v (some (.Name (nm x) np)) p.line env=pure true)(h1:evE prog (f+1) (.lcomp vars em gs) m S=some q)
  (R:Rep w sA g S s)(V:VarR w g s.heap env m)(a:AOk A f)(h:Pfl w sA env g s.heap (.nx,m.set x q.1,q.2) Q):wpAny (model PP w) A (exec (.Assign [.Name (nm x) np] v p) env) Q E s:=by
 rw[exec_Assign_Name_used _ _ _ _ hb];clear hb;refine wpAny_bind (wpAny_standAt (wpAny_bind ?_));refine gB2 c λq d c=>an c λc1 c=>an c λc2' c=>an c λc3 c4=>jA1 (G:=λv=>wpAny (model PP w) A (evalThenUse v env (assign (.Name (nm x) np) env)) (λδ s'=>wpAny (model PP w) A (pure Flow.next) Q E s') E s) d ?_;refine hG8 (G:=λq=>Pfl w sA env g s.heap (.nx,m.set x q.1,q.2) Q->_) h1 (λg' gs' q' z e0 e1 e2 h=> ?_) h;subst e0;show wpAny _ A (do let _←comprehension (.ListComp q.1 q.2.1 q.2.2.1 q.2.2.2) q.2.2.1 env (firstIterPos q.2.1 q.2.2.2) (newList []) (firstAsync q.2.1) (firstIter q.2.1 env) (some (assign (.Name (nm x) np) env))) _ _ s;refine wpAny_bind (wpAny_mono (hL5 (Q:=λδ s'=>Q .next s') B H.g H.l c1 c2' c3 c4 e1 e2 R V a λg' s' D C en=>hX7 (Q:=λs'=>Q .next s') hV7 V c2 en λgB sB xB RB V2=> ?_) (λδ s' hq=>wpAny_pure (wpAny_pure hq)) λδ δ e=>e);exact h _ _ _ (xB.weak λb q=>gH5 q) RB V2 .nx
theorem jC0{x:Nat}{vars:List Nat}{km vm:ME}{gn:Gn}{v:XE}{np:Pos}{p:Pos}{q:V×St}{Q:Flow->Shared->Prop}(B:Bg w sA)(H:IH w sA f)(c:ckE (n+1) env.scope.names (.dcomp vars km vm gn) v=true)(c2:gS7 env.scope.names (nm x)=true)(hb:swapsWith v (some (.Name (nm x) np)) p.line env=pure true)(h1:evE prog (f+1) (.dcomp vars km vm gn) m S=some q)
  (R:Rep w sA g S s)(V:VarR w g s.heap env m)(a:AOk A f)(h:Pfl w sA env g s.heap (.nx,m.set x q.1,q.2) Q):wpAny (model PP w) A (exec (.Assign [.Name (nm x) np] v p) env) Q E s:=by
 rw[exec_Assign_Name_used _ _ _ _ hb];clear hb;refine wpAny_bind (wpAny_standAt (wpAny_bind ?_));refine gB2 c λq d c=>an c λc1 c=>an c λc2' c=>an c λc3 c=>an c λc3' c4=>jA2 (G:=λv=>wpAny (model PP w) A (evalThenUse v env (assign (.Name (nm x) np) env)) (λδ s'=>wpAny (model PP w) A (pure Flow.next) Q E s') E s) d ?_;refine hG9 (G:=λq=>Pfl w sA env g s.heap (.nx,m.set x q.1,q.2) Q->_) h1 (λq' z e1 e2 h=> ?_) h;show wpAny _ A (do let _←comprehension (.DictComp q.1 q.2.1 q.2.2.1 q.2.2.2.1 q.2.2.2.2) q.2.2.2.1 env (firstIterPos q.2.2.1 q.2.2.2.2) newDict (firstAsync q.2.2.1) (firstIter q.2.2.1 env) (some (assign (.Name (nm x) np) env))) _ _ s;refine wpAny_bind (wpAny_mono (hM9 (Q:=λδ s'=>Q .next s') B H.g H.d c1 c2' c3 c3' c4 e1 e2 R V a λg' s' D C en=>hX7 (Q:=λs'=>Q .next s') hY4 V c2 en λgB sB xB RB V2=> ?_) (λδ s' hq=>wpAny_pure (wpAny_pure hq)) λδ δ e=>e);exact h _ _ _ (xB.weak λb q=>gH5 q) RB V2 .nx
theorem iF9{v:XE}{np:Pos}{line x:Nat}{sc:NKs}(c:(∃n vars em gs,ckE n sc (.lcomp vars em gs) v=true)\/(∃n vars k u gn,ckE n sc (.dcomp vars k u gn) v=true)):∃b,swapsWith v (some (.Name (nm x) np)) line env=pure b:=by
 rcases c with⟨n,vars,em,gs,c⟩|⟨n,vars,k,u,gn,c⟩
 ·cases n with
  |zero=>exact ff c
  |succ n=>exact gB2 c λq d c=>jA1 (G:=λv=>∃b,swapsWith v (some (.Name (nm x) np)) line env=pure b) d ⟨_,rfl⟩
 ·cases n with
  |zero=>exact ff c
  |succ n=>exact gB2 c λq d c=>jA2 (G:=λv=>∃b,swapsWith v (some (.Name (nm x) np)) line env=pure b) d ⟨_,rfl⟩
theorem kV7{x:Nat}{e:ME}(B:Bg w sA)(H:IH w sA f)(H1:∀f',f=f'+1->IH w sA f'):SS w sA f (.asg x e):=by
 intro n t env m m' S S' fl g s A E Q c ev R V a h;refine gB2 c λq d c=>gB2 c λz d1 c=>an c λc1 c4=>hN1 (G:=λt=>wpAny (model PP w) A (exec t env) Q E s) d ?_;rw[gK7 d1];refine jN3 (G:=λz=>wpAny (model PP w) A (exec (.Assign [z] q.2.1 q.2.2) env) Q E s) c1 λnp c2 c3=> ?_;refine jG1 (G:=λq=>Pfl w sA env g s.heap q Q->_) ev (λy h1 h=> ?_) h
 have usual:swapsWith q.2.1 (some (.Name (nm x) np)) q.2.2.line env=pure false->wpAny (model PP w) A (exec (.Assign [.Name (nm x) np] q.2.1 q.2.2) env) Q E s:=λsw=>
  wpAny_Assign_Name (H.e c4 (v:=y.1) (S':=y.2) h1 R V a λgA y s' xA RA rA=>gM3 RA (V.mono xA) c2 rA λsB RB xB V2=>h _ _ _ (xA.no.trans (xB.weak λb q=>gH5 q)) RB V2 .nx) sw
 cases n with
 |zero=>exact ff c4
 |succ n=>
  cases f with
  |zero=>exact nn h1
  |succ f=>
   have a':=a.less (Nat.le_succ f);rcases jT9 c4 with nc|⟨vars,em,gs,rfl⟩|⟨vars,k,x',gn,rfl⟩
   ·exact usual (iU2 nc)
   ·obtain⟨b,hb⟩:=iF9 (x:=x) (np:=np) (line:=q.2.2.line) (env:=env) (.inl ⟨_,_,_,_,c4⟩)
    cases b with
    |false=>exact usual hb
    |true=>exact jB9 B (H1 f rfl) c4 c2 hb h1 R V a' h
   ·obtain⟨b,hb⟩:=iF9 (x:=x) (np:=np) (line:=q.2.2.line) (env:=env) (.inr ⟨_,_,_,_,_,c4⟩)
    cases b with
    |false=>exact usual hb
    |true=>exact jC0 B (H1 f rfl) c4 c2 hb h1 R V a' h
end
theorem jJ3(P:Params):((List.range 10).all λc=>decide (prog.atts.getD c []=attsL.getD c []))=true:=by decide+kernel
section
variable{w:World}{sA:Shared}{g g':Gh}{S S':St}{s s':Shared}{h:Heap}{A:Around}{E:VP}{env:Env}{m m':Lo}{v:V}{f n:Nat}{e:XE}
theorem iH4{p:DictEntry->Bool}{ff:DictEntry->DictEntry}{x:DictEntry}(l:List DictEntry):(PySem.putIn p ff x l).length=if l.any p then l.length else l.length+1:=by
 unfold PySem.putIn
 cases hi:l.findIdx? p with
 |none=>
  have:l.any p=false:=by simpa [List.findIdx?_eq_none_iff]using hi
  simp[this]
 |some i=>
  have:l.any p=true:=by refine e12 (List.findIdx?_eq_some_iff_getElem.1 hi) λhlt hp δ=> ?_;exact List.any_eq_true.2 ⟨l[i],List.getElem_mem hlt,hp⟩
  simp[this]
theorem jN0{d:Addr}{mm:Str->Option Value}{name:Str}{y:Value}{k:Nat}{Q:UP}(hn:s.heap.Ns d mm)(hz:SzOk s.heap d k)
  (hQ:∀h',h'.Ns d (λx=>if x=name then some y else mm x)->SzOk h' d (if(mm name).isSome then k else k+1)->Heap.SameBut d s.heap h'->Q () {s with heap:=h',toks:=s.toks+1}):wpAny (model PP w) A (nsSet d name y) Q E s:=by
 intro Γ p hΓ;have ns:=Sem.wp_nsSet (model PP w) Γ (λe δ s'=>E e s') p s hn name y (λδ δ s'=>s'.heap.Ns d (λx=>if x=name then some y else mm x)/\Heap.SameBut d s.heap s'.heap) (λh' a b=>⟨a,b⟩);refine e34 hn λo es ep ho hd hk hm=> ?_;refine e33 hz λo2 es2 ep2 ho2 hd2 hz=> ?_;rw[ho]at ho2;cases ho2;rw[hd]at hd2;cases hd2;have hany:es.any (·.refKey)=false:=by rw[Array.any_eq_false'];intro e he;obtain⟨n,t,h⟩:=hk e he;simp[DictEntry.refKey,h]
 simp only[nsSet,strHash,Sem.wp_bind',Sem.wp_cmd_ask,Sem.wp_pure',Sem.wp_cmd_mkText]at ns⊢;rw[Sem.wp_loadPart_of (model PP w) Γ _ p {s with toks:=s.toks+1} (o:=o) _ ho]at ns⊢;simp only[hd,aRefKeyMayBeTheName_eq,aRefKeyMayBeTheNameByArray,hany,Bool.and_false,Bool.false_eq_true,if_false,Sem.wp_cmd_updatePart]at ns⊢;refine⟨ns.1,hQ _ ns.2.1 ?_ ns.2.2⟩;obtain⟨c,dd,dt,sl⟩:=o;dsimp only at hd;subst hd;have pe:=λhh kk=>PySem.putName_eq name hh kk y c dd es.toList ep sl;simp only[Array.toArray_toList]at pe;refine⟨_,_,_,Heap.get?_update_self _ ho (by rw[pe];rfl),by rw[pe],?_⟩;rw[List.size_toArray,iH4,Array.length_toList]
 cases q:es.toList.any (·.key.isStr name)with
 |true=>
  rw[if_pos rfl]
  split<;>lia
 |false=>
  have e0:mm name=none:=by
   rw[←hm name];unfold nsFind findBy;have:Array.find? (λe=>e.key.isStr name) es=none:=by rw[←Array.find?_toList,List.find?_eq_none];intro e he;have:=List.any_eq_false.mp q e he;exact this
   show(Array.find? (λe=>e.key.isStr name) es).map _=none;rw[this];rfl
  rw[e0];simp only[Option.isSome_none,Bool.false_eq_true,if_false]
  (exact Nat.lt_of_le_of_lt hz (Nat.le_refl k.succ))
theorem gK4(a:List Nat)(b:List Value)(s:Str)(z:Value)(k:Nat):asc (k::a) (z::b) s=if s=nm k then some z else asc a b s:=by
 unfold asc;rw[List.map_cons,List.zip_cons_cons,gG5]
 by_cases q:s=nm k
 ·rw[if_pos q,if_pos (beq_iff_eq.mpr q)]
 ·rw[if_neg q,if_neg λh=>q (beq_iff_eq.mp h)]
inductive Fput(w:World)(g:Gh)(h:Heap)(x:Nat)(y:Value)(ns:List Nat)(vals:List Value)(d:List Nat×List V):Prop
 |mk (vals':List Value):RVs w g h d.2 vals'->vals'.length=d.1.length->asc d.1 vals'=(λs=>if s=nm x then some y else asc ns vals s)->(∀z∈d.1,z=x\/z∈ns)->d.1.length=(if(asc ns vals (nm x)).isSome then ns.length else ns.length+1)->Fput w g h x y ns vals d
theorem iM7{x:Nat}{y:Value}:∀ {ns:List Nat}{vs:List V}{vals:List Value},RVs w g h vs vals->vals.length=ns.length->RV w g h v y->Fput w g h x y ns vals (hO7 x v ns vs)
 | [],vs,[],r,l,rv=>⟨[y],⟨y,[],rfl,rv,rfl⟩,rfl,funext λs=>gK4 [] [] s y x,λz hz=> .inl (List.mem_singleton.mp hz),rfl⟩
 | [],vs,_::_,r,l,rv=>nomatch l
 |n::ns,vs,[],r,l,rv=>nomatch l
 |n::ns,[],y'::vals,r,l,rv=>nomatch (show y'::vals=[]from r)
 |n::ns,u::vs,y'::vals,r,l,rv=>by
  obtain⟨y2,ys2,q,r1,r2⟩:=r;cases q;show Fput w g h x y (n::ns) (y'::vals) (if x=n then(n::ns,v::vs)else _)
  by_cases q:x=n
  ·subst q;rw[if_pos rfl];refine⟨y::vals,⟨y,vals,rfl,rv,r2⟩,l,funext λs=> ?_,λz hz=> .inr hz,?_⟩
   ·rw[gK4,gK4]
    by_cases q:s=nm x
    ·rw[if_pos q,if_pos q]
    ·rw[if_neg q,if_neg q,if_neg q]
   ·rw[gK4,if_pos rfl];rfl
  ·rw[if_neg q];obtain⟨vals',i1,i2,i3,i4,i5⟩:=iM7 (x:=x) (ns:=ns) r2 (Nat.succ.inj l) rv;refine⟨y'::vals',⟨y',vals',rfl,r1,i1⟩,congrArg (· +1) i2,funext λs=> ?_,List.forall_mem_cons.mpr ⟨.inr (.head _),λz hz=>(i4 z hz).imp_right (.tail _)⟩,?_⟩
   ·rw[gK4,gK4,i3]
    by_cases q1:s=nm n
    ·rw[if_pos q1,if_pos q1,if_neg λz=>q (gP9 (z.symm.trans q1))]
    ·rw[if_neg q1,if_neg q1]
   ·rw[gK4,if_neg λz=>q (gP9 z),List.length_cons,i5]
    split<;>rfl
theorem iB7{x:Nat}{k:Nat}{q:Nat×List Nat×List V}{a:Addr}{y:Value}{Q:UP}(B:Bg w sA)(R:Rep w sA g S s)(hk:S.h k=some (.ins q.1 q.2.1 q.2.2))(ra:g.rho k=some a)(hc:((prog.atts.getD q.1 []).contains x&&small q.2.1.length)=true)(rv:RV w g s.heap v y)
  (h:∀s',Ext noX g s.heap g s'.heap->Rep w sA g (S.upd k (.ins q.1 (hO7 x v q.2.1 q.2.2).1 (hO7 x v q.2.1 q.2.2).2)) s'->Q () s'):wpAny (model PP w) A (setAttr (.ref a) (nm x) y) Q E s:=by
 obtain⟨a',d,vals,q1,hc',oa,od,i0,N,l,rs,sz⟩:=R.pl _ _ hk;rw[ra]at q1;cases q1;refine an hc λhx hs=> ?_;rw[oX (List.all_eq_true.mp (jJ3 w.params) q.1 (List.mem_range.mpr hc'.1))]at hx;have hx:=List.contains_iff_mem.mp hx;have hs:=oX hs;refine e12 (hG5 i0 N) λob I ed=> ?_;refine an (gR0 (P:=w.params) hc'.1) λc q7=>an c λc q6=>an c λc δ=>an c λc δ=>an c λc δ=>an c λδ q2=> ?_;have qa:=hZ5 (P:=w.params) hc'.1 hx;have X:=R.K B;refine set_plain X I (bE q7) (osa_open (s:= {s with toks:=s.toks+1}) (r:=none) X I q6 (by unfold takerIn;rw[qa];rfl) λb=> ?_);refine e12 (any_some q2) λcd hcd hd'=> ?_;refine wpAny_bind (wpAny_pure (wpAny_bind (wpAny_bind (wpAny_loadPart I.at_ (wpAny_bind ((looks_clsIn (show(Mine.K w.params).In ({s with toks:=s.toks+1}:Shared).heap from X) hcd).here ?_))))));rw[hd'];refine wpAny_pure (a:=some d) (wpAny_bind (wpAny_pure (wpAny_bind ?_)));refine jN0 (s:= {s with toks:=s.toks+1}) N sz λh' n' z' sb=> ?_;obtain⟨vals',i1,i2,i3,i4,i5⟩:=iM7 (x:=x) (ns:=q.2.1) rs l rv;have z2:=z';refine e33 z' λo2 es2 ep2 e1 e2 e3=> ?_;refine wpAny_bind (wpAny_lookBehind e1 (by rw[e2];exact pastItsLine_dict (by rw[sizeLine_eq];split at e3<;>lia)) ?_)
 obtain⟨R',x'⟩:=R.turn (h':=h') (tk₀:=s.toks+1+1) (b:=d) sb (.inr od) (by rw[e1];rfl) (R.lt hk) (o:= .ins q.1 (hO7 x v q.2.1 q.2.2).1 (hO7 x v q.2.1 q.2.2).2) λx'=>by
  refine⟨a,d,vals',ra,⟨hc'.1,λz hz=> ?_⟩,oa,od,?_,?_,i2,i1.mono x',?_⟩
  ·rcases i4 z hz with rfl|hz
   ·exact hx
   ·exact hc'.2 z hz
  ·rw[sb.2 a (by rintro rfl;rw[oa]at od;cases od)];exact i0
  ·rw[i3];exact n'
  ·rw[i5];exact z2
 exact wpAny_pure (h _ x' R')
theorem kC8{o e:ME}{x:Nat}(B:Bg w sA)(se:gP3 w sA prog f):SS w sA f (.asgA o x e):=by intro n t env m m' S S' fl g s A E Q c ev R V a h;refine gB2 c λq d c=>gB2 c λz d1 c=>gB2 c λz' d2 c=>an5 c λc1 c2 c3 c4 c5=>hN1 (G:=λt=>wpAny (model PP w) A (exec t env) Q E s) d ?_;rw[gK7 d1];refine hE6 (G:=λz=>wpAny (model PP w) A (exec (.Assign [z] q.2.1 q.2.2) env) Q E s) d2 ?_;rw[bE c1];refine iN5 (G:=λq=>Pfl w sA env g s.heap q Q->_) ev (λy S₁ k q' h1 h2 hk hc h=> ?_) h;refine plainObj_wpAny_Assign_Attribute (se c4 (v:=y.1) (S':=y.2) h1 R V a λgA yB s' xA RA rA=>se c2 h2 RA (V.mono xA) a λgB yA s'' xB RB rB=> ?_) (by cases q.2.1<;>first|exact ff c5|rfl);obtain⟨al,rfl,ra⟩:=rB;refine iB7 B RB (gM8 hk) ra hc (rA.mono xB) λsD x3 RC=> ?_;have xx:=(xA.trans xB).trans x3;exact h _ _ _ xx.no RC (V.mono xx) .nx
theorem hF3{l:Addr}{items:Array Value}{k:Int}{t:Tok}{y:Value}{Q:UP}(hl:s.heap.PlainList l items)(h0:0<=k)(hfit:k<2^63)(hn:k<items.size)
  (hQ:∀h',h'.PlainList l (items.setIfInBounds k.toNat y)->Heap.SameBut l s.heap h'->Q () {s with heap:=h'}):wpAny (model PP w) A (setItem (.ref l) (.int k t) y) Q E s:=by
 refine e11 hl λne ho=> ?_;have hT:s.TypeIs (.ref l) "list":=⟨_,ho,rfl⟩
 unfold setItem;refine wpAny_holding ?_;refine wpAny_bind (wpAny_sequenceKey hT (by decide) ?_);refine wpAny_bind (wpAny_callSpecial?_slot (name:=Str.ofString "__setitem__") hT F.slot_list_setitem (wpAny_call_entry F.slot_list_setitem hT F.entry_list_setitem ?_ (by first|exact PySem.args_list_setitem _ _ _|exact F.args_list_setitem_3 _ _ _)));show wpAny _ _ (Builtin.List.listSubscript? (.int k t)>>=_) _ _ s;refine wpAny_bind (wpAny_listSubscript_int (fitsIndex_of h0 hfit) ?_);obtain⟨j,rfl⟩:=Int.eq_ofNat_of_zero_le h0;have hj:j<items.size:=by lia
 have hx':items[j]?=some items[j]:=Array.getElem?_eq_getElem hj;show wpAny _ _ ((seqItemAt l j>>=λr=>pure (r.map (j,·)))>>=_) _ _ s;refine wpAny_bind (wpAny_bind (wpAny_seqItemAt ho rfl (wpAny_pure ?_)));rw[hx'];show wpAny _ _ (setSeqItemAt l j y>>=_) _ _ s;have hm:∃n',Obj.mapSeq (·.setIfInBounds j y) {cls:= .type "list",data:= .seq items ne}=({cls:= .type "list",data:= .seq (items.setIfInBounds j y) n'}:Obj):=by first|exact⟨_,rfl⟩|(unfold Obj.mapSeq;dsimp only;split<;>exact⟨_,rfl⟩)
 refine e11 hm λn' hm=> ?_;have hfin:(s.heap.update l (Obj.mapSeq (·.setIfInBounds j y))).PlainList l (items.setIfInBounds j y):=⟨n',by rw[Heap.get?_update_self _ ho (by rw[hm];rfl),hm]⟩
 refine wpAny_bind (wpAny_setSeqItemAt ho rfl ?_)
 first
  |exact wpAny_bind (wpAny_pure (wpAny_pure ⟨.none,rfl,wpAny_pure (hQ _ hfin (Heap.SameBut.update ..))⟩))
  |exact wpAny_pure ⟨.none,rfl,wpAny_pure (hQ _ hfin (Heap.SameBut.update ..))⟩
theorem iH5{T:Type}[DecidableEq T]{knd:KeyKind PP w T}{kt:T}{enc:T->V}{a:Addr}{k:Nat}{ks vs:List V}{l:List T}{vals:List Value}{kv y:Value}{Q:UP}(he:∀a b,gB1 (enc a) (enc b)=decide (a=b))(is:knd.is kt kv=true)(R:Rep w sA g S s)(hk:S.h k=some (.dct ks vs))
  (ra:g.rho k=some a)(oa:g.own a= .mut k)(e1:ks=l.map enc)(e2:vals.length=l.length)(sm:small ks.length=true)(rs:RVs w g s.heap vs vals)(d1:s.heap.DictOf knd a (l.zip vals))(rv:RV w g s.heap v y)
  (mk:∀ {h':Heap}{l':List T}{vals':List Value},(gJ5 (enc kt) v ks vs).1=l'.map enc->vals'.length=l'.length->h'.DictOf knd a (l'.zip vals')->DK w h' a (l'.map enc) vals')
  (h:∀s',Ext noX g s.heap g s'.heap->Rep w sA g (S.upd k (.dct (gJ5 (enc kt) v ks vs).1 (gJ5 (enc kt) v ks vs).2)) s'->Q () s'):wpAny (model PP w) A (setItem (.ref a) kv y) Q E s:=by
 have sm:=oX sm;subst e1;rw[List.length_map]at sm;have nd:((l.zip vals).map (·.1)).Nodup:=by obtain⟨_,_,_,_,_,_,_,_,q⟩:=d1;exact q
 refine wpAny_setItem_pairs (knd:=knd) is d1 (λh' p1 p2=> ?_) (by rw[List.length_zip,e2,Nat.min_self,sizeLine_eq];(exact hD4 (Nat.le_of_lt sm) rfl));obtain⟨l',vals',i1,i2,i3,i4,i5⟩:=hH3 he (k:=kt) rs e2 rv nd;rw[i4]at p1
 obtain⟨R5,xD⟩:=R.turn (h':=h') (tk₀:=s.toks+1) p2 (.inl oa) (by obtain⟨_,_,_,q,_⟩:=p1;rw[q];rfl) (R.lt hk) (o:= .dct (gJ5 (enc kt) v (l.map enc) vs).1 (gJ5 (enc kt) v (l.map enc) vs).2) λxD=>
  ⟨a,vals',ra,oa,by rw[i1];exact mk i1 i3 p1,by rw[i1,List.length_map];(exact Nat.le_trans i5 sm),i2.mono xD⟩
 exact h _ xD R5
theorem kD5{k:Nat}{j:V}{SA:St}{x kv y:Value}{Q:UP}(R:Rep w sA g S s)(e:gO7 S k j v=some SA)(ro:RV w g s.heap (.loc k) x)(rk:RV w g s.heap j kv)(rv:RV w g s.heap v y)
  (h:∀s',Ext noX g s.heap g s'.heap->Rep w sA g SA s'->Q () s'):wpAny (model PP w) A (setItem x kv y) Q E s:=by
 refine bd e λo hk e=> ?_;obtain⟨a,rfl,ra,p⟩:=gU8 R ro hk
 cases o with
 |ins _ _ _=>exact nn e
 |frz _=>exact nn e
 |lst l=>
  refine bd e λi hi e=>ifs e λhb e=> ?_;cases e;rw[gD7 hi]at rk;obtain⟨a',its,q1,oa,d,z,rs⟩:=p;rw[ra]at q1;cases q1;obtain⟨t,rfl⟩:=rk;have ll:=rs.length;rw[Array.length_toList]at ll;refine hF3 d hb.1 (Int.lt_trans (il9 hb.2 ll) (kR9 z)) (il9 hb.2 ll) λh' p1 p2=> ?_;refine e11 p1 λnA p1=> ?_
  obtain⟨R5,xD⟩:=R.turn (h':=h') (tk₀:=s.toks) p2 (.inl oa) (by rw[p1];rfl) (R.lt hk) (o:= .lst (l.set i.toNat v)) λxD=>
   ⟨a,its.setIfInBounds i.toNat y,ra,oa,⟨nA,p1⟩,by rw[Array.size_setIfInBounds];exact z,by rw[Array.toList_setIfInBounds];exact RVs.set _ (rs.mono xD) (rv.mono xD)⟩
  exact h _ xD R5
 |dct ks vs=>
  refine ifs e λc e=>an c λkk sm=> ?_;obtain⟨a',vals,q1,oa,d,z,rs⟩:=p;rw[ra]at q1;cases q1;revert e rk;refine gH2 (G:=λj=>RV w g s.heap j kv->some (S.upd k (.dct (gJ5 j v ks vs).1 (gJ5 j v ks vs).2))=some SA->_) kk (λi kk rk e=> ?_) λi kk rk e=> ?_
  ·cases e;obtain⟨n1,l,e1,e2,d1⟩:=d.int kk;obtain⟨t,rfl⟩:=rk;exact iH5 (enc:=Mine.V.int) jW5 (intKind_is PP w _ t) R hk ra oa e1 e2 sm rs d1 rv (λδ i3 p1=>⟨n1,.inl ⟨_,rfl,i3,p1⟩⟩) h
  ·cases e;obtain⟨n1,l,e1,e2,cs,d1⟩:=d.str kk;obtain⟨ky,t,rfl,rfl,kz⟩:=rk;refine iH5 (enc:=λs:Str=>Mine.V.str s.cps.toList) jW4 (strKind_is PP w _ t) R hk ra oa e1 e2 sm rs d1 rv (λi1 i3 p1=>⟨n1,.inr ⟨_,rfl,i3,λs hs=> ?_,p1⟩⟩) h;have hm:=List.mem_map_of_mem (f:=λs:Str=>Mine.V.str s.cps.toList) hs;rw[←i1,e1]at hm;rcases hH4 _ hm with q|q
   ·injection q with q;rw[q];exact kz
   ·refine e12 (List.mem_map.mp q) λs' z1 z2=> ?_;injection z2 with z2;rw[←z2];exact cs _ z1
theorem kC6{o i e:ME}(se:gP3 w sA prog f):SS w sA f (.asgS o i e):=by intro n t env m m' S S' fl g s A E Q c ev R V a h;refine gB2 c λq d c=>gB2 c λz d1 c=>gB2 c λz' d2 c=>an5 c λc1 c2 c3 c4 c5=>hN1 (G:=λt=>wpAny (model PP w) A (exec t env) Q E s) d ?_;rw[gK7 d1];refine gU9 (G:=λz=>wpAny (model PP w) A (exec (.Assign [z] q.2.1 q.2.2) env) Q E s) d2 ?_;refine hR4 (G:=λq=>Pfl w sA env g s.heap q Q->_) ev (λx S₁ kk j y SA h1 h2 h3 hf δ hp h=> ?_) h;refine wpAny_Assign_Subscript (se c4 (v:=x.1) (S':=x.2) h1 R V a λgA yB s' xA RA rA=>se c1 h2 RA (V.mono xA) a λgB yA s'' xB RB rB=>se c2 (v:=j.1) (S':=j.2) h3 RB (V.mono (xA.trans xB)) a λgD yC sD x3 RC rC=> ?_) (by cases q.2.1<;>first|exact ff c5|rfl);obtain⟨g4,xC,R4,r4⟩:=gQ6 9 RC (v':=y.1) (S':=y.2) hf (rA.mono (xB.trans x3));have x14:=((xA.trans xB).trans x3).trans xC;refine kD5 R4 hp (rB.mono (x3.trans xC)) (rC.mono xC) r4 λsF xD R5=> ?_;exact h _ _ _ (x14.trans xD).no R5 (V.mono (x14.trans xD)) .nx
end
section
variable{w:World}{sA:Shared}{g g':Gh}{S S':St}{s s':Shared}{h:Heap}{A:Around}{E:VP}{env:Env}{m m':Lo}{v:V}{f n:Nat}{e:XE}
theorem ifN{α:Type}{c:Prop}[Decidable c]{a b:Sem α}{P:α->Prop}(ha:∃r,a=pure r/\P r)(hb:¬c->∃r,b=pure r/\P r):∃r,(if c then a else b)=pure r/\P r:=by
 by_cases h:c
 ·rw[if_pos h];exact ha
 ·rw[if_neg h];exact hb h
set_option tactic.hygienic true in
theorem jJ6{x1 x2:Nat}{p1 p2 q q':Pos}{k k':Nat}{v1 v2:XE}(h1:∀y p,v1≠ .Starred y p)(h2:∀y p,v2≠ .Starred y p)(hc:([v1,v2].any λv=> !constantsAlone 8 v)=true):
  ∃r,swappedStores [.Tuple [.Name (nm x1) p1,.Name (nm x2) p2] k q] (.Tuple [v1,v2] k' q') env=pure r/\(r=none\/r=some [nm x1,nm x2]):=by
 have ca:([v1,v2].all (constantsAlone 8))=false:=by rw[List.all_eq_not_any_not];simp only[Bool.not_eq_false'];exact hc
 delta swappedStores
 dsimp only;refine ifN ⟨_,rfl,.inl rfl⟩ λ_=>ifN ⟨_,rfl,.inl rfl⟩ λ_=>ifN ⟨_,rfl,.inl rfl⟩ λnl=>ifN ⟨_,rfl,.inl rfl⟩ λ_=> ?_;rw[ca];rw[if_neg (by decide)];refine⟨_,rfl,.inr ?_⟩;have nl:=bne_eq_false_iff_eq.mp (Bool.or_eq_false_iff.mp (Bool.eq_false_iff.mpr nl)).1;have gen:∀(ff:XE->Option Str),(∀i p,ff (.Name i p)=none\/ff (.Name i p)=some i)->(List.filterMap ff [.Name (nm x1) p1,.Name (nm x2) p2]).length=2->List.filterMap ff [.Name (nm x1) p1,.Name (nm x2) p2]=[nm x1,nm x2]:=by intro ff hf hl;rcases hf (nm x1) p1 with e1|e1<;>rcases hf (nm x2) p2 with e2|e2<;>simp[List.filterMap_cons,e1,e2]at hl⊢
 refine congrArg some (gen _ (λi p=> ?_) nl);dsimp only;exact(Decidable.em _).elim (λh=> .inr (if_pos h)) λh=> .inl (if_neg h)
inductive TwoX(sc:NKs):List Nat->List XE->Prop
 |mk (x1 x2:Nat) (p1 p2:Pos):gS7 sc (nm x1)=true->gS7 sc (nm x2)=true->TwoX sc [x1,x2] [.Name (nm x1) p1,.Name (nm x2) p2]
theorem jX9{sc:NKs}{xs:List Nat}{ts:List XE}(c:iS9 sc xs ts=true)(hl:ts.length=2):TwoX sc xs ts:=by
 revert hl;refine hY8 (G:=λxs ts=>ts.length=2->TwoX sc xs ts) c (λhl=>nomatch hl) λx1 xs p1 ts a1 δ c hl=> ?_;revert hl;refine hY8 (G:=λxs ts=>(PySem.Expr.Name (nm x1) p1::ts).length=2->TwoX sc (x1::xs) (.Name (nm x1) p1::ts)) c (λhl=>nomatch hl) λx2 xs p2 ts a2 δ c hl=> ?_;cases List.length_eq_zero_iff.mp (Nat.succ.inj (Nat.succ.inj hl))
 cases xs with
 |nil=>exact⟨x1,x2,p1,p2,a1,a2⟩
 |cons _ _=>exact ff c
inductive TwoE:List XE->Prop
 |mk (v1 v2:XE):(∀y p,v1≠ .Starred y p)->(∀y p,v2≠ .Starred y p)->TwoE [v1,v2]
theorem iI7{sc:NKs}{me:ME}{e:XE}(c:ckE n sc me e=true):∀y p,e≠ .Starred y p:=λy p q=>by subst q;exact ff (not_star.symm.trans c)
theorem jY1{sc:NKs}{es:List ME}{vs:List XE}(c:gP4 n sc es vs=true)(hl:vs.length=2):TwoE vs:=by revert hl;refine gN8 (G:=λδ vs=>vs.length=2->TwoE vs) c (λhl=>nomatch hl) λn1 m1 l1 v1 vs δ k1 c hl=> ?_;revert hl;refine gN8 (G:=λδ vs=>(v1::vs).length=2->TwoE (v1::vs)) c (λhl=>nomatch hl) λn2 m2 l2 v2 vs δ k2 c hl=> ?_;cases List.length_eq_zero_iff.mp (Nat.succ.inj (Nat.succ.inj hl));exact⟨v1,v2,iI7 k1,iI7 k2⟩
theorem iG7{x1 x2:Nat}{u1 u2:V}(ne:x1≠x2):(m.set x2 u2).set x1 u1=m.sets [x1,x2] [u1,u2]:=by
 funext z
 show(if z=x1 then some u1 else if z=x2 then some u2 else m z)=(if z=x2 then some u2 else if z=x1 then some u1 else m z)
 by_cases q1:z=x1
 ·subst q1;rw[if_pos rfl,if_neg ne,if_pos rfl]
 ·rw[if_neg q1,if_neg q1]
theorem kC7{xs:List Nat}{es:List ME}(ss:gV7 w sA prog f):SS w sA f (.asgP xs es):=by
 intro n t env m m' S S' fl g s A E Q c ev R V a h;refine gB2 c λq d c=>gB2 c λz d1 c=>gB2 c λz' d2 c=>gB2 c λy d3 c=>an7 c λc1 c2 c3 c4 c5 c6 c7=> ?_;obtain⟨T,v,p⟩:=q;obtain⟨ts,k,q⟩:=z';obtain⟨vs,k',q'⟩:=y;refine hN1 (G:=λt=>wpAny (model PP w) A (exec t env) Q E s) d ?_;cases gK7 d1;refine gN7 (G:=λz=>wpAny (model PP w) A (exec (.Assign [z] v p) env) Q E s) d2 (gN7 (G:=λv=>wpAny (model PP w) A (exec (.Assign [.Tuple ts k q] v p) env) Q E s) d3 ?_);refine iN4 (G:=λq=>Pfl w sA env g s.heap q Q->_) ev (λx h1 hl h=> ?_) h;clear ev d d1 d2 d3 c2 c4;refine e03 (hR2 (env:=env) c1) λg1 g2 g3=> ?_;have c6:=oX c6;have hx:x.1.length=2:=hl.trans (g1.trans c6);have lv:vs.length=2:=(gM9 c3).symm.trans ((hH2 h1).symm.trans hx);have tw:=jX9 c1 c6;have te:=jY1 c3 lv;dsimp only at c1 c3 c5 tw te g3⊢
 cases tw with|mk x1 x2 p1 p2 l1 l2=>
 cases te with|mk v1 v2 n1 n2=>
 refine e12 (jJ6 (env:=env) (p1:=p1) (p2:=p2) (q:=q) (q':=q') (k:=k) (k':=k') (x1:=x1) (x2:=x2) n1 n2 c5) λrr sw hr=> ?_;rw[exec_Assign];refine wpAny_bind (wpAny_standAt ?_);rw[show swapsWithSole [.Tuple [.Name (nm x1) p1,.Name (nm x2) p2] k q] (.Tuple [v1,v2] k' q') p.line env=pure false from rfl];refine wpAny_bind (wpAny_pure ?_);refine jI8 (by decide) ?_;refine wpAny_bind (wpAny_Tuple (ss c3 (vs:=x.1) (S':=x.2) h1 R V a λgA ys s' xA RA rA=> ?_));have ly:=rA.length;rw[hx]at ly;refine⟨by rw[ly];decide,?_⟩;refine e02 (RA.push (tk₀:=s'.toks) {cls:= .type "tuple",data:= .seq ys.toArray}) λRB xB=> ?_;have ht:Heap.IsTuple (s'.heap.push {cls:= .type "tuple",data:= .seq ys.toArray}) s'.heap.objs.size ys.toArray:=⟨_,Heap.get?_push_size _ rfl,rfl,_,rfl⟩
 have un:∀ {h':Heap},Heap.ExtBut (s'.heap.push {cls:= .type "tuple",data:= .seq ys.toArray}).objs.size (s'.heap.push {cls:= .type "tuple",data:= .seq ys.toArray}) h'->
   Rep w sA gA x.2 {s' with heap:=h'}/\Ext noX gA s'.heap gA h':=λ{h'} eb=>by
  obtain⟨RC,x3⟩:=RB.touch (h':=h') (tk₀:=s'.toks) λb q=>by refine e11 (Option.isSome_iff_exists.mp (RB.live b q)) λob e1=> ?_;rw[e1];exact eb b ob (by rintro rfl;exact q (RB.fresh _ (Nat.le_refl _))) e1
  exact⟨RC,xB.trans x3⟩
 rw[sw];clear sw;have h:=Pfl.from h xA.no;refine wpAny_bind (wpAny_pure ?_);rcases hr with rfl|rfl
 ·show wpAny _ _ (assign (.Tuple [.Name (nm x1) p1,.Name (nm x2) p2] k q) env (.ref s'.heap.objs.size)>>=λδ=>pure Flow.next) _ _ _;refine wpAny_bind (wpAny_assign_Tuple a.2.2 ht (by rw[List.size_toArray,ly];rfl) g3 λh' eb=> ?_);refine e02 (un eb) λRC x3=> ?_;exact hR5 (xs:=[x1,x2]) c1 hl RC (V.mono (xA.trans x3)) (rA.mono x3) λsD R4 xC V4=>wpAny_pure (h _ _ _ (x3.no.trans (xC.weak λb q=>gH5 q)) R4 V4 .nx)
 ·obtain⟨l,SA⟩:=x;obtain⟨u1,u2,rfl⟩:∃u1 u2,l=[u1,u2]:=by rcases l with _|⟨a,_|⟨b,_|⟨_,_⟩⟩⟩<;>first|exact⟨a,b,rfl⟩|exact nomatch hx
  obtain⟨y1,ys',rfl,r1,y2,ys'',rfl,r2,rfl⟩:=rA;refine wpAny_bind (wpAny_rule ?_);show wpAny _ _ (unpackItems (.ref s'.heap.objs.size) (#[y1,y2]:Array Value).size none>>=_) _ _ _;refine wpAny_bind (wpAny_unpackItems_tuple a.2.2 ht λh' eb=> ?_);refine wpAny_bind ?_;refine e02 (un eb) λRC x3=> ?_;show wpAny _ _ (assignInOrder [λv=>bindName env (nm x2) v,λv=>bindName env (nm x1) v] [y2,y1]) _ _ _;have ne:x1≠x2:=λz=>by have nd:=gU7 c7;subst z;simp at nd
  refine wpAny_assignInOrder_more (wpAny_bindName (gM3 RC (V.mono (xA.trans x3)) l2 (r2.mono x3) λsD R4 xC V4=> ?_));refine wpAny_assignInOrder_more (wpAny_bindName (gM3 R4 V4 l1 ((r1.mono x3).mono xC) λsE R5 xD V5=> ?_));refine wpAny_assignInOrder_none (wpAny_pure ?_);exact h _ _ _ ((x3.no.trans (xC.weak λb q=>gH5 q)).trans (xD.weak λb q=>gH5 q)) R5 (by rw[←iG7 ne];exact V5) .nx
end
structure IHS(w:World)(sA:Shared)(f:Nat):Prop where
 ih:IH w sA f
 s:lE0 w sA f
 b:jI4 w sA f
 wl:kS0 w sA f
 fr:kS5 w sA f
section
variable{w:World}{sA:Shared}{f:Nat}
theorem lI8(B:Bg w sA)(H:IHS w sA f)(H1:∀f',f=f'+1->IH w sA f'):lE0 w sA (f+1):=by
 intro n l t env m m' S S' fl g s A E Q c ev R V a h;have a':=a.less (Nat.le_succ f)
 cases n with
 |zero=>exact ff c
 |succ n=>
  cases l with
  |ex e=>exact lK0 H.ih.e c ev R V a' h
  |asg x e=>exact kV7 B H.ih H1 c ev R V a' h
  |asgA o x e=>exact kC8 B H.ih.e c ev R V a' h
  |asgS o i e=>exact kC6 H.ih.e c ev R V a' h
  |asgT xs e=>exact kC5 H.ih.e c ev R V a' h
  |asgP xs es=>exact kC7 H.ih.es c ev R V a' h
  |ite x y z=>exact kV6 H.ih.t H.b c ev R V a' h
  |whl x y=>exact kV4 H.wl c ev R V a' h
  |fr t it b=>exact lJ9 H.ih.i H.fr c ev R V a' h
  |ret e=>exact kV5 H.ih.e c ev R V a' h
  |cont=>exact kC4 c ev R V a' h
  |pass=>exact kC3 c ev R V a' h
  |tr b=>exact lJ8 H.b c ev R V a' h
  |dead=>exact nn ev
theorem lN3:IHS w sA 0:=⟨ih0,λδ ev=>nn ev,λδ ev=>nn ev,λδ δ ev=>nn ev,λδ δ ev=>nn ev⟩
theorem iY5(B:Bg w sA)(cb:hA6 w sA)(cm:hA5 w sA)(H:IHS w sA f)(H1:∀f',f=f'+1->IH w sA f'):IHS w sA (f+1):=⟨jQ3 B cb cm H.ih (lJ6 B H.b),lI8 B H H1,lJ7 H.s H.b,lI6 H.ih.t H.b H.wl,lJ3 H.b H.fr⟩
theorem ihs(B:Bg w sA)(cb:hA6 w sA)(cm:hA5 w sA):∀f,IHS w sA f/\∀f',f=f'+1->IH w sA f'
 |0=>⟨lN3,by nofun⟩
 |f+1=>⟨iY5 B cb cm (ihs B cb cm f).1 (ihs B cb cm f).2,λf' e=>by cases e;exact(ihs B cb cm f).1.ih⟩
theorem kU8(B:Bg w sA)(cb:hA6 w sA)(cm:hA5 w sA)(f:Nat):iT1 w sA prog f:=(ihs B cb cm f).1.ih.c
end
theorem jR6:encL=[[48],[49],[50],[51],[52],[53],[54],[55],[56],[57],[84,121,112,101],[75],[76,101,110,103,116,104],[87],[82,111,111,116],[80,114,101,118],[73,110,102,111],[83,105,122,101],[67,97,116,97,108,111,103],[88,82,101,102],[79,98,106,83,116,109],[88]]:=by decide+kernel
theorem jR5(t u:Tok):([[48],[49],[50],[51],[52],[53],[54],[55],[56],[57],[84,121,112,101],[75],[76,101,110,103,116,104],[87],[82,111,111,116],[80,114,101,118],[73,110,102,111],[83,105,122,101],[67,97,116,97,108,111,103],[88,82,101,102],[79,98,106,83,116,109],[88]]:List (List Nat)).map (λl=>Builtin.«str.encode» ⟨[.str ⟨l.toArray⟩ t,.str ⟨#[97,115,99,105,105]⟩ u],[]⟩)=
  ([[48],[49],[50],[51],[52],[53],[54],[55],[56],[57],[84,121,112,101],[75],[76,101,110,103,116,104],[87],[82,111,111,116],[80,114,101,118],[73,110,102,111],[83,105,122,101],[67,97,116,97,108,111,103],[88,82,101,102],[79,98,106,83,116,109],[88]]:List (List Nat)).map λl=>(do ret (←mkBytes (l.map Nat.toUInt8).toArray)):=by kernel_rfl
theorem jR4:(encL.all λl=>decide ((l.map Nat.toUInt8).map UInt8.toNat=l)&&decide (l.length<=100))=true:=by decide+kernel
theorem hB7(b:Array UInt8)(t:Tok):Builtin.«bytes.__new__» ⟨[.type "bytes",.bytes b t],[]⟩=(do rule "bytes.__new__.of-bytes";ret (.bytes b t)):=by kernel_rfl
section
variable{w:World}{sA:Shared}{g g':Gh}{S S':St}{s s':Shared}{A:Around}{E:VP}{Q:VP}
theorem kK6{l e:List Nat}{x y:Value}(R:Rep w sA g S s)(c:(encL.contains l&&e==[97,115,99,105,105])=true)(rx:RV w g s.heap (.str l) x)(ry:RV w g s.heap (.str e) y)(h:Pst w sA g s.heap (.bytes l) S Q):
  wpAny (model PP w) A (call (.builtin "str.encode") [x,y]) Q E s:=by
 simp only[Bool.and_eq_true,beq_iff_eq]at c;obtain⟨c1,rfl⟩:=c;obtain⟨a,t,rfl,e1,_⟩:=rx;obtain⟨b,u,rfl,e2,_⟩:=ry;have ha:a=⟨l.toArray⟩:=by cases a;rw[←e1]
 have hb:b=⟨#[97,115,99,105,105]⟩:=by cases b;simp only at e2;rw[Str.mk.injEq,←Array.toList_inj,e2]
 subst ha hb;have mem:l∈encL:=by simpa using c1
 have low:=List.all_eq_true.mp jR4 l mem;simp only[Bool.and_eq_true,decide_eq_true_eq]at low;rw[jR6]at mem;have tree:=hK8 (jR5 t u) l mem;refine wpAny_call_entry F.slot_str_encode (typeIs_str _ _ _) F.entry_str_encode ?_ (F.args_str_encode_2 _ _);rw[tree];refine wpAny_bind (wpAny_mkBytes ?_ (by rw[sizeLine_eq];simp;(exact hD4 a_2 rfl)));refine wpAny_pure ⟨_,rfl,h _ _ _ (.refl _ _ _) (R.tk _) ⟨_,_,rfl,?_,by omega⟩⟩
 simpa using low.1
theorem jB2{l:List Nat}{y:Value}(R:Rep w sA g S s)(ry:RV w g s.heap (.bytes l) y)(h:Pst w sA g s.heap (.bytes l) S Q):
  wpAny (model PP w) A (call (.type "bytes") [y]) Q E s:=by
 obtain⟨b,t,rfl,e1,e2⟩:=ry;refine callType_codes (Q₁:=λobj sA=>sA.TypeIs obj "bytes"/\Q obj sA) F.bm_called (F.bm_typeCall _) F.entry_object_init ?_ λobj sA hE=> ?_
 ·refine codeAny_of_tree ?_;show wpAny _ _ (do checkBuiltinCall "bytes.__new__" ⟨[.type "bytes",.bytes b t],[]⟩;again (.builtin "bytes.__new__" ⟨[.type "bytes",.bytes b t],[]⟩)) _ _ s;refine wpAny_bind (wpAny_of_eq (F.bm_newCall _) (wpAny_pure ⟨plainId_quiet F.bm_plain _,codeAny_builtin F.bm_entry ?_⟩));rw[Around.under_plainId F.bm_plain _,hB7];exact wpAny_bind (wpAny_rule (wpAny_pure ⟨PySem.W.typeIs_bytes _ _ _,h _ _ _ (.refl _ _ _) R ⟨b,t,rfl,e1,e2⟩⟩))
 ·exact⟨hE.1,F.args_object_init_2 obj _,object_init_meets F.bm_called.init.lookup F.bm_called.made (by decide) PP w A.in1 _ sA ⟨hE.1,rfl,hE.2⟩⟩
end
noncomputable def iQ8:Value->Array UInt8
 | .bytes b _=>b
 |_=> #[]
theorem iC4:entryFor table "bytes.join"=some Builtin.«bytes.join» :=entryFor_of_tree (by kernel_rfl)
theorem iK4(a b:Value):argsOk "bytes.join" ⟨[a,b],[]⟩:=by unfold argsOk;rw[signature?_of (id:= "bytes.join") (n:=['n','i','o','j']) (o:=['s','e','t','y','b']) (by kernel_rfl) FB.owner_bytes];kernel_rfl
theorem jJ2(id:String)(b:Array UInt8)(t:Tok):Builtin.Bytes.takeBufferQuiet? "bytes.join" (.bytes b t) 0=pure (some (b,none)):=by kernel_rfl
section
variable{w:World}{sA:Shared}{g g':Gh}{S S':St}{s s':Shared}{A:Around}{E:VP}{Q:VP}
theorem iW8{r keep:List Value}{Q:UP}(h:Q () s):wpAny (model PP w) A (letGo r keep) Q E s:=by
 induction r with
 |nil=>exact wpAny_pure h
 |cons x r ih=>exact wpAny_bind (wpAny_holding (wpAny_point ih))
theorem hL7{l:List Value}{keep:List Value}{Q:UP}(h:Q () s):wpAny (model PP w) A (Builtin.Bytes.joinLetGo (l.map λx=>(x,none)) keep) Q E s:=by
 induction l with
 |nil=>exact wpAny_pure h
 |cons x l ih=>
  show wpAny _ _ (letGo [x] (keep++(l.map λx=>(x,none)).flatMap λ(p:Value×Option Value)=>p.1::p.2.toList)>>=λδ=>Builtin.Bytes.joinLetGo (l.map λx=>(x,none)) keep) _ _ s;exact wpAny_bind (iW8 ih)
theorem lU3{β:Type}(X:Value->β)(Y:β)(its:Array Value):(¬∃x,its= #[x])->(match its with| #[x]=>X x|_=>Y)=Y:=by
 intro one;rcases its with⟨l⟩
 rcases l with _|⟨x,_|⟨y,r⟩⟩
 ·rfl
 ·exact absurd ⟨x,rfl⟩ one
 ·rfl
theorem hI9{α:Type}{m m':Sem α}{Q:α->Shared->Prop}(e:m=m')(h:wpAny (model PP w) A m' Q E s):wpAny (model PP w) A m Q E s:=by rw[e];exact h
structure JI(its:Array Value)(s:Shared)(rest:List Nat)(b:Array (Array UInt8)×List (Value×Option Value))(s':Shared):Prop where
 a:s'=s
 b:∃k,k<=its.size/\rest=List.range' k (its.size-k)/\b.1=((its.toList.take k).map iQ8).toArray/\b.2=(its.toList.take k).map λx=>(x,none)
theorem jP6{its:Array Value}{i:Nat}{rest:List Nat}{b:Array (Array UInt8)×List (Value×Option Value)}(hb:∀x∈its.toList,∃b t,x= .bytes b t)(h:JI its s (i::rest) b s'):
  ∃b0 t,s'=s/\its.getD i .none= .bytes b0 t/\(Builtin.Bytes.Kind.bytes==Builtin.Bytes.Kind.bytearray||b.2.any λx=>x.1.onHeap)=false/\JI its s rest (b.1.push b0,b.2++ [(.bytes b0 t,none)]) s:=by
 obtain⟨hs,k,hk,e1,e2,e3⟩:=h
 have lt:k<its.size:=by
  rcases Nat.lt_or_ge k its.size with q|q
  ·exact q
  ·rw[Nat.sub_eq_zero_of_le q]at e1;cases e1
 obtain⟨n,hn⟩:∃n,its.size-k=n+1:=⟨its.size-k-1,(Nat.sub_add_cancel (Nat.sub_pos_of_lt lt)).symm⟩
 rw[hn,List.range'_succ]at e1;injection e1 with e0 e1
 subst e0;have e:its.toList[i]?=some its[i]:=by rw[Array.getElem?_toList];exact Array.getElem?_eq_getElem lt
 obtain⟨b0,t,q⟩:=hb _ (List.mem_of_getElem? e);have g2:its.toList[i]?=some (.bytes b0 t):=by rw[e,q]
 refine⟨b0,t,hs,by rw[←q];simp[Array.getD,lt],?_,rfl,i+1,lt,?_,?_,?_⟩
 ·have:(Builtin.Bytes.Kind.bytes==Builtin.Bytes.Kind.bytearray)=false:=by rfl
  rw[this,Bool.false_or,e3,List.any_map,List.any_eq_false];intro x hx;obtain⟨b',t',rfl⟩:=hb x (List.mem_of_mem_take hx);show¬(false=true);decide
 ·rw[e1,Nat.sub_succ,hn];rfl
 ·dsimp only;rw[e2,List.take_succ,g2];simp[show iQ8 (.bytes b0 t)=b0 from rfl]
 ·dsimp only;rw[e3,List.take_succ,g2];simp
theorem jE5{its:Array Value}{b:Array (Array UInt8)×List (Value×Option Value)}(h:JI its s [] b s'):s'=s/\b=((its.toList.map iQ8).toArray,its.toList.map λx=>(x,none)):=by
 obtain⟨hs,k,hk,e1,e2,e3⟩:=h
 have hk':k=its.size:=by
  rcases Nat.lt_or_ge k its.size with q|q
  ·obtain⟨n,hn⟩:∃n,its.size-k=n+1:=⟨its.size-k-1,(Nat.sub_add_cancel (Nat.sub_pos_of_lt q)).symm⟩
   rw[hn,List.range'_succ]at e1;cases e1
  ·(exact Nat.le_antisymm hk q)
 rw[hk',List.take_of_length_le (Nat.le_of_eq Array.length_toList)]at e2 e3;exact⟨hs,Prod.ext e2 e3⟩
theorem jP5{a:Addr}{its:Array Value}{nA:Nat}{sep:Array UInt8}{u:Tok}(ha:s.heap.get? a=some {cls:= .type "list",data:= .seq its nA})(hb:∀x∈its.toList,∃b t,x= .bytes b t)
  (hz:Builtin.Bytes.tooLong (((its.toList.map iQ8).toArray).foldl (· + ·.size) (sep.size*((its.toList.map iQ8).toArray.size-1)))=false)
  (h1:∀x,its= #[x]->Q x s)
  (h:∀t k,Q (.bytes (Builtin.Bytes.joined sep (its.toList.map iQ8)) t) {s with toks:=k})(hz2:(Builtin.Bytes.joined sep (its.toList.map iQ8)).size<=sizeLine):wpAny (model PP w) A (call (.builtin "bytes.join") [.bytes sep u,.ref a]) Q E s:=by
 refine wpAny_call_entry gL0 (typeIs_bytes _ _ _) iC4 ?_ (iK4 _ _);show wpAny _ _ (Builtin.Bytes.joinM .bytes ⟨[.bytes sep u,.ref a],[]⟩) _ _ s;unfold Builtin.Bytes.joinM;refine wpAny_bind (wpAny_of_eq (a:=(.bytes sep u,.ref a)) (by kernel_rfl) ?_);show wpAny _ _ (Builtin.Bytes.joinItems (.ref a)>>=_) _ _ s;refine wpAny_bind ?_;unfold Builtin.Bytes.joinItems;have hT:s.TypeIs (.ref a) "list":=⟨_,ha,rfl⟩
 refine wpAny_bind (wpAny_typeOf hT ?_);refine wIf (by rfl) ?_;refine wpAny_pure (wpAny_bind ?_);have sq:∀ {Q:Option (Array Value)->Shared->Prop},Q (some its) s->wpAny (model PP w) A.in1 (seqItems? (.ref a)) Q E s:=λq=>by unfold seqItems?;exact wpAny_bind (wpAny_load ha (wpAny_pure q))
 refine sq ?_;dsimp only;refine wIf (by rfl) ?_;have one:(∃x,its= #[x])\/¬∃x,its= #[x]:=Classical.em _;refine one.elim (λhx=> ?_) λone=> ?_
 ·refine Exists.elim hx λx hx=> ?_;subst hx;obtain⟨b,t,rfl⟩:=hb x (by simp);show wpAny _ _ (typeOf (.bytes b t)>>=_) _ _ s;refine wpAny_bind (wpAny_typeOf (typeIs_bytes _ _ _) ?_);refine wIf (by rfl) ?_;exact wpAny_bind (wpAny_rule (wpAny_pure ⟨_,rfl,h1 _ rfl⟩))
 ·refine hI9 (lU3 _ _ its one) ?_;refine wpAny_bind ?_;rw[Std.Legacy.Range.forIn_eq_forIn_range'];refine wpAny_forIn_list _ (JI its s) _ (λi rest b s' h=> ?_) (λb s' h=> ?_) _ _ ⟨rfl,0,Nat.zero_le _,by simp,by simp,by simp⟩
  ·refine Exists.elim (jP6 hb h) λb0 h=>Exists.elim h λt h=> ?_;have g1:=h.2.1;have nh:=h.2.2.1;have h':=h.2.2.2;rw[h.1];clear h;refine wpAny_bind (sq ?_);dsimp only;rw[g1,nh];refine jI8 (by decide) ?_;refine wpAny_bind (wpAny_holding ?_);refine wpAny_of_eq (jJ2 "" b0 t) ?_;dsimp only;refine wpAny_bind (sq ?_);refine jI8 (by simp) ?_;exact wpAny_pure h'
  ·rw[(jE5 h).1,(jE5 h).2];clear h;dsimp only;refine wpAny_bind (wpAny_of_eq (a:=sep) (by kernel_rfl) ?_);refine jI8 (by rw[hz];decide) ?_;refine wpAny_bind ?_;show wpAny _ _ (mkBytes _) _ _ _;refine wpAny_mkBytes ?_ hz2;refine wpAny_bind (wpAny_holding (wpAny_point (wpAny_bind (hL7 (wpAny_pure ⟨_,rfl,h _ _⟩)))))
end
noncomputable def nb(b:Array UInt8):List Nat:=b.toList.map UInt8.toNat
theorem gS6(sep x:List Nat):∀(r:List (List Nat)),gE7 sep (x::r)=x++r.flatMap λp=>sep++p
 | []=>(List.append_nil x).symm
 |y::r=>by show x++sep++gE7 sep (y::r)=_;rw[gS6 sep y r,List.flatMap_cons];simp only[List.append_assoc]
theorem hL6(sep:Array UInt8):∀(ps:List (Array UInt8)) (k:Nat) (out:Array UInt8),0<k->
  ((ps.zipIdx k).foldl (λout (x:Array UInt8×Nat)=>(if x.2>0 then out++sep else out)++x.1) out).toList=out.toList++ps.flatMap λp=>sep.toList++p.toList
 | [],k,out,_=>by simp
 |p::ps,k,out,hk=>by rw[List.zipIdx_cons,List.foldl_cons,hL6 sep ps (k+1) _ (Nat.succ_pos _),if_pos hk,List.flatMap_cons];simp only[Array.toList_append,List.append_assoc]
theorem gZ0(sep:Array UInt8):∀(ps:List (Array UInt8)),nb (Builtin.Bytes.joined sep ps)=gE7 (nb sep) (ps.map nb)
 | []=>rfl
 |p::ps=>by
  have:(Builtin.Bytes.joined sep (p::ps)).toList=p.toList++ps.flatMap λp=>sep.toList++p.toList:=by unfold Builtin.Bytes.joined;rw[List.zipIdx_cons,List.foldl_cons];exact(hL6 sep ps 1 (#[]++p) (by decide)).trans (by simp)
  unfold nb;rw[this,List.map_cons,gS6,List.map_append,List.map_flatMap,List.flatMap_map]
  congr 1
  simp only[List.map_append]
theorem jD2:∀(ps:List (Array UInt8)) (c:Nat),ps.foldl (λa b=>a+b.size) c=c+(ps.map Array.size).sum
 | [],c=>by simp
 |p::ps,c=>by rw[List.foldl_cons,jD2 ps];simp;lia
theorem hQ5(sep:Array UInt8)(ps:List (Array UInt8)):(ps.toArray).foldl (· + ·.size) (sep.size*(ps.toArray.size-1))=(Builtin.Bytes.joined sep ps).size:=by
 have e:(Builtin.Bytes.joined sep ps).size=(nb (Builtin.Bytes.joined sep ps)).length:=by unfold nb;rw[List.length_map,Array.length_toList]
 rw[e,gZ0];rw[List.foldl_toArray,jD2,List.size_toArray]
 cases ps with
 |nil=>simp[gZ1]
 |cons p ps=>
  rw[List.map_cons (f:=nb),gS6,List.length_append,List.length_flatMap];have e1:(nb sep).length=sep.size:=by unfold nb;rw[List.length_map,Array.length_toList]
  have en:∀p:Array UInt8,(nb p).length=p.size:=λp=>by unfold nb;rw[List.length_map,Array.length_toList]
  have this:∀l:List (Array UInt8),((l.map nb).map λp=>(nb sep++p).length).sum=sep.size*l.length+(l.map Array.size).sum:=by
   intro l
   induction l with
   |nil=>simp
   |cons x l ih=>
    rw[List.map_cons,List.map_cons,List.sum_cons,ih,List.length_append,e1,en,List.length_cons,List.map_cons,List.sum_cons,Nat.mul_succ];lia
  rw[this,en];simp;lia
section
variable{w:World}{sA:Shared}{g g':Gh}{S S':St}{s s':Shared}{A:Around}{E:VP}{Q:VP}
theorem hK3:∀ {ks:List (List Nat)}{ys:List Value},RVs w g s.heap (ks.map .bytes) ys->(∀x∈ys,∃b t,x= .bytes b t)/\(ys.map iQ8).map nb=ks
 | [],_,r=>by cases r;exact⟨gC4,rfl⟩
 |k::ks,_,r=>by obtain⟨y,ys',rfl,⟨bb,t,rfl,e1,_⟩,r2⟩:=r;obtain⟨i1,i2⟩:=hK3 r2;exact⟨List.forall_mem_cons.mpr ⟨⟨_,_,rfl⟩,i1⟩,by rw[List.map_cons,List.map_cons,i2];exact congrArg (· ::ks) e1⟩
theorem iD6{l:List V}{ks:List (List Nat)}{ys:List Value}(e:gL8 l=some ks)(r:RVs w g s.heap l ys):(∀x∈ys,∃b t,x= .bytes b t)/\(ys.map iQ8).map nb=ks:=by rw[gW3 (f:=yOf) (enc:= .bytes) gD6 e]at r;exact hK3 r
theorem jB6{sep:List Nat}{v:V}{l:List V}{ks:List (List Nat)}{x y:Value}(R:Rep w sA g S s)(hl:gD4 S v=some l)(hk:gL8 l=some ks)(hs:small (gE7 sep ks).length=true)(rx:RV w g s.heap (.bytes sep) x)(ry:RV w g s.heap v y)
  (h:Pst w sA g s.heap (.bytes (gE7 sep ks)) S Q):wpAny (model PP w) A (call (.builtin "bytes.join") [x,y]) Q E s:=by
 obtain⟨b,u,rfl,e1,e2⟩:=rx;obtain⟨a,its,rfl,⟨n,p⟩,z,r⟩:=gE2 R hl ry;obtain⟨i1,i2⟩:=iD6 hk r;simp only[small,decide_eq_true_eq]at hs;have jl:nb (Builtin.Bytes.joined b (its.toList.map iQ8))=gE7 sep ks:=by rw[gZ0,i2];exact congrArg (gE7 · ks) e1
 have jz:(Builtin.Bytes.joined b (its.toList.map iQ8)).size=(gE7 sep ks).length:=by rw[←jl];unfold nb;rw[List.length_map,Array.length_toList]
 refine jP5 p i1 ?_ (λx hx=> ?_) (λt k=>h _ _ _ (.refl _ _ _) (R.tk k) ⟨_,t,rfl,jl,by(exact Nat.le_trans (Nat.le_succ (gE7 sep ks).length) hs)⟩) (by rw[jz,sizeLine_eq];(exact hD4 (Nat.le_of_lt hs) rfl))
 ·rw[hQ5,jz];unfold Builtin.Bytes.tooLong;rw[sizeLine_eq];simp
  (exact hD4 (Nat.le_of_lt hs) rfl)
 ·subst hx;obtain⟨bb,t,rfl⟩:=i1 x (by simp);refine h _ _ _ (.refl _ _ _) R ⟨bb,t,rfl,?_,by(exact Nat.le_trans (Nat.le_succ (gE7 sep ks).length) hs)⟩;rw[←i2];rfl
end
theorem iK1:typeLookup (.type "list") (Str.ofString "keys")=pure none:=am_miss_of_fast (by kernel_rfl)
section
variable{w:World}{sA:Shared}{g g':Gh}{S S':St}{A:Around}{E:VP}
theorem iI9{s:Shared}{a:Addr}{xs:Array Value}{k:Nat}{Q:Option Value->Shared->Prop}
  (hx:s.heap.get? a=some {cls:= .type "list",data:= .seq xs k})(hA:A.handled=none)
  (h:∀h' tk e,Heap.NewExcOf s.heap h' e "AttributeError"->Q none {s with heap:=h',toks:=tk}):
  wpAny (model PP w) A (getAttr? (.ref a) (Str.ofString "keys")) Q E s:=by
 obtain⟨hp,g,d,tk,os⟩:=s;have hT:∀tk',(⟨hp,g,d,tk',os⟩:Shared).TypeIs (.ref a) "list":=λδ=>⟨_,hx,rfl⟩
 have f1:=sub_AttributeError;have f3:=F.slot_list_getattribute.lookup;have f4:=F.slot_list_getattribute.bind (.ref a);have f5:=am_list_getattr_none;unfold getAttr? getAttrBy? getAttrBy
 repeat (any_goals (first|assumption|exact hT _|((with_reducible show wpAny _ _ (call (Value.builtin "list.__getattribute__") _ _) _ _ _);refine call_meets F.slot_list_getattribute (hT _) am_entry_list_getattribute (F.args_list_getattribute_2 _ _) (meets_getattribute_miss_list a xs k #[] (Str.ofString "keys") _ iK1 (by decide+kernel) (by rw[sizeLine_eq];decide+kernel)) ⟨hx,hA,λh' tk' e hx'=> ?_⟩)|wp_step))
 obtain⟨t',u',he⟩:=hx'.there;show wpAny _ _ (getattributeRaised _ _ _ _ _ _ _) _ _ _;unfold getattributeRaised
 repeat (any_goals (first|assumption|wp_step))
 exact h _ _ _ hx'.of
end
theorem hM6:entryFor table "dict.update.loop"=some Builtin.«dict.update.loop» :=entryFor_of_tree (by kernel_rfl)
theorem gQ8:plainId "dict.update.loop"=true:=by decide+kernel
inductive OwnI(w:World)(ks vs:List V)(D:Addr)(g:Gh)(h:Heap):Prop
 |mk (lk:List Int) (ys:List Value):ks=lk.map .int->ys.length=lk.length->h.DictOf (intKind PP w) D (lk.zip ys)->RVs w g h vs ys->OwnI w ks vs D g h
theorem hU9{w:World}{ks vs:List V}{D:Addr}:Sta D (OwnI w ks vs D):=λk e ⟨sk,ys,a,b,d,r⟩=>⟨sk,ys,a,b,DictOf.same e d,RVs.monoK k r⟩
theorem iV7{l:List V}{q:V×V}(h:jM6 l=some q):l=[q.1,q.2]:=by
 cases l with
 |nil=>exact nn h
 |cons x r=>exact bd h λv e h=>by rw[hI4 e,←Option.some.inj h]
theorem iI1{x:V}{r:List V}{p:List V×List V}{G:V->List V×List V->Prop}(e:gF7 (x::r)=some p)(k:∀a b p',gF7 r=some p'->G (.tup [a,b]) (a::p'.1,b::p'.2)):G x p:=bd e λt ht e=>bd e λq hq e=>bd e λp' hp e=>by rw[gI8 ht,iV7 hq];exact sS e (k q.1 q.2 p' hp)
section
variable{w:World}{sA:Shared}{g g':Gh}{S S':St}{s s':Shared}{A:Around}{E:VP}{I D:Addr}{X:Addr->Prop}{h':Heap}
theorem hH5{k v:V}:∀ {ks vs:List V},(gJ5 k v ks vs).1.length<=ks.length+1
 | [],vs=>Nat.le_refl _
 |x::ks,[]=>Nat.le_add_left 1 _
 |x::ks,y::vs=>by
  show(if gB1 k x then(x::ks,v::vs)else(x::(gJ5 k v ks vs).1,y::(gJ5 k v ks vs).2)).1.length<=_
  split
  ·exact Nat.le_succ _
  ·exact Nat.succ_le_succ (hH5 (k:=k) (v:=v) (ks:=ks) (vs:=vs))
theorem hQ3{α:Type}{p:Pos}{G:Option Value->Sem α}{Q':α->Shared->Prop}(h:gR6 w A E (.Name "x" p) I (λy s''=>wpAny (model PP w) A (G (some y)) Q' E s'') s):
  wpAny (model PP w) A (pyNext (.ref I)) (λo s'=>wpAny (model PP w) A (G o) Q' E s') E s:=
 wpAny_mono h (λo s' q=>by
  cases o with
  |none=>exact q.elim
  |some y=>exact wpAny_bind (m:=letOwnedTupleGo (.Name "x" p) (.ref I) y) (f:=λδ=>G (some y)) q) λδ δ z=>z
theorem jY0{a b:V}{ys:List Value}{h:Heap}(r:RVs w g h [a,b] ys):∃k v,ys=[k,v]/\RV w g h a k/\RV w g h b v:=by obtain⟨yk,_,rfl,rk,yv,_,rfl,rv,rfl⟩:=r;exact⟨_,_,rfl,rk,rv⟩
theorem iV6{a b:V}{kk vv:List V}{yk yv:Value}{Q:UP}(R:Rep w sA g S s)(od:OwnI w kk vv D g s.heap)(oD:g.own D= .priv)(hk:gC5 a=true)(rk:RV w g s.heap a yk)(rv:RV w g s.heap b yv)(hz:kk.length<=1000000)
  (K:∀s',Rep w sA g S s'->Ext (· =D) g s.heap g s'.heap->OwnI w (gJ5 a b kk vv).1 (gJ5 a b kk vv).2 D g s'.heap->Q () s'):wpAny (model PP w) A (dictSet D yk yv) Q E s:=by
 obtain⟨lk,ys,rfl,o2,o4,o6⟩:=od;obtain⟨ki,rfl⟩:=hW2 hk;obtain⟨tk,rfl⟩:=rk;rw[List.length_map]at hz;refine wpAny_dictSet_pairs (knd:=intKind PP w) (intKind_is PP w _ tk) o4 (λh' p1 p2=> ?_) (by rw[List.length_zip,o2,Nat.min_self,sizeLine_eq];(exact Nat.le_trans hz (Nat.le_add_left 1000000 15777216)));have nd:((lk.zip ys).map (·.1)).Nodup:=by obtain⟨_,_,_,_,_,_,_,_,q⟩:=o4;exact q
 obtain⟨l',vals',i1,i2,i3,i4,i5⟩:=hH3 (enc:=Mine.V.int) jW5 (k:=ki) o6 o2 rv nd;rw[i4]at p1;obtain⟨RB,xB⟩:=R.turnPriv (h':=h') (tk₀:=s.toks+1) oD (by obtain⟨_,_,_,q,_⟩:=p1;rw[q];rfl) λb nb δ=>p2.2 b nb;exact K _ RB xB ⟨l',vals',i1,i3,p1,i2.mono xB⟩
theorem iJ2:∀(l:List V){p d:List V×List V}{i:Int}{g:Gh}{s:Shared}{R:Result->Shared->Prop},gF7 l=some p->p.1.all gC5=true->Rep w sA g S s->Itr w g s.heap I [I] l->g.own D= .priv->D≠I->OwnI w d.1 d.2 D g s.heap->
  d.1.length+l.length<=1000000->A.handled=none->
  (∀g' s',ExtL (· =D) [I] g s.heap g' s'.heap->Rep w sA g' S s'->g'.own D= .priv->OwnI w (gF2 p.1 p.2 d).1 (gF2 p.1 p.2 d).2 D g' s'.heap->R (.ok (.ret .none)) s')->
  codeAny (model PP w) A (.builtin "dict.update.loop" ⟨[.ref D,.ref I,rawInt i,.none],[]⟩) R s
 | [],p,d,i,g,s,R',e,hk,R,it,oD,ne,od,hz,hh,post=>by
  cases e;refine codeAny_builtin hM6 ?_;rw[Around.under_plainId gQ8 _];show wpAny _ _ (pyNext (.ref I)>>=_) _ _ s;refine wpAny_bind (hQ7 hh R it λgA s' RA l₁=> ?_);have x0:=Lost.extL (X:=noX) l₁ it.own;have pD:=x0.priv D (λq=>ne (List.mem_singleton.mp q)) oD;show wpAny _ _ (Builtin.Dict.addKeywords D []>>=λδ=>ret .none) _ _ s'
  exact wpAny_bind (wpAny_pure (wpAny_pure (post _ _ (Lost.extL l₁ it.own) RA pD.1 (hU9 ⟨x0.keep,x0.rho⟩ (pD.2 id) od))))
 |v::l,p,d,i,g,s,R',e,hk,R,it,oD,ne,od,hz,hh,post=>by
  revert it hk post;refine iI1 (G:=λv p=>p.1.all gC5=true->Itr w g s.heap I [I] (v::l)->(∀g' s',ExtL (· =D) [I] g s.heap g' s'.heap->Rep w sA g' S s'->g'.own D= .priv->OwnI w (gF2 p.1 p.2 d).1 (gF2 p.1 p.2 d).2 D g' s'.heap->R' (.ok (.ret .none)) s')->_) e λa b p' e' hk it post=> ?_;refine an hk λhk1 hk2=> ?_;refine codeAny_builtin hM6 ?_;rw[Around.under_plainId gQ8 _];show wpAny _ _ (pyNext (.ref I)>>=_) _ _ s;refine wpAny_bind (hQ3 (p:=⟨0,0,0,0⟩) (hG3 (A:=A.in1) hh R it rfl (by nofun) λgA y s' xA RA rA it1=> ?_));dsimp only;have nD:D∉ [I]:=λq=>ne (List.mem_singleton.mp q);have pD:=xA.priv D oD;obtain⟨t,its,n,rfl,kt,pt,z,rA⟩:=rA;refine wpAny_bind (wpAny_holding (wpAny_bind (wpAny_tryCatch ?_)));unfold Builtin.Dict.pairItems;refine wpAny_bind (wpAny_typeOf (show s'.TypeIs (.ref t) "tuple" from⟨_,pt,rfl⟩) ?_);refine wIf (by rfl) ?_;refine wpAny_bind ?_;unfold seqItems?;refine wpAny_bind (wpAny_load pt (wpAny_pure (wpAny_pure ?_)));rw[List.length_cons]at hz;obtain⟨yk,yv,e3,rk,rv⟩:=jY0 rA;show wpAny _ _ (match its.toList with| [k,v]=>holding [k,v] (dictSet D k v)|l=>_) _ _ s';rw[e3];refine wpAny_holding (iV6 RA (hU9 ⟨xA.keep,xA.rho⟩ (pD.2 nD) od) pD.1 hk1 rk rv (Nat.le_trans (Nat.le_add_right ..) hz) λsB RB xB oB=> ?_);refine wpAny_pure ⟨plainId_quiet gQ8 _,?_⟩;refine iJ2 l (i:=i+1) e' hk2 RB (it1.mono xB λb hb q=>nD (q▸hb)) pD.1 ne oB ?_ hh λgD sD x3 RC oE dA=> ?_
  ·have:=hH5 (k:=a) (v:=b) (ks:=d.1) (vs:=d.2);exact Nat.le_trans (Nat.add_le_add_right this _) (Nat.le_trans (Nat.le_of_eq (Nat.add_right_comm ..)) hz)
  ·exact post _ _ (ExtL.after xA (λb q=> .inr q) (ExtL.after xB (λb q=> .inl q) x3)) RC oE dA
end
theorem hC9:∀ {ks vs:List V}{d:List V×List V},(gF2 ks vs d).1.length<=d.1.length+ks.length
 | [],vs,d=>Nat.le_refl _
 |k::ks,[],d=>Nat.le_add_right _ _
 |k::ks,v::vs,d=>by have:=hC9 (ks:=ks) (vs:=vs) (d:=gJ5 k v d.1 d.2);have q:=hH5 (k:=k) (v:=v) (ks:=d.1) (vs:=d.2);rw[List.length_cons,Nat.add_comm ks.length 1,←Nat.add_assoc];exact Nat.le_trans this (Nat.add_le_add_right q _)
theorem hK6:∀ {l:List V}{p:List V×List V},gF7 l=some p->p.1.length=l.length
 | [],p,e=>by cases e;rfl
 |v::l,p,e=>iI1 (G:=λδ p=>p.1.length=l.length+1) e λa b p' e'=>congrArg (· +1) (hK6 e')
section
variable{w:World}{sA:Shared}{g g':Gh}{S S':St}{s s':Shared}{A:Around}{E:VP}{Q:VP}
theorem jS8{v:V}{l:List V}{p:List V×List V}{y:Value}(B:Bg w sA)(R0:Rep w sA g S' s)(hh:A.handled=none)(hl:frz 9 v S'=some (.lst l,S))(hp:gF7 l=some p)(hk:p.1.all gC5=true)(ry0:RV w g s.heap v y)
  (h:Pst w sA g s.heap (.loc S.n) (S.new (.dct (gF2 p.1 p.2 ([],[])).1 (gF2 p.1 p.2 ([],[])).2)) Q):wpAny (model PP w) A (call (.type "dict") [y]) Q E s:=by
 obtain⟨gC,xE,R,ry⟩:=gQ6 9 R0 hl ry0;obtain⟨a,its,rfl,ka,pl,z,r⟩:=ry;refine callType_codes (Q₁:=λobj sA=>obj= .ref s.heap.objs.size/\sA= {s with heap:=s.heap.push {cls:= .type "dict",data:= .dict #[]}}) F.kt_called_dict (F.kt_typeCall_dict_1 _) F.entry_dict_init (kt_code_dict_new _ ⟨rfl,rfl⟩) ?_;rintro obj sB ⟨rfl,rfl⟩;have hnew:(s.heap.push {cls:= .type "dict",data:= .dict #[]}).DictOf (intKind PP w) s.heap.objs.size []:=Heap.DictOf.new s.heap;have hD:∃D,D=s.heap.objs.size:=⟨_,rfl⟩
 obtain⟨D,hD⟩:=hD;have fr':=R.fresh s.heap.objs.size (Nat.le_refl _);have ns:=R.notSys B;obtain⟨RA,xA,oA⟩:=R.priv (tk₀:=s.toks) {cls:= .type "dict",data:= .dict #[]};rw[←hD]at hnew fr' ns RA xA oA⊢;have la:a<s.heap.objs.size:=by obtain⟨n,e⟩:=pl;exact Heap.lt_size e
 have pl1:(s.heap.push {cls:= .type "dict",data:= .dict #[]}).PlainList a its:=IsList.same (gK0 la) pl;obtain⟨nE,eB⟩:=pl1;refine⟨hnew.typeIs,F.args_dict_init_2 _ _,?_⟩;unfold Builtin.«dict.__init__»;refine wpAny_bind ?_;unfold Builtin.Dict.selfAndRest;refine wpAny_bind (wpAny_notOrdered_dict hnew.typeIs ?_);show wpAny _ _ (pure (D,[Value.ref a])) _ _ _;refine wpAny_pure ?_;show wpAny _ _ (Builtin.Dict.updateFrom "dict.__init__" D (.ref a) [] .none) _ _ _;unfold Builtin.Dict.updateFrom;refine wpAny_bind (wpAny_typeOf (T:= "list") ⟨_,eB,rfl⟩ ?_);refine wIf (by decide) ?_;refine wpAny_bind (iI9 eB hh λh' tk e ne=> ?_);refine wIf (by rfl) ?_;refine wpAny_bind (wpAny_rule ?_);have kp:∀b o,(s.heap.push {cls:= .type "dict",data:= .dict #[]}).get? b=some o->h'.get? b=some o:=λb o e=>ne.keeps _ _ e;obtain⟨RB,xB⟩:=RA.grow (h':=h') (tk₀:=tk) kp;have pl2:h'.PlainList a its:=⟨nE,kp _ _ eB⟩
 refine wpAny_bind (wpAny_pyIter_list pl2.isList ?_);refine wpAny_pure ⟨plainId_quiet gQ8 _,?_⟩;obtain⟨RC,x3,oE⟩:=RB.priv (tk₀:=tk) {cls:= .type "list_iterator",data:= .fields #[.ref a,.int 0 0]};have hI:∃I,I=h'.objs.size:=⟨_,rfl⟩
 obtain⟨I,hI⟩:=hI;have sI:({s with heap:=h',toks:=tk}:Shared).heap.objs.size=I:=hI.symm;have fI:(gC.put D .priv).own I= .free:=by rw[hI];exact RB.fresh _ (Nat.le_refl _)
 have oD2:=xB.priv D oA;have oD3:=x3.priv D oD2.1;have x13:=(xA.trans xB).trans x3;have k3:=x13.keep a ka;have ne':D≠I:=by rintro rfl;rw[oA]at fI;cases fI
 have it:Itr w _ _ I [I] l:= .list (i:=0) (by rw[←sI];exact oE) k3.1 (IsList.same k3.2 pl) (by rw[←sI];exact⟨_,Heap.get?_push_size _ rfl,rfl,rfl⟩) (r.mono x13);have od:OwnI w [] [] D ((gC.put D .priv).put ({s with heap:=h',toks:=tk}:Shared).heap.objs.size .priv) (h'.push {cls:= .type "list_iterator",data:= .fields #[.ref a,.int 0 0]}):=⟨[],[],rfl,rfl,DictOf.same ((oD3.2 id).trans (oD2.2 id)) hnew,rfl⟩
 have ll:=r.length;rw[Array.length_toList]at ll
 have fI2:gC.own I= .free:=by
  cases q:gC.own I with
  |free=>rfl
  |_=>
   have:=(gB7 (g:=gC) (a:=D) (o:= .priv) (Ne.symm ne')).symm.trans fI;rw[q]at this;cases this
 show codeAny _ _ (.builtin "dict.update.loop" ⟨[.ref D,.ref h'.objs.size,rawInt 0,.none],[]⟩) _ _;rw[←hI];refine codeAny_mono (iJ2 (R:=λr sD=>r= .ok (.ret .none)/\Q (.ref D) sD) l (d:=([],[])) (i:=0) hp hk RC it oD3.1 ne' od (Nat.le_trans (Nat.le_of_eq ((Nat.zero_add _).trans ll.symm)) z) hh λg4 sE xC R4 oF dB=>⟨rfl,?_⟩) λr sD q=> ?_
 ·have xx:=ExtL.of (Ps:=[I]) x13 (λb hb=>by cases hb with|head=>exact fI2|tail _ q=>cases q) xC;have xy:Ext noX gC s.heap g4 sE.heap:=⟨xx.keep,λb q=>⟨(xx.priv b q).1,λδ=>(xx.priv b q).2 λz=>by subst z;rw[fr']at q;cases q⟩,xx.rho⟩
  obtain⟨lk,ys,d1,d2,d3,d4⟩:=dB;have zz:(gF2 p.1 p.2 ([],[])).1.length<=1000000:=by have q1:=hC9 (ks:=p.1) (vs:=p.2) (d:=([],[]));have q2:=hK6 hp;simp at q1;exact Nat.le_trans q1 (Nat.le_trans (Nat.le_of_eq (q2.trans ll.symm)) z)
  obtain⟨g5,y1,y2,y3,_⟩:=R4.givenL (o:= .dct (gF2 p.1 p.2 ([],[])).1 (gF2 p.1 p.2 ([],[])).2) oF xy ⟨by rw[fr'];nofun,by rw[fr'];nofun⟩ (by obtain⟨_,_,_,e,_⟩:=d3;rw[e];rfl) λg' k r ow=>
   ⟨D,ys,r,ow,⟨ns,.inl ⟨lk,d1,d2,d3⟩⟩,zz,RVs.monoK k d4⟩
  exact h _ _ _ (xE.trans y1) y2 y3
 ·obtain⟨rfl,q⟩:=q;exact⟨rfl,q⟩
end
section
variable{w:World}{sA:Shared}
theorem iZ9{g:Gh}{S:St}{s:Shared}{A:Around}{E:VP}{Q:VP}{v:V}{q:V×St}{y:Value}(B:Bg w sA)(R:Rep w sA g S s)(hh:A.handled=none)(e:kL0 S v=some q)(r:RV w g s.heap v y)(h:Pst w sA g s.heap q.1 q.2 Q):wpAny (model PP w) A (call (.type "dict") [y]) Q E s:=by
 refine bd e λp hf e=> ?_;obtain⟨u,SA⟩:=p;cases u<;>first|exact nn e|skip
 exact bd e λp hp e=>ifs e λhk e=>jS8 B R hh hf hp hk r (sS (G:=λq=>Pst w sA g s.heap q.1 q.2 Q) e.symm h)
theorem hP9{g:Gh}{h:Heap}{v:V}{vs:List V}{ys:List Value}{G:List Value->Prop}(e:a1 vs=some v)(r:RVs w g h vs ys)(k:∀y,RV w g h v y->G [y]):G ys:=by rw[hI4 e]at r;obtain⟨y,ys',rfl,r1,r2⟩:=r;cases r2;exact k y r1
theorem kN7(B:Bg w sA):hA6 w sA:=by
 intro b vs ys u S S' g s A E Q R hh hu e r h;refine jA7 B R hh e r (λhb=> ?_) (λl hb hv=> ?_) h
 ·subst hb;exact bd e λv e1 e=>hP9 (G:=λys=>wpAny (model PP w) A (call (.type "dict") ys) Q E s) e1 r λy r=>iZ9 B R hh e r h
 ·subst hb hv;cases e;obtain⟨y,ys',rfl,r1,r2⟩:=r;cases r2;exact jB2 R r1 h
theorem kN6:hA5 w sA:=by
 intro b o u x vs ys S S' g s A E Q R hh hu e ro r h;refine iP9 R hh e ro r (λhb=> ?_) (λhb=> ?_) h
 ·subst hb;refine bd e λsep e0 e=>bd e λv e1 e=>bd e λl hl e=>bd e λks hk e=>ifs e λhs e=> ?_;exact hP9 (G:=λys=>wpAny (model PP w) A (call (.builtin "bytes.join") (x::ys)) Q E s) e1 r λy r=>jB6 R hl hk hs (gD6 e0▸ro) r (s2 (G:=λu S'=>Pst w sA g s.heap u S' Q) e.symm h)
 ·subst hb;refine bd e λl e0 e=>bd e λv e1 e=>bd e λc e2 e=>ifs e λhc e=> ?_;exact hP9 (G:=λys=>wpAny (model PP w) A (call (.builtin "str.encode") (x::ys)) Q E s) e1 r λy r=>kK6 R hc (gK6 e0▸ro) (gK6 e2▸r) (s2 (G:=λu S'=>Pst w sA g s.heap u S' Q) e.symm h)
theorem kB6(B:Bg w sA)(f:Nat):iT1 w sA prog f:=kU8 B (kN7 B) kN6 f
end
noncomputable def g0(h:Heap):Gh:=⟨λδ=>none,λa=>if(h.get? a).isSome=true then .keep else .free⟩
theorem lK1(w:World)(s:Shared):Rep w s (g0 s.heap) ⟨λδ=>none,0⟩ s:=by
 refine⟨⟨s.heap,s.toks,rfl⟩,λb o e=>⟨?_,e⟩,λa n=> ?_,λk o e=>(by cases e),λk δ=>⟨rfl,rfl⟩⟩
 ·show(if(s.heap.get? b).isSome=true then Own.keep else .free)=_;rw[e];rfl
 ·by_cases q:(s.heap.get? a).isSome=true
  ·exact q
  ·exact absurd (show(if(s.heap.get? a).isSome=true then Own.keep else .free)= .free from if_neg q) n
theorem kG3(P:Params):lookIn (Str.ofString "law") (kQ3 3 (objs P))=some (some (.ref (fa 0))):=by kernel_rfl
theorem jQ6{P:Params}{h:Heap}{R:WRecords}{v:Value}{d:WData}(w:Well P h v d)(c:WShape.has R d .int=true):∃i t,v= .int i t:=by cases w<;>first|exact⟨_,_,rfl⟩|exact ff c
inductive LstW(P:Params)(h:Heap)(v:Value)(d:WData):Prop
 |mk (a:Addr) (vs:List Value) (xs:List WData):v= .ref a->d= .list xs->h.get? a=some {cls:= .type "list",data:= .seq vs.toArray}->WellAll P h vs xs->WShape.hasItems [] xs .int=true->LstW P h v d
set_option tactic.hygienic true in
theorem iY6{P:Params}{h:Heap}{v:Value}{d:WData}(w:Well P h v d)(c:WShape.has [] d (.list .int)=true):LstW P h v d:=by
 cases w<;>first|exact ff c|skip
 rename_i a vs xs e wl;have c:(WShape.hasItems [] xs .int||false)=true:=c;rw[Bool.or_false]at c;exact⟨a,vs,xs,rfl,rfl,e,wl,c⟩
theorem iL6{w:World}{g:Gh}{h:Heap}{P:Params}{R:WRecords}:∀ {vs:List Value}{xs:List WData},WellAll P h vs xs->WShape.hasItems R xs .int=true->∃l:List Int,l.length=xs.length/\RVs w g h (l.map .int) vs
 |_,[],r,_=>by cases r;exact⟨[],rfl,rfl⟩
 |_,x::xs,r,c=>by
  cases r with
  |cons r1 r2=>
   refine an (show(WShape.has R x .int&&WShape.hasItems R xs .int)=true from c) λc1 c2=> ?_;obtain⟨l,e1,e2⟩:=iL6 (w:=w) (g:=g) r2 c2;obtain⟨i,t,rfl⟩:=jQ6 r1 c1;exact⟨i::l,congrArg (· +1) e1,_,_,rfl,⟨t,rfl⟩,e2⟩
theorem iR4{P:Params}{h:Heap}{vs:List Value}{ds:List WData}(w:WellAll P h vs ds)(c:WShape.hasAll [] ds [.list .int]=true):∃v d,vs=[v]/\ds=[d]/\LstW P h v d:=by
 cases w with
 |nil=>exact ff c
 | @cons v vs d ds w1 w2=>
  refine an (show(WShape.has [] d (.list .int)&&WShape.hasAll [] ds [])=true from c) λc1 c2=> ?_
  cases w2 with
  |cons _ _=>exact ff c2
  |nil=>exact⟨v,d,rfl,rfl,iY6 w1 c1⟩
theorem jL4{xs:List WData}(c:rL.pre.holds [] {args:=[.list xs]}=true):xs.length<=63:=by
 have c:(match (match (match Option.map WData.bool (some (decide ((63:Int)<(xs.length:Int))))with
  |some (.bool b)=>some (WData.bool !b)
  |_=>none)with
  |some (.bool false)=>some (WData.bool false)
  |some (.bool true)=>some (WData.bool true)
  |_=>none)with
  |some (.bool true)=>true
  |_=>false)=true:=c
 by_cases q:(63:Int)<(xs.length:Int)
 ·rw[dT q]at c;exact absurd c (by decide)
 ·exact Nat.not_lt.mp λh=>q (Int.ofNat_lt.mpr h)
theorem iX0{P:Params}{h:Heap}{mg:Str->Option Value}{a:Addr}(X:(Mine.K P).In h)(ns:h.Ns 3 mg)(hm:mg (Str.ofString "law")=some (.ref a)):a=fa 0:=by have q:=iJ3 ns (X 3 _ rfl) hm;have q3:some (some (Value.ref a))=some (some (Value.ref (fa 0))):=q.symm.trans (kG3 P);injection q3 with q3;injection q3 with q3;injection q3
theorem claim_of(hlaw:∀l:List Int,l.length<=63->∃S',gA4 prog 600 0 [.lst (l.map .int)] ⟨λδ=>none,0⟩=some (.bool true,S')):PySem.Challenge.rw_nn0236_01.Holds:=by
 refine jQ4 λw sG sA mg mb G hs a o pm cd doc dV kV ha hd hcd hdf hmg hgens args vals as hpre hlay hrd hwell hsys=> ?_;have hK:(Mine.K w.params).In sA.heap:=hs;have B:Bg w sA:=⟨hK,G.T.nolimit,⟨mb,G.T.b,G.T.builtins⟩,Nat.lt_trans (by decide:2<3) (Heap.lt_size (hK 3 _ rfl))⟩
 cases iX0 hK G.T.g hmg;refine an (show(WShape.hasAll [] args [.list .int]&&rL.pre.holds [] {args:=args})=true from hpre) λp1 p2=> ?_;obtain⟨v,d,rfl,rfl,la,lv,xs,rfl,rfl,e,wl,c1⟩:=iR4 hwell p1;obtain⟨l,e1,e2⟩:=iL6 (w:=w) (g:=g0 sA.heap) wl c1;have le:l.length<=63:=by rw[e1];exact jL4 p2
 obtain⟨S',ev⟩:=hlaw l le;have ln:=e2.length;rw[List.length_map]at ln;refine wpAny_call (kB6 B 600 (i:=0) (by decide) ev (lK1 w sA) ⟨_,[],rfl,⟨la,lv.toArray,rfl,?_,⟨_,e⟩,by rw[List.size_toArray];exact Nat.le_trans (Nat.le_of_eq ln) (Nat.le_trans le (by decide)),e2⟩,rfl⟩ ⟨by decide,by decide,rfl⟩ λg' y s' x R' r=> ?_)
 ·show(if(sA.heap.get? la).isSome=true then Own.keep else .free)=_;rw[e];rfl
 ·cases r;obtain⟨hh,tk,rfl⟩:=R'.same;refine⟨.inl ⟨_,_,[],rfl,λcls=>rfl,.bool true,?_,λδ=>⟨List.nodup_nil,gC4⟩⟩,?_,rfl,?_⟩
  ·kernel_rfl
  ·exact OldK.of_keep R'.stays
  ·exact AllBare.of_eq hgens
end
end Mine
theorem PySem.Challenge.cw_nn0236_01_holds : PySem.Challenge.rw_nn0236_01.Holds :=
 Mine.claim_of Mine.hlaw
