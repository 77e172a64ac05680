import PyProof.Rows.All
import Wide.All
import OpenK.AllK
import Wide.FinOn
import PySem.Challenge.RW_rg0166_01
set_option Elab.async false
set_option linter.all false
noncomputable section
namespace Mine
inductive V where
 |none|bool (b:Bool)|int (i:Int)|chr (c:Nat)
 |ao (xs:List V)|ad (xs:List V)|obj (c:Nat) (fs:List V)|dct (ks:List (Int×V))
 |ref (r:Nat)|st (n:Nat)
 deriving Inhabited
inductive CO where
 |dead|inst (c:Nat) (fs:List (Option V))|ad (xs:List V)|dct (ks:List (Int×V))
 deriving Inhabited
abbrev Hp:=List CO
abbrev aE:=List (Option V)
abbrev CT:=Nat->List V->Hp->(V->Hp->Prop)->Prop
inductive BO where|add|sub|mul|fdv|mod|pow
inductive CP where|lt|le|gt|ge|eq|ne
inductive Tg where
 |one (i:Nat)|two (i j:Nat)
mutual
inductive Ex where
 |ac (i:Nat)|gl (n:Nat)|int (i:Int)|chr (c:Nat)|non|boo (b:Bool)
 |ao (es:rC)
 |ad (fr:Bool) (es:rC)
 |dic (fr:Bool) (ks:List Int) (es:rC)
 |bin (o:BO) (a b:Ex)
 |cat (fr:Bool) (a b:Ex)
 |tct (a b:Ex)
 |neg (a:Ex)|nt (a:Ex)
 |cmp (o:CP) (a b:Ex)|cmp2 (o p:CP) (a b c:Ex)
 |eqc (n:Bool) (a b:Ex)|eqb (n:Bool) (a b:Ex)|eqd (n:Bool) (a b:Ex)
 |isn (n:Bool) (a:Ex)
 |inT (n:Bool) (a b:Ex)|inD (n:Bool) (a b:Ex)
 |and (es:rC)|or (es:rC)
 |ite (c:Cd) (a b:Ex)
 |am (a:Ex) (f:Nat)
 |idx (a i:Ex)
 |slt (fr:Bool) (a e:Ex)|slf (fr:Bool) (a e:Ex)
 |fn (f:Nat) (es:rC)
 |new (c:Nat) (es:rC)
 |mth (a:Ex) (m:Nat) (es:rC)
 |len (a:Ex)|abs (a:Ex)|toI (a:Ex)|sum (a:Ex)|dvm (a b:Ex)
 |mx (a b:Ex)|mn (es:rC)
 |isI (b:Bool) (a:Ex)
 |toL (fr:Bool) (a:Ex)|toT (a:Ex)|srt (a:Ex)
 |app (a e:Ex)|ext (a e:Ex)|pop (a:Ex)|an (a e:Ex)|dgt (a e:Ex)
 |cpr (fr:Bool) (elt:Ex) (tg:Tg) (it:It) (cond:xo)
inductive rC where
 |nil|cons (e:Ex) (es:rC)
inductive It where
 |seq (e:Ex)|rng (e:Ex)|enm (e:Ex)|zip (a b:Ex)
inductive Cd where
 |ex (e:Ex)|nt (c:Cd)|and (cs:xo)|or (cs:xo)
inductive xo where
 |nil|cons (c:Cd) (cs:xo)
end
mutual
inductive St where
 |asg (i:Nat) (e:Ex)
 |asgT (is:List Nat) (e:Ex)
 |sAt (a:Ex) (f:Nat) (e:Ex)
 |sIx (a i e:Ex)
 |aug (i:Nat) (o:BO) (e:Ex)
 |aAt (a:Ex) (f:Nat) (o:BO) (e:Ex)
 |aIx (a i:Ex) (o:BO) (e:Ex)
 |ex (e:Ex)
 |ite (c:Cd) (t f:aU)
 |whl (c:Cd) (b:aU)
 |for (tg:Tg) (it:It) (b:aU)
 |ret (e:Ex)|brk|cont|dead
inductive aU where
 |nil|cons (s:St) (r:aU)
end
inductive Fl where
 |next|brk|cont|ret (v:V)
structure Fn where
 np:Nat
 dfl:List V
 nl:Nat
 body:aU
 pure:Bool
structure Cl where
 init:Nat
 nf:Nat
 frz:Bool
structure Tb where
 fn:Nat->Option Fn
 cl:Nat->Option Cl
 slot:Nat->Nat->Option Nat
 own:Nat->Nat->Option V
 meth:Nat->Nat->Option Nat
 gv:Nat->V
structure gf(b:Bool)(X Y:Prop):Prop where
 t:b=true->X
 f:b=false->Y
structure av(p K:Prop):Prop where
 p:p
 k:K
structure bL(H:Hp)(r:Nat)(K:CO->Prop):Prop where
 h:∃o,H[r]?=some o/\K o
structure aS{α:Type}(x:Option α)(K:α->Prop):Prop where
 h:∃v,x=some v/\K v
def bE(ρ:aE)(i:Nat):Option V:=match ρ[i]? with
 |some (some v)=>some v
 |_=>Option.none
def dm(xs:List V):Int->Option V
 |.ofNat n=>xs[n]?
 |.negSucc n=>if n<xs.length then xs[xs.length-1-n]? else Option.none
def oA(n:Nat):Int->Option Nat
 |.ofNat k=>if k<n then some k else Option.none
 |.negSucc _=>Option.none
def aC(n:Nat):Int->Nat
 |.ofNat k=>min k n
 |.negSucc k=>n-(k+1)
def iz:CP->Int->Int->Bool
 |.lt,x,y=>decide (x<y)
 |.le,x,y=>decide (x<=y)
 |.gt,x,y=>decide (y<x)
 |.ge,x,y=>decide (y<=x)
 |.eq,x,y=>decide (x=y)
 |.ne,x,y=> !decide (x=y)
def yK(x y:Int):Prop:=x.natAbs<2^60\/y.natAbs<2^60
def jf:BO->Int->Int->(V->Prop)->Prop
 |.add,x,y,K=>K (.int (x+y))
 |.sub,x,y,K=>K (.int (x-y))
 |.mul,x,y,K=>av (yK x y) (K (.int (x*y)))
 |.fdv,x,y,K=>av (y≠0/\y.natAbs<1073741824) (K (.int (x.fdiv y)))
 |.mod,x,y,K=>av (y≠0) (K (.int (x.fmod y)))
 |.pow,x,y,K=>av (0<=y/\y<=64/\x.natAbs<=2^20) (K (.int (x^y.toNat)))
def jg:Nat->V->Prop
 |_,.none=>True
 |_,.int _=>True
 |_,.chr c=>c<128
 |n+1,.ao xs=>∀x∈xs,jg n x
 |n+1,.ad xs=>∀x∈xs,jg n x
 |_,_=>False
def vz(x y:V):Prop:=(jg 8 x/\jg 8 y)\/∃xs ys,x= .ad xs/\y= .ad ys/\xs.length≠ys.length
open Classical in
def kX(a b:V):Bool:=decide (a=b)
def aY(H:Hp):V->(List V->Prop)->Prop
 |.ad xs,K=>K xs
 |.ao xs,K=>K xs
 |.ref r,K=>bL H r λo=>match o with
  |.ad xs=>K xs
  |_=>False
 |_,_=>False
def mM:V->Prop->Prop
 |.ao _,_=>False
 |_,K=>K
theorem oB{v:V}{P:Prop}(h:mM v P):P:=by
 cases v<;>first|exact h|exact h.elim
def dictOf(H:Hp):V->(List (Int×V)->Prop)->Prop
 |.dct ks,K=>K ks
 |.ref r,K=>bL H r λo=>match o with
  |.dct ks=>K ks
  |_=>False
 |_,_=>False
def dY(H:Hp):V->Prop->Prop
 |.ref r,K=>bL H r λo=>match o with
  |.ad _=>K
  |_=>False
 |_,_=>False
def cY(H:Hp):V->(Nat->List V->Prop)->Prop
 |.ref r,K=>bL H r λo=>match o with
  |.ad xs=>K r xs
  |_=>False
 |_,_=>False
def xv(H:Hp):V->(V->Prop)->Prop
 |.ref r,K=>bL H r λo=>match o with
  |.ad xs=>K (.ad xs)
  |_=>False
 |v,K=>K v
def aW:Int->List (Int×V)->Option V
 |_,[]=>Option.none
 |i,(k,v)::r=>match decide (k=i)with
  |true=>some v
  |false=>aW i r
def dn(i:Int)(v:V):List (Int×V)->List (Int×V)
 | []=>[(i,v)]
 |(k,u)::r=>match decide (k=i)with
  |true=>(k,v)::r
  |false=>(k,u)::dn i v r
def m7(H:Hp)(a i:V)(K:V->Prop):Prop:=match a,i with
 |.ad xs,.int i=>aS (dm xs i) K
 |.ao xs,.int i=>aS (dm xs i) K
 |.dct ks,.int i=>aS (aW i ks) K
 |.ref r,.int i=>bL H r λo=>match o with
  |.ad xs=>aS (dm xs i) K
  |.dct ks=>aS (aW i ks) K
  |_=>False
 |_,_=>False
def dE(fr:Bool)(xs:List V)(H:Hp)(K:V->Hp->Prop):Prop:=match fr with
 |true=>K (.ad xs) H
 |false=>K (.ref H.length) (H++[.ad xs])
def sZ(fr:Bool)(ks:List (Int×V))(H:Hp)(K:V->Hp->Prop):Prop:=match fr with
 |true=>K (.dct ks) H
 |false=>K (.ref H.length) (H++[.dct ks])
def sizeOk(n:Nat):Prop:=n<=10000000
def oC(T:Tb)(c f:Nat)(fs:List (Option V)):Option V:=match T.slot c f with
 |some k=>(match fs[k]? with
  |some (some v)=>some v
  |_=>Option.none)
 |Option.none=>T.own c f
def rD(T:Tb)(c f:Nat)(fs:List V):Option V:=match T.slot c f with
 |some k=>fs[k]?
 |Option.none=>T.own c f
def m8(T:Tb)(H:Hp)(f:Nat):V->(V->Prop)->Prop
 |.obj c fs,K=>aS (rD T c f fs) K
 |.ref r,K=>bL H r λo=>match o with
  |.inst c fs=>aS (oC T c f fs) K
  |_=>False
 |_,_=>False
def vA(H:Hp):V->(Nat->Prop)->Prop
 |.obj c _,K=>K c
 |.ref r,K=>bL H r λo=>match o with
  |.inst c _=>K c
  |_=>False
 |_,_=>False
def ec(ρ:aE):Tg->V->(aE->Prop)->Prop
 |.one i,v,K=>K (ρ.set i (some v))
 |.two i j,.ao [a,b],K=>K ((ρ.set i (some a)).set j (some b))
 |.two _ _,_,_=>False
inductive NR:V->Prop where
 |none:NR .none
 |bool (b):NR (.bool b)
 |int (i):NR (.int i)
 |chr (c):NR (.chr c)
 |st (n):NR (.st n)
 |ao {xs}:(∀x∈xs,NR x)->NR (.ao xs)
 |ad {xs}:(∀x∈xs,NR x)->NR (.ad xs)
 |obj {c fs}:(∀x∈fs,NR x)->NR (.obj c fs)
 |dct {ks}:(∀x∈ks,NR x.2)->NR (.dct ks)
def frz(n:Nat)(H:Hp):Nat->V->Option V
 |0,_=>Option.none
 |d+1,.ref r=>if r<n then Option.none else(match H[r]? with
  |some (.ad xs)=>(xs.mapM (frz n H d)).map .ad
  |some (.dct ks)=>(ks.mapM λkv=>(frz n H d kv.2).map λv=>(kv.1,v)).map .dct
  |some (.inst c fs)=>(fs.mapM λ(o:Option V)=>o.bind (frz n H d)).map (.obj c)
  |_=>Option.none)
 |d+1,.ao xs=>(xs.mapM (frz n H d)).map .ao
 |_,v=>some v
structure mN(n:Nat)(H:Hp)(v:V)(K:V->Prop):Prop where
 h:∃u,frz n H 8 v=some u/\NR u/\K u
def bN(bd:V->(aE->Prop)->Prop)(el:aE->Hp->(V->Hp->Prop)->Prop)(ts:aE->Hp->(Bool->Hp->Prop)->Prop)(ck:Hp->Prop):List V->List V->Hp->(List V->Hp->Prop)->Prop
 | [],acc,H,K=>ck H/\K acc H
 |x::xs,acc,H,K=>ck H/\bd x λρ=>ts ρ H λb H1=>gf b (el ρ H1 λv H2=>bN bd el ts ck xs (acc++[v]) H2 K) (bN bd el ts ck xs acc H1 K)
structure bY(bd:V->(aE->Prop)->Prop)(el:aE->Hp->(V->Hp->Prop)->Prop)(ts:aE->Hp->(Bool->Hp->Prop)->Prop)(ck:Hp->Prop)(xs:List V)(H:Hp)(K:List V->Hp->Prop):Prop where
 h:bN bd el ts ck xs [] H K
def ba(bd:aE->V->(aE->Prop)->Prop)(bo:aE->Hp->(Fl->aE->Hp->Prop)->Prop)(ck:Hp->Prop):List V->aE->Hp->(Fl->aE->Hp->Prop)->Prop
 | [],ρ,H,K=>ck H/\K .next ρ H
 |x::xs,ρ,H,K=>ck H/\bd ρ x λρ1=>bo ρ1 H λfl ρ2 H2=>match fl with
  |.next=>ba bd bo ck xs ρ2 H2 K
  |.cont=>ba bd bo ck xs ρ2 H2 K
  |.brk=>K .next ρ2 H2
  |.ret v=>K (.ret v) ρ2 H2
structure ed(bd:aE->V->(aE->Prop)->Prop)(bo:aE->Hp->(Fl->aE->Hp->Prop)->Prop)(ck:Hp->Prop)(xs:List V)(ρ:aE)(H:Hp)(K:Fl->aE->Hp->Prop):Prop where
 h:ba bd bo ck xs ρ H K
def iO(ts:aE->Hp->(Bool->Hp->Prop)->Prop)(bo:aE->Hp->(Fl->aE->Hp->Prop)->Prop):Nat->aE->Hp->(Fl->aE->Hp->Prop)->Prop
 |0,_,_,_=>False
 |n+1,ρ,H,K=>ts ρ H λb H1=>gf b (bo ρ H1 λfl ρ2 H2=>match fl with
  |.next=>iO ts bo n ρ2 H2 K
  |.cont=>iO ts bo n ρ2 H2 K
  |.brk=>K .next ρ2 H2
  |.ret v=>K (.ret v) ρ2 H2) (K .next ρ H1)
structure zj(ts:aE->Hp->(Bool->Hp->Prop)->Prop)(bo:aE->Hp->(Fl->aE->Hp->Prop)->Prop)(ρ:aE)(H:Hp)(K:Fl->aE->Hp->Prop):Prop where
 h:∃n,iO ts bo n ρ H K
def pO(H:Hp):V->(List V->(Hp->Prop)->Prop)->Prop
 |.ad xs,K=>K xs λ_=>True
 |.ao xs,K=>K xs λ_=>True
 |.dct ks,K=>K (ks.map λkv=>.int kv.1) λ_=>True
 |.ref r,K=>bL H r λo=>match o with
  |.ad xs=>K xs λH'=>H'[r]?=some (.ad xs)
  |_=>False
 |_,_=>False
def pP(H:Hp):V->(List V->(Hp->Prop)->Prop)->Prop
 |.ad xs,K=>K xs λ_=>True
 |.ao xs,K=>K xs λ_=>True
 |.ref r,K=>bL H r λo=>match o with
  |.ad xs=>K xs λH'=>H'[r]?=some (.ad xs)
  |_=>False
 |_,_=>False
def lm(H:Hp):V->(List V->(Hp->Prop)->Prop)->Prop
 |.ad xs,K=>K xs λ_=>True
 |.ref r,K=>bL H r λo=>match o with
  |.ad xs=>K xs λH'=>H'[r]?=some (.ad xs)
  |_=>False
 |_,_=>False
def cZ(n:Nat):List V->List V
 | []=>[]
 |x::xs=>.ao [.int n,x]::cZ (n+1) xs
def jh:List V->List V->List V
 |x::xs,y::ys=>.ao [x,y]::jh xs ys
 |_,_=>[]
def t9(n:Int):List V:=(List.range n.toNat).map λ(k:Nat)=>.int (k:Int)
def oD:List V->Option Int
 | []=>some 0
 |.int i::r=>(oD r).map (i+ ·)
 |_::_=>Option.none
def ji:List V->Option (List Int)
 | []=>some []
 |.int i::r=>(ji r).map (i:: ·)
 |_::_=>Option.none
def ln:List V->Option (List Nat)
 | []=>some []
 |.chr i::r=>(ln r).map (i:: ·)
 |_::_=>Option.none
def mO:List Int->Option (List Int)
 | []=>some []
 | [a]=>some [a]
 | [a,b]=>some (if b<a then [b,a]else [a,b])
 |_=>Option.none
def gh:V->(Bool->Prop)->Prop
 |.bool b,K=>K b
 |_,_=>False
def isNone:V->Bool
 |.none=>true
 |_=>false
def bS:V->V->(Int->Int->Prop)->Prop
 |.int x,.int y,K=>K x y
 |_,_,_=>False
def b0(n b:Bool):Bool:=match n with|true=> !b|false=>b
def zk:List V->(Int->Prop)->Prop
 | [.int a,.int b],K=>K (min a b)
 | [.int a,.int b,.int c],K=>K (min (min a b) c)
 |_,_=>False
set_option maxHeartbeats 4000000 in
mutual
def bI(T:Tb)(C:CT):Ex->aE->Hp->(V->Hp->Prop)->Prop
 |.ac i,ρ,H,K=>match bE ρ i with
  |some v=>K v H
  |Option.none=>False
 |.gl n,_,H,K=>K (T.gv n) H
 |.int i,_,H,K=>K (.int i) H
 |.chr c,_,H,K=>K (.chr c) H
 |.non,_,H,K=>K .none H
 |.boo b,_,H,K=>K (.bool b) H
 |.ao es,ρ,H,K=>oE T C es ρ H λvs H1=>K (.ao vs) H1
 |.ad fr es,ρ,H,K=>oE T C es ρ H λvs H1=>dE fr vs H1 K
 |.dic fr ks es,ρ,H,K=>oE T C es ρ H λvs H1=>sZ fr (ks.zip vs) H1 K
 |.bin o a b,ρ,H,K=>bI T C a ρ H λva H1=>bI T C b ρ H1 λvb H2=>bS va vb λx y=>jf o x y λv=>K v H2
 |.cat fr a b,ρ,H,K=>bI T C a ρ H λva H1=>bI T C b ρ H1 λvb H2=>mM va (mM vb (aY H2 va λxs=>aY H2 vb λys=>av (sizeOk (xs.length+ys.length)) (dE fr (xs++ys) H2 K)))
 |.tct a b,ρ,H,K=>bI T C a ρ H λva H1=>bI T C b ρ H1 λvb H2=>match va,vb with
  |.ao xs,.ao ys=>av (sizeOk (xs.length+ys.length)) (K (.ao (xs++ys)) H2)
  |_,_=>False
 |.neg a,ρ,H,K=>bI T C a ρ H λv H1=>match v with
  |.int x=>K (.int (-x)) H1
  |_=>False
 |.nt a,ρ,H,K=>bI T C a ρ H λv H1=>gh v λb=>K (.bool (!b)) H1
 |.cmp o a b,ρ,H,K=>bI T C a ρ H λva H1=>bI T C b ρ H1 λvb H2=>bS va vb λx y=>K (.bool (iz o x y)) H2
 |.cmp2 o p a b c,ρ,H,K=>bI T C a ρ H λva H1=>bI T C b ρ H1 λvb H2=>bS va vb λx y=>
   gf (iz o x y) (bI T C c ρ H2 λvc H3=>bS vb vc λy z=>K (.bool (iz p y z)) H3) (K (.bool false) H2)
 |.eqc n a b,ρ,H,K=>bI T C a ρ H λva H1=>bI T C b ρ H1 λvb H2=>match va,vb with
  |.chr x,.chr y=>K (.bool (b0 n (decide (x=y)))) H2
  |_,_=>False
 |.eqb n a b,ρ,H,K=>bI T C a ρ H λva H1=>bI T C b ρ H1 λvb H2=>match va,vb with
  |.bool x,.bool y=>K (.bool (b0 n (x==y))) H2
  |_,_=>False
 |.eqd n a b,ρ,H,K=>bI T C a ρ H λva H1=>bI T C b ρ H1 λvb H2=>xv H2 va λx=>xv H2 vb λy=>av (vz x y) (K (.bool (b0 n (kX x y))) H2)
 |.isn n a,ρ,H,K=>bI T C a ρ H λv H1=>K (.bool (b0 n (isNone v))) H1
 |.inT n a b,ρ,H,K=>bI T C a ρ H λva H1=>bI T C b ρ H1 λvb H2=>match va,vb with
  |.int x,.ao ys=>aS (ji ys) λis=>K (.bool (b0 n (is.contains x))) H2
  |.chr x,.ao ys=>aS (ln ys) λis=>K (.bool (b0 n (is.contains x))) H2
  |_,_=>False
 |.inD n a b,ρ,H,K=>bI T C a ρ H λva H1=>bI T C b ρ H1 λvb H2=>match va with
  |.int x=>dictOf H2 vb λks=>K (.bool (b0 n (aW x ks).isSome)) H2
  |_=>False
 |.and es,ρ,H,K=>rE T C es ρ H K
 |.or es,ρ,H,K=>vC T C es ρ H K
 |.ite c a b,ρ,H,K=>vw T C c ρ H λt H1=>gf t (bI T C a ρ H1 K) (bI T C b ρ H1 K)
 |.am a f,ρ,H,K=>bI T C a ρ H λv H1=>m8 T H1 f v λu=>K u H1
 |.idx a i,ρ,H,K=>bI T C a ρ H λva H1=>bI T C i ρ H1 λvi H2=>m7 H2 va vi λu=>K u H2
 |.slt fr a e,ρ,H,K=>bI T C a ρ H λva H1=>bI T C e ρ H1 λve H2=>match va,ve with
  |.ao xs,.int i=>K (.ao (xs.take (aC xs.length i))) H2
  |va,.int i=>aY H2 va λxs=>dE fr (xs.take (aC xs.length i)) H2 K
  |_,_=>False
 |.slf fr a e,ρ,H,K=>bI T C a ρ H λva H1=>bI T C e ρ H1 λve H2=>match va,ve with
  |.ao xs,.int i=>K (.ao (xs.drop (aC xs.length i))) H2
  |va,.int i=>aY H2 va λxs=>dE fr (xs.drop (aC xs.length i)) H2 K
  |_,_=>False
 |.fn f es,ρ,H,K=>oE T C es ρ H λvs H1=>C f vs H1 K
 |.new c es,ρ,H,K=>oE T C es ρ H λvs H1=>C (1000+c) vs H1 K
 |.mth a m es,ρ,H,K=>bI T C a ρ H λva H1=>vA H1 va λc=>aS (T.meth c m) λf=>oE T C es ρ H1 λvs H2=>C f (va::vs) H2 K
 |.len a,ρ,H,K=>bI T C a ρ H λv H1=>aY H1 v λxs=>K (.int xs.length) H1
 |.abs a,ρ,H,K=>bI T C a ρ H λv H1=>match v with
  |.int x=>K (.int x.natAbs) H1
  |_=>False
 |.toI a,ρ,H,K=>bI T C a ρ H λv H1=>match v with
  |.int x=>K (.int x) H1
  |_=>False
 |.sum a,ρ,H,K=>bI T C a ρ H λv H1=>mM v (aY H1 v λxs=>aS (oD xs) λn=>K (.int n) H1)
 |.dvm a b,ρ,H,K=>bI T C a ρ H λva H1=>bI T C b ρ H1 λvb H2=>bS va vb λx y=>av (y≠0/\y.natAbs<1073741824) (K (.ao [.int (x.fdiv y),.int (x.fmod y)]) H2)
 |.mx a b,ρ,H,K=>bI T C a ρ H λva H1=>bI T C b ρ H1 λvb H2=>bS va vb λx y=>K (.int (max x y)) H2
 |.mn es,ρ,H,K=>oE T C es ρ H λvs H1=>zk vs λx=>K (.int x) H1
 |.isI b a,ρ,H,K=>bI T C a ρ H λv H1=>match v with
  |.int _=>K (.bool (!b)) H1
  |_=>False
 |.toL fr a,ρ,H,K=>bI T C a ρ H λv H1=>aY H1 v λxs=>dE fr xs H1 K
 |.toT a,ρ,H,K=>bI T C a ρ H λv H1=>aY H1 v λxs=>K (.ao xs) H1
 |.srt a,ρ,H,K=>bI T C a ρ H λv H1=>dictOf H1 v λks=>aS (mO (ks.map (·.1))) λis=>K (.ad (is.map .int)) H1
 |.app a e,ρ,H,K=>bI T C a ρ H λva H1=>dY H1 va (bI T C e ρ H1 λv H2=>cY H2 va λr xs=>av (sizeOk (xs.length+1)) (K .none (H2.set r (.ad (xs++[v])))))
 |.ext a e,ρ,H,K=>bI T C a ρ H λva H1=>dY H1 va (bI T C e ρ H1 λv H2=>cY H2 va λr xs=>match v with
  |.ad ys=>av (sizeOk (xs.length+ys.length)) (K .none (H2.set r (.ad (xs++ys))))
  |_=>False)
 |.pop a,ρ,H,K=>bI T C a ρ H λva H1=>dY H1 va (cY H1 va λr xs=>match xs with
  |x::xs=>K x (H1.set r (.ad xs))
  | []=>False)
 |.an a e,ρ,H,K=>bI T C a ρ H λva H1=>dY H1 va (bI T C e ρ H1 λv H2=>cY H2 va λr xs=>av (sizeOk (xs.length+1)) (K .none (H2.set r (.ad (v::xs)))))
 |.dgt a e,ρ,H,K=>bI T C a ρ H λva H1=>dictOf H1 va λ_=>bI T C e ρ H1 λv H2=>match v with
  |.int x=>dictOf H2 va λks=>K ((aW x ks).getD .none) H2
  |_=>False
 |.cpr fr elt tg it cond,ρ,H,K=>HL T C it ρ H λxs ck H1=>bY (ec ρ tg) (λρ1 H2=>bI T C elt ρ1 H2) (λρ1 H2=>cm T C cond ρ1 H2) ck xs H1 λys H2=>dE fr ys H2 K
def oE(T:Tb)(C:CT):rC->aE->Hp->(List V->Hp->Prop)->Prop
 |.nil,_,H,K=>K [] H
 |.cons e es,ρ,H,K=>bI T C e ρ H λv H1=>oE T C es ρ H1 λvs H2=>K (v::vs) H2
def vw(T:Tb)(C:CT):Cd->aE->Hp->(Bool->Hp->Prop)->Prop
 |.ex e,ρ,H,K=>bI T C e ρ H λv H1=>gh v λb=>K b H1
 |.nt a,ρ,H,K=>vw T C a ρ H λb H1=>K (!b) H1
 |.and es,ρ,H,K=>cm T C es ρ H K
 |.or es,ρ,H,K=>vB T C es ρ H K
def cm(T:Tb)(C:CT):xo->aE->Hp->(Bool->Hp->Prop)->Prop
 |.nil,_,H,K=>K true H
 |.cons e es,ρ,H,K=>vw T C e ρ H λb H1=>gf b (cm T C es ρ H1 K) (K false H1)
def vB(T:Tb)(C:CT):xo->aE->Hp->(Bool->Hp->Prop)->Prop
 |.nil,_,H,K=>K false H
 |.cons e es,ρ,H,K=>vw T C e ρ H λb H1=>gf b (K true H1) (vB T C es ρ H1 K)
def rE(T:Tb)(C:CT):rC->aE->Hp->(V->Hp->Prop)->Prop
 |.nil,_,_,_=>False
 |.cons e .nil,ρ,H,K=>bI T C e ρ H K
 |.cons e es,ρ,H,K=>bI T C e ρ H λv H1=>gh v λb=>gf b (rE T C es ρ H1 K) (K v H1)
def vC(T:Tb)(C:CT):rC->aE->Hp->(V->Hp->Prop)->Prop
 |.nil,_,_,_=>False
 |.cons e .nil,ρ,H,K=>bI T C e ρ H K
 |.cons e es,ρ,H,K=>bI T C e ρ H λv H1=>gh v λb=>gf b (K v H1) (vC T C es ρ H1 K)
def HL(T:Tb)(C:CT):It->aE->Hp->(List V->(Hp->Prop)->Hp->Prop)->Prop
 |.seq e,ρ,H,K=>bI T C e ρ H λv H1=>pO H1 v λxs ck=>K xs ck H1
 |.rng e,ρ,H,K=>bI T C e ρ H λv H1=>match v with
  |.int n=>av (0<=n/\n<=10000000) (K (t9 n) (λ_=>True) H1)
  |_=>False
 |.enm e,ρ,H,K=>bI T C e ρ H λv H1=>pP H1 v λxs ck=>K (cZ 0 xs) ck H1
 |.zip a b,ρ,H,K=>bI T C a ρ H λva H1=>bI T C b ρ H1 λvb H2=>lm H2 va λxs ck=>lm H2 vb λys ck'=>av (xs.length=ys.length) (K (jh xs ys) (λH'=>ck H'/\ck' H') H2)
end
def vD(ρ:aE):List Nat->List V->Option aE
 | [],[]=>some ρ
 |i::is,v::vs=>vD (ρ.set i (some v)) is vs
 |_,_=>Option.none
def lp(T:Tb)(H:Hp)(f:Nat)(v:V):V->(Hp->Prop)->Prop
 |.ref r,K=>bL H r λo=>match o with
  |.inst c fs=>aS (T.slot c f) λk=>av (k<fs.length) (K (H.set r (.inst c (fs.set k (some v)))))
  |_=>False
 |_,_=>False
def kl(H:Hp)(i v:V):V->(Hp->Prop)->Prop
 |.ref r,K=>bL H r λo=>match o,i with
  |.ad xs,.int i=>aS (oA xs.length i) λk=>K (H.set r (.ad (xs.set k v)))
  |.dct ks,.int i=>av (i.natAbs<2^60/\sizeOk (ks.length+1)) (K (H.set r (.dct (dn i v ks))))
  |_,_=>False
 |_,_=>False
mutual
def Py(T:Tb)(C:CT):St->aE->Hp->(Fl->aE->Hp->Prop)->Prop
 |.asg i e,ρ,H,K=>bI T C e ρ H λv H1=>K .next (ρ.set i (some v)) H1
 |.asgT is e,ρ,H,K=>bI T C e ρ H λv H1=>match v with
  |.ao vs=>aS (vD ρ is vs) λρ1=>K .next ρ1 H1
  |_=>False
 |.sAt a f e,ρ,H,K=>bI T C e ρ H λv H1=>bI T C a ρ H1 λva H2=>lp T H2 f v va λH3=>K .next ρ H3
 |.sIx a i e,ρ,H,K=>bI T C e ρ H λv H1=>bI T C a ρ H1 λva H2=>bI T C i ρ H2 λvi H3=>kl H3 vi v va λH4=>K .next ρ H4
 |.aug i o e,ρ,H,K=>match bE ρ i with
  |some u=>bI T C e ρ H λv H1=>bS u v λx y=>jf o x y λz=>K .next (ρ.set i (some z)) H1
  |Option.none=>False
 |.aAt a f o e,ρ,H,K=>bI T C a ρ H λva H1=>m8 T H1 f va λu=>bI T C e ρ H1 λv H2=>bS u v λx y=>jf o x y λz=>lp T H2 f z va λH3=>K .next ρ H3
 |.aIx a i o e,ρ,H,K=>bI T C a ρ H λva H1=>bI T C i ρ H1 λvi H2=>m7 H2 va vi λu=>bI T C e ρ H2 λv H3=>bS u v λx y=>jf o x y λz=>kl H3 vi z va λH4=>K .next ρ H4
 |.ex e,ρ,H,K=>bI T C e ρ H λ_ H1=>K .next ρ H1
 |.ite c t f,ρ,H,K=>vw T C c ρ H λb H1=>gf b (aM T C t ρ H1 K) (aM T C f ρ H1 K)
 |.whl c b,ρ,H,K=>zj (λρ1 H1=>vw T C c ρ1 H1) (λρ1 H1=>aM T C b ρ1 H1) ρ H K
 |.for tg it b,ρ,H,K=>HL T C it ρ H λxs ck H1=>ed (λρ1=>ec ρ1 tg) (λρ1 H2=>aM T C b ρ1 H2) ck xs ρ H1 K
 |.ret e,ρ,H,K=>bI T C e ρ H λv H1=>K (.ret v) ρ H1
 |.brk,ρ,H,K=>K .brk ρ H
 |.cont,ρ,H,K=>K .cont ρ H
 |.dead,_,_,_=>False
def aM(T:Tb)(C:CT):aU->aE->Hp->(Fl->aE->Hp->Prop)->Prop
 |.nil,ρ,H,K=>K .next ρ H
 |.cons s r,ρ,H,K=>Py T C s ρ H λfl ρ1 H1=>match fl with
  |.next=>aM T C r ρ1 H1 K
  |.brk=>K .brk ρ1 H1
  |.cont=>K .cont ρ1 H1
  |.ret v=>K (.ret v) ρ1 H1
end
def pQ(pure:Bool)(H0:Hp)(v:V)(H:Hp)(K:V->Hp->Prop):Prop:=match pure with
 |true=>mN H0.length H v λu=>av (H.take H0.length=H0) (K u H0)
 |false=>K v H
def fL(pure:Bool)(H0:Hp)(K:V->Hp->Prop):Fl->aE->Hp->Prop:=λfl _ H1=>match fl with
 |.next=>pQ pure H0 .none H1 K
 |.ret v=>pQ pure H0 v H1 K
 |.brk=>False
 |.cont=>False
def pR(g:Fn)(vs:List V):aE:=(vs++g.dfl.drop (g.dfl.length+vs.length-g.np)).map some++List.replicate (g.nl-g.np) Option.none
def A7(T:Tb)(C:CT)(g:Fn)(vs:List V)(H:Hp)(K:V->Hp->Prop):Prop:=
 av (vs.length<=g.np/\g.np<=vs.length+g.dfl.length) (aM T C g.body (pR g vs) H (fL g.pure H K))
def HM(C:CT)(g:Cl)(c:Nat)(vs:List V)(H:Hp)(K:V->Hp->Prop):Prop:=
 C g.init (.ref H.length::vs) (H++[.inst c (List.replicate g.nf Option.none)]) λu H1=>match u with
  |.none=>pQ g.frz H (.ref H.length) H1 K
  |_=>False
def aG(T:Tb):Nat->CT
 |0,_,_,_,_=>False
 |d+1,f,vs,H,K=>match T.fn f with
  |some g=>A7 T (aG T d) g vs H K
  |Option.none=>match T.cl (f-1000)with
   |some g=>av (1000<=f) (HM (aG T d) g (f-1000) vs H K)
   |Option.none=>False
end Mine
end
noncomputable section
open PySem PySem.W PySem.Calls PyProof.Rows
set_option maxRecDepth 100000
namespace Mine
structure Nm where
 anm:Nat->Str
 mnm:Nat->Str
 gnm:Nat->Str
 gok:Nat->Bool
 fnm:Nat->Str
 cnm:Nat->Str
 fa:Nat->Addr
 ca:Nat->Addr
abbrev Im:=Addr->Option Obj
abbrev Pi:=List (Addr×Addr)
abbrev fM(xs:List Value)(n:Nat):Obj:={cls:=.type "list",dict:=none,data:=.seq xs.toArray n,slots:= #[]}
abbrev kR(xs:List Value)(n:Nat):Obj:={cls:=.type "tuple",dict:=none,data:=.seq xs.toArray n,slots:= #[]}
abbrev pS(es:List DictEntry)(n:Nat):Obj:={cls:=.type "dict",dict:=none,data:=.dict es.toArray n,slots:= #[]}
def cR(T:Tb)(N:Nm)(c:Nat)(es:List DictEntry)(vs:List (Option Value)):Prop:=
 (∀f k,T.slot c f=some k->∃v,vs[k]?=some v/\getL (N.anm f) es=some v)/\
 (∀e∈es,∃f t,(T.slot c f).isSome=true/\e.key= .str (N.anm f) t)/\es.length<=vs.countP (·.isSome)
structure Cx where
 T:Tb
 N:Nm
 prog:Program
 w:World
 K:Frag
 os:OsState
abbrev A8(C:Cx)(o:Obj)(kvs:List (Int×Value)):Prop:=o.IsDictOf (intKind C.prog C.w) kvs
mutual
inductive RV(C:Cx)(I:Im)(π:Pi):Value->V->Prop where
 |none:RV C I π .none .none
 |bool (b):RV C I π (.bool b) (.bool b)
 |int (i t):RV C I π (.int i t) (.int i)
 |chr (c t):RV C I π (.str ⟨#[c]⟩ t) (.chr c)
 |ao {a vs n xs}:I a=some (kR vs n)->vs.length<=10000000->bx C I π vs xs->RV C I π (.ref a) (.ao xs)
 |ad {a vs n xs}:I a=some (fM vs n)->vs.length<=10000000->bx C I π vs xs->RV C I π (.ref a) (.ad xs)
 |obj {a d c es n vs fs}:I a=some (instObj (C.N.ca c) d)->I d=some (pS es n)->cR C.T C.N c es (vs.map some)->vs.length<=500->bx C I π vs fs->RV C I π (.ref a) (.obj c fs)
 |dct {a o kvs ks}:I a=some o->A8 C o kvs->(a==sysModules)=false->kvs.length<=10000000->eg C I π kvs ks->RV C I π (.ref a) (.dct ks)
 |ref {r a d}:π[r]?=some (a,d)->RV C I π (.ref a) (.ref r)
inductive bx(C:Cx)(I:Im)(π:Pi):List Value->List V->Prop where
 |nil:bx C I π [] []
 |cons {v vs x xs}:RV C I π v x->bx C I π vs xs->bx C I π (v::vs) (x::xs)
inductive eg(C:Cx)(I:Im)(π:Pi):List (Int×Value)->List (Int×V)->Prop where
 |nil:eg C I π [] []
 |cons {es ks k v x}:RV C I π v x->eg C I π es ks->eg C I π ((k,v)::es) ((k,x)::ks)
end
theorem ta{π π':Pi}(hp:∃q,π++q=π'){r:Nat}{p:Addr×Addr}(h:π[r]?=some p):π'[r]?=some p:=by
 obtain⟨q,rfl⟩:=hp;rw [List.getElem?_append_left]
 ·exact h
 ·exact(List.getElem?_eq_some_iff.mp h).1
section
variable {C:Cx}{I I':Im}{π π':Pi}
mutual
theorem RV.mono(hI:∀a o,I a=some o->I' a=some o)(hp:∃q,π++q=π'):∀{v x},RV C I π v x->RV C I' π' v x
 |_,_,.none=>.none
 |_,_,.bool b=>.bool b
 |_,_,.int i t=>.int i t
 |_,_,.chr c t=>.chr c t
 |_,_,.ao h l r=>.ao (hI _ _ h) l (bx.mono hI hp r)
 |_,_,.ad h l r=>.ad (hI _ _ h) l (bx.mono hI hp r)
 |_,_,.obj h h' f l r=>.obj (hI _ _ h) (hI _ _ h') f l (bx.mono hI hp r)
 |_,_,.dct h d y l r=>.dct (hI _ _ h) d y l (eg.mono hI hp r)
 |_,_,.ref h=>.ref (ta hp h)
theorem bx.mono(hI:∀a o,I a=some o->I' a=some o)(hp:∃q,π++q=π'):∀{v x},bx C I π v x->bx C I' π' v x
 |_,_,.nil=>.nil
 |_,_,.cons h r=>.cons (RV.mono hI hp h) (bx.mono hI hp r)
theorem eg.mono(hI:∀a o,I a=some o->I' a=some o)(hp:∃q,π++q=π'):∀{v x},eg C I π v x->eg C I' π' v x
 |_,_,.nil=>.nil
 |_,_,.cons r rs=>.cons (RV.mono hI hp r) (eg.mono hI hp rs)
end
theorem bx.length{vs xs}:bx C I π vs xs->vs.length=xs.length:=by
 intro h;induction vs generalizing xs with
 |nil=>cases h;rfl
 |cons v vs ih=>cases h with|cons h r=>simp [ih r]
theorem bx.append{vs xs ws ys}:bx C I π vs xs->bx C I π ws ys->bx C I π (vs++ws) (xs++ys):=by
 intro h g;induction vs generalizing xs with
 |nil=>cases h;exact g
 |cons v vs ih=>cases h with|cons h r=>exact .cons h (ih r)
theorem bx.get{vs xs}(h:bx C I π vs xs){i:Nat}{x:V}(e:xs[i]?=some x):∃v,vs[i]?=some v/\RV C I π v x:=by
 induction vs generalizing xs i with
 |nil=>cases h;simp at e
 |cons v vs ih=>
  cases h with
  |cons h r=>
   cases i with
   |zero=>simp at e;subst e;exact⟨v,rfl,h⟩
   |succ i=>simp at e;simpa using ih r e
theorem bx.get'{vs xs}(h:bx C I π vs xs){i:Nat}{v:Value}(e:vs[i]?=some v):∃x,xs[i]?=some x/\RV C I π v x:=by
 induction vs generalizing xs i with
 |nil=>simp at e
 |cons v vs ih=>
  cases h with
  |cons h r=>
   cases i with
   |zero=>simp at e;subst e;exact⟨_,rfl,h⟩
   |succ i=>simp at e;simpa using ih r e
theorem bx.take{vs xs}(h:bx C I π vs xs)(n:Nat):bx C I π (vs.take n) (xs.take n):=by
 induction vs generalizing xs n with
 |nil=>cases h;simp;exact .nil
 |cons v vs ih=>
  cases h with
  |cons h r=>cases n with
   |zero=>exact .nil
   |succ n=>exact .cons h (ih r n)
theorem bx.drop{vs xs}(h:bx C I π vs xs)(n:Nat):bx C I π (vs.drop n) (xs.drop n):=by
 induction vs generalizing xs n with
 |nil=>cases h;simp;exact .nil
 |cons v vs ih=>
  cases h with
  |cons h r=>cases n with
   |zero=>exact .cons h r
   |succ n=>exact ih r n
theorem bx.set{vs xs}(h:bx C I π vs xs){v x}(g:RV C I π v x)(n:Nat):bx C I π (vs.set n v) (xs.set n x):=by
 induction vs generalizing xs n with
 |nil=>cases h;simp;exact .nil
 |cons v vs ih=>
  cases h with
  |cons h r=>cases n with
   |zero=>exact .cons g r
   |succ n=>exact .cons h (ih r n)
end
def ua(C:Cx)(I:Im)(π:Pi)(h:Heap)(p:Addr×Addr):CO->Prop
 |.dead=>True
 |.ad xs=>p.1=p.2/\∃vs n,h.get? p.2=some (fM vs n)/\bx C I π vs xs/\vs.length<=10000000
 |.dct ks=>p.1=p.2/\∃kvs,h.DictOf (intKind C.prog C.w) p.2 kvs/\(p.2==sysModules)=false/\eg C I π kvs ks/\kvs.length<=10000000
 |.inst c fs=>I p.1=some (instObj (C.N.ca c) p.2)/\∃es n vs,h.get? p.2=some (pS es n)/\cR C.T C.N c es vs/\vs.length=fs.length/\vs.length<=500/\
   ∀k:Nat,match vs[k]?,fs[k]? with
    |some (some v),some (some x)=>RV C I π v x
    |some none,some none=>True
    |none,none=>True
    |_,_=>False
structure aK(C:Cx)(I:Im)(π:Pi)(H:Hp)(s:Shared):Prop where
 imm:∀a o,I a=some o->s.heap.get? a=some o
 kin:∀a o,C.K.lookup a=some o->I a=some o
 len:π.length=H.length
 obj:∀(i:Nat) (p:Addr×Addr) (co:CO),π[i]?=some p->H[i]?=some co->ua C I π s.heap p co
 apart:(π.map (·.2)).Nodup
 sep:∀p∈π,I p.2=none/\∃o,s.heap.get? p.2=some o
 gens:s.gens= #[]
 os:s.os=C.os
structure bz(P:List Addr)(I:Im)(π:Pi)(s:Shared)(I':Im)(π':Pi)(s':Shared):Prop where
 imm:∀a o,I a=some o->I' a=some o
 pre:∃q,π++q=π'/\∀p∈q,s.heap.get? p.2=none
 stay:∀b o,s.heap.get? b=some o->b∉π.map (·.2)->b∉P->s'.heap.get? b=some o
 has:∀b o,s.heap.get? b=some o->∃o',s'.heap.get? b=some o'
 inew:∀a o,I' a=some o->I a=some o\/s.heap.get? a=none
theorem bz.refl{P I π s}:bz P I π s I π s:=⟨λ_ _ h=>h,⟨[],by simp,λ_ h=>(nomatch h)⟩,λ_ _ h _ _=>h,λ_ o h=>⟨o,h⟩,λ_ _ h=>.inl h⟩
theorem bz.new{P I π s I' π' s'}(a:bz P I π s I' π' s'){b:Addr}(h:s'.heap.get? b=none):s.heap.get? b=none:=by
 cases e:s.heap.get? b with
 |none=>rfl
 |some o=>obtain⟨o',e'⟩:=a.has b o e;rw [h]at e';cases e'
theorem bz.trans{P I π s I' π' s' I'' π'' s''}(a:bz P I π s I' π' s')(b:bz P I' π' s' I'' π'' s''):bz P I π s I'' π'' s'':=by
 obtain⟨q,rfl,hq⟩:=a.pre;obtain⟨r,rfl,hr⟩:=b.pre;refine⟨λa' o h=>b.imm _ _ (a.imm _ _ h),⟨q++r,by simp,λp hp=>?_⟩,λb' o h h1 h2=>?_,λx o h=>let⟨o',h'⟩:=a.has x o h;b.has x o' h',λa' o h=>?_⟩
 ·rcases List.mem_append.mp hp with hp|hp
  ·exact hq p hp
  ·exact a.new (hr p hp)
 ·refine b.stay b' o (a.stay b' o h h1 h2) ?_ h2;rw [List.map_append,List.mem_append];rintro (h3|h3)
  ·exact h1 h3
  ·obtain⟨p,hp,rfl⟩:=List.mem_map.mp h3;rw [hq p hp]at h;cases h
 ·rcases b.inew a' o h with h|h
  ·exact a.inew a' o h
  ·exact .inr (a.new h)
theorem bz.weak{P Q I π s I' π' s'}(a:bz P I π s I' π' s')(h:∀x∈P,x∈Q):bz Q I π s I' π' s':=
 ⟨a.imm,a.pre,λb o e h1 h2=>a.stay b o e h1 λh3=>h2 (h _ h3),a.has,a.inew⟩
theorem bz.rv{C:Cx}{P I π s I' π' s'}(a:bz P I π s I' π' s'){v x}(h:RV C I π v x):RV C I' π' v x:=
 h.mono a.imm (let⟨q,e,_⟩:=a.pre;⟨q,e⟩)
theorem bz.rvs{C:Cx}{P I π s I' π' s'}(a:bz P I π s I' π' s'){v x}(h:bx C I π v x):bx C I' π' v x:=
 h.mono a.imm (let⟨q,e,_⟩:=a.pre;⟨q,e⟩)
def PE(C:Cx)(I:Im)(π:Pi)(s:Shared)(K:V->Hp->Prop)(v:Value)(s':Shared):Prop:=
 ∃I' π' x H',bz [] I π s I' π' s'/\aK C I' π' H' s'/\RV C I' π' v x/\K x H'
def xp(C:Cx)(I:Im)(π:Pi)(s:Shared)(K:List V->Hp->Prop)(vs:List Value)(s':Shared):Prop:=
 ∃I' π' xs H',bz [] I π s I' π' s'/\aK C I' π' H' s'/\bx C I' π' vs xs/\K xs H'
def PB(C:Cx)(I:Im)(π:Pi)(s:Shared)(K:Bool->Hp->Prop)(b:Bool)(s':Shared):Prop:=
 ∃I' π' H',bz [] I π s I' π' s'/\aK C I' π' H' s'/\K b H'
def PU(C:Cx)(I:Im)(π:Pi)(s:Shared)(K:Hp->Prop)(s':Shared):Prop:=
 ∃I' π' H',bz [] I π s I' π' s'/\aK C I' π' H' s'/\K H'
theorem PE.trans{C:Cx}{I I':Im}{π π':Pi}{s s' s'':Shared}{K:V->Hp->Prop}{v}(a:bz [] I π s I' π' s'):PE C I' π' s' K v s''->PE C I π s K v s'':=
 λ⟨I2,π2,x,H',e,i,r,k⟩=>⟨I2,π2,x,H',a.trans e,i,r,k⟩
theorem xp.trans{C:Cx}{I I':Im}{π π':Pi}{s s' s'':Shared}{K:List V->Hp->Prop}{v}(a:bz [] I π s I' π' s'):xp C I' π' s' K v s''->xp C I π s K v s'':=
 λ⟨I2,π2,x,H',e,i,r,k⟩=>⟨I2,π2,x,H',a.trans e,i,r,k⟩
theorem PB.trans{C:Cx}{I I':Im}{π π':Pi}{s s' s'':Shared}{K:Bool->Hp->Prop}{v}(a:bz [] I π s I' π' s'):PB C I' π' s' K v s''->PB C I π s K v s'':=
 λ⟨I2,π2,H',e,i,k⟩=>⟨I2,π2,H',a.trans e,i,k⟩
abbrev aH:Value->Shared->Prop:=λ_ _=>False
theorem aK.tok{C I π H s}(i:aK C I π H s)(t:Nat):aK C I π H {s with toks:=t}:=⟨i.imm,i.kin,i.len,i.obj,i.apart,i.sep,i.gens,i.os⟩
theorem bz.tok{P I π s}(t:Nat):bz P I π s I π {s with toks:=t}:=⟨λ_ _ h=>h,⟨[],by simp,λ_ h=>(nomatch h)⟩,λ_ _ h _ _=>h,λ_ o h=>⟨o,h⟩,λ_ _ h=>.inl h⟩
theorem PE.here{C:Cx}{I:Im}{π:Pi}{H:Hp}{s:Shared}{K:V->Hp->Prop}{v x}(i:aK C I π H s)(r:RV C I π v x)(k:K x H):PE C I π s K v s:=⟨I,π,x,H,.refl,i,r,k⟩
theorem PE.tok{C:Cx}{I:Im}{π:Pi}{H:Hp}{s:Shared}{K:V->Hp->Prop}{v x}(t:Nat)(i:aK C I π H s)(r:RV C I π v x)(k:K x H):PE C I π s K v {s with toks:=t}:=
 ⟨I,π,x,H,.tok t,i.tok t,r,k⟩
abbrev Xp:=PySem.Expr
abbrev Wa(C:Cx)(A:Around){α:Type}(t:Sem α)(Q:α->Shared->Prop)(E:Value->Shared->Prop)(s:Shared):Prop:=wpAny (model C.prog C.w) A t Q E s
variable {h h':Heap}{p pos apos:Pos}{t:Sem Value}{a:Addr}{I' I₀:Im}{π π' π₀:Pi}{P:List Addr}{s s' s₀:Shared}{C:Cx}{env:Env}{ρ:aE}{v u va vb vl vu it:Value}{Q:Value->Shared->Prop}{k' n f k tk x1 j:Nat}{fr:Bool}{vs first us dvals vals:List Value}{kvs:List (Int×Value)}{K' K1:V->Hp->Prop}{elts args ifs:List Xp}{Ks:List V->Hp->Prop}{items:Array Value}{ys:List V}{lo hi:Option Int}{value tgt elt iter:Xp}{ws:aE->Hp->(List V->Hp->Prop)->Prop}{ck:Hp->Prop}{name:Str}{id:String}{fd:FuncData}{is:List Nat}{scope:Scope}{el wl wr wx w' wo:aE->Hp->(V->Hp->Prop)->Prop}{ts wt wa:aE->Hp->(Bool->Hp->Prop)->Prop}{tg:Tg}{G:(V->Hp->Prop)->List V->Hp->Prop}{wi:aE->Hp->(List V->(Hp->Prop)->Hp->Prop)->Prop}
section
variable {C:Cx}{I I':Im}{π π':Pi}
theorem ua.mono{p:Addr×Addr}{co:CO}(hI:∀a o,I a=some o->I' a=some o)(hp:∃q,π++q=π')(hh:∀o,h.get? p.2=some o->h'.get? p.2=some o)(x:ua C I π h p co):ua C I' π' h' p co:=by
 cases co with
 |dead=>trivial
 |ad xs=>obtain⟨e,vs,n,h1,h2,h3⟩:=x;exact⟨e,vs,n,hh _ h1,h2.mono hI hp,h3⟩
 |dct xs=>obtain⟨e,kvs,⟨o,es,ep,ho,r⟩,h2,h3,h4⟩:=x;exact⟨e,kvs,⟨o,es,ep,hh _ ho,r⟩,h2,h3.mono hI hp,h4⟩
 |inst c fs=>
  obtain⟨e,es,n,vs,h1,h2,h3,h4,h5⟩:=x;refine⟨hI _ _ e,es,n,vs,hh _ h1,h2,h3,h4,λk=>?_⟩;have:=h5 k
  revert this
  cases vs[k]? with
  |none=>cases fs[k]?<;>exactλh=>h
  |some v=>cases v with
   |none=>cases fs[k]? with
    |none=>exactλh=>h
    |some x=>cases x<;>exactλh=>h
   |some v=>cases fs[k]? with
    |none=>exactλh=>h
    |some x=>cases x with
     |none=>exactλh=>h
     |some x=>exactλh=>h.mono hI hp
def bO(I:Im)(π:Pi)(a:Addr):Prop:=I a=none/\a∉π.map (·.2)
theorem aK.fresh{C I π H s a}(i:aK C I π H s)(h:s.heap.get? a=none):bO I π a:=by
 constructor
 ·cases e:I a with
  |none=>rfl
  |some o=>rw [i.imm _ _ e]at h;cases h
 ·intro m;obtain⟨p,hp,rfl⟩:=List.mem_map.mp m;obtain⟨-,o,e⟩:=i.sep p hp;rw [e]at h;cases h
theorem aK.grow{C I π H s}{t:Nat}(i:aK C I π H s)(P:List Addr)(hP:∀a∈P,bO I π a/\∀o,s.heap.get? a=some o->∃o',h'.get? a=some o')(keep:∀b o,s.heap.get? b=some o->b∉P->h'.get? b=some o):
  bz P I π s I π {s with heap:=h',toks:=t}/\aK C I π H {s with heap:=h',toks:=t}:=by
 refine⟨⟨λ_ _ h=>h,⟨[],by simp,λ_ h=>(nomatch h)⟩,λb o h h1 h2=>keep b o h h2,λb o h=>?_,λ_ _ h=>.inl h⟩,
  ⟨λa o h=>keep a o (i.imm a o h) λm=>?_,i.kin,i.len,λk p co hp hc=>(i.obj k p co hp hc).mono (λ_ _ h=>h) ⟨[],by simp⟩ λo ho=>keep _ o ho λm=>?_,i.apart,λp hp=>⟨(i.sep p hp).1,?_⟩,i.gens,i.os⟩⟩
 ·by_cases m:b∈P
  ·exact(hP b m).2 o h
  ·exact⟨o,keep b o h m⟩
 ·rw [(hP a m).1.1]at h;cases h
 ·exact(hP _ m).1.2 (List.mem_map_of_mem (List.mem_of_getElem? hp))
 ·obtain⟨o,e⟩:=(i.sep p hp).2;exact⟨o,keep _ o e λm=>(hP _ m).1.2 (List.mem_map_of_mem hp)⟩
theorem bz.soft{P Q I π s I' π' s' I'' π'' s''}(a:bz P I π s I' π' s')(b:bz Q I' π' s' I'' π'' s'')(h:∀x∈Q,s.heap.get? x=none\/x∈P):bz P I π s I'' π'' s'':=by
 have c:=(a.weak (Q:=P++Q) λx h=>List.mem_append_left _ h).trans (b.weak (Q:=P++Q) λx h=>List.mem_append_right _ h);refine⟨c.imm,c.pre,λb o e h1 h2=>c.stay b o e h1 λm=>?_,c.has,c.inew⟩;rcases List.mem_append.mp m with m|m
 ·exact h2 m
 ·rcases h _ m with q|q
  ·rw [q]at e;cases e
  ·exact h2 q
theorem bz.adopt{P s₀ I₀ π₀ I π H s a o}(e:bz P I₀ π₀ s₀ I π s)(i:aK C I π H s)(h0:s₀.heap.get? a=none)(ha:s.heap.get? a=some o)(f:bO I π a):
  let I':Im:=λb=>if b=a then some o else I b
  bz P I₀ π₀ s₀ I' π s/\aK C I' π H s/\I' a=some o:=by
 intro I';have hI:∀b o',I b=some o'->I' b=some o':=λb o' h=>by
  show(if b=a then some o else I b)=_;rw [if_neg]
  ·exact h
  ·rintro rfl;rw [f.1]at h;cases h
 have inv:∀b o',I' b=some o'->I b=some o'\/(b=a/\o'=o):=λb o' h=>by
  by_cases q:b=a
  ·have h':(if b=a then some o else I b)=some o':=h;rw [if_pos q]at h';cases h';exact .inr ⟨q,rfl⟩
  ·have h':(if b=a then some o else I b)=some o':=h;rw [if_neg q]at h';exact .inl h'
 refine⟨⟨λb o' h=>hI _ _ (e.imm _ _ h),e.pre,e.stay,e.has,λb o' h=>?_⟩,⟨λb o' h=>?_,λb o' h=>hI _ _ (i.kin _ _ h),i.len,λk p co hp hc=>(i.obj k p co hp hc).mono hI ⟨[],by simp⟩ λo ho=>ho,i.apart,λp hp=>⟨?_,(i.sep p hp).2⟩,i.gens,i.os⟩,if_pos rfl⟩
 ·rcases inv b o' h with h|⟨rfl,-⟩
  ·exact e.inew _ _ h
  ·exact .inr h0
 ·rcases inv b o' h with h|⟨rfl,rfl⟩
  ·exact i.imm _ _ h
  ·exact ha
 ·show(if p.2=a then some o else I p.2)=none;rw [if_neg λq:p.2=a=>f.2 (by rw [←q];exact List.mem_map_of_mem hp)];exact(i.sep p hp).1
theorem bz.adoptM{P s₀ I₀ π₀ I π H s co}{p:Addr×Addr}(e:bz P I₀ π₀ s₀ I π s)(i:aK C I π H s)(h0:s₀.heap.get? p.2=none)(hl:∃o,s.heap.get? p.2=some o)(f:bO I π p.2)(hc:ua C I (π++[p]) s.heap p co):
  bz P I₀ π₀ s₀ I (π++[p]) s/\aK C I (π++[p]) (H++[co]) s:=by
 obtain⟨q,rfl,hq⟩:=e.pre;refine⟨⟨e.imm,⟨q++[p],by simp,λr hr=>?_⟩,e.stay,e.has,e.inew⟩,⟨i.imm,i.kin,by simp [←i.len,Nat.add_assoc],λk r c hr hc'=>?_,?_,λr hr=>?_,i.gens,i.os⟩⟩
 ·rcases List.mem_append.mp hr with hr|hr
  ·exact hq r hr
  ·rw [List.mem_singleton.mp hr];exact h0
 ·by_cases hi:k<(π₀++q).length
  ·rw [List.getElem?_append_left hi]at hr;rw [List.getElem?_append_left (i.len▸hi)]at hc';exact(i.obj k r c hr hc').mono (λ_ _ h=>h) ⟨[p],rfl⟩ λo ho=>ho
  ·rw [List.getElem?_append_right (Nat.not_lt.mp hi)]at hr;rw [List.getElem?_append_right (by rw [←i.len];exact Nat.not_lt.mp hi),←i.len]at hc'
   cases w:k-(π₀++q).length with
   |zero=>rw [w]at hr hc';simp at hr hc';subst hr hc';exact hc
   |succ n=>rw [w]at hr;simp at hr
 ·rw [List.map_append,List.nodup_append];refine⟨i.apart,by simp,λa ha b hb e=>?_⟩;simp at hb;subst hb;exact f.2 (e▸ha)
 ·rcases List.mem_append.mp hr with hr|hr
  ·exact i.sep r hr
  ·rw [List.mem_singleton.mp hr];exact⟨f.1,hl⟩
theorem bz.toks{P I π s I' π' s'}(e:bz P I π s I' π' s')(t:Nat):bz P I π s I' π' {s' with toks:=t}:=⟨e.imm,e.pre,e.stay,e.has,e.inew⟩
end
structure LR(C:Cx)(env:Env)(nm:List Str)(I:Im)(π:Pi)(ρ:aE)(s:Shared):Prop where
 kind:env.scope.kind= .function
 glob:env.globals=mainGlobals
 bltn:env.builtins=builtinsNs
 ns:∃m,s.heap.Ns env.locals m/\∀(i:Nat) (x:Str) (v:V),nm[i]?=some x->bE ρ i=some v->env.kindOf x=some .local->∃u,m x=some u/\RV C I π u v
 cells:∀(i:Nat) (x:Str),nm[i]?=some x->(env.kindOf x=some .cell\/env.kindOf x=some .free)->∃c cv,env.cells.lookup x=some c/\s.heap.IsCell c cv/\∀v,bE ρ i=some v->∃u,cv=some u/\RV C I π u v
 own:∀a∈env.locals::env.cells.map (·.2),(∃o,s.heap.get? a=some o)/\bO I π a
 apart:env.locals∉env.cells.map (·.2)/\env.cells.Pairwise λx y=>x.2≠y.2
theorem eW{I:Im}(e:bz P I π s I' π' s')(h:(∃o,s.heap.get? a=some o)/\bO I π a):(∃o,s'.heap.get? a=some o)/\bO I' π' a:=by
 obtain⟨⟨o,h1⟩,h2,h3⟩:=h;obtain⟨q,rfl,hq⟩:=e.pre;refine⟨e.has a o h1,?_,?_⟩
 ·cases h:I' a with
  |none=>rfl
  |some o'=>
   rcases e.inew a o' h with h|h
   ·rw [h2]at h;cases h
   ·rw [h1]at h;cases h
 ·rw [List.map_append,List.mem_append];rintro (h|h)
  ·exact h3 h
  ·obtain⟨p,hp,rfl⟩:=List.mem_map.mp h;rw [hq p hp]at h1;cases h1
theorem LR.ext{nm:List Str}{I:Im}(L:LR C env nm I π ρ s)(e:bz [] I π s I' π' s'):LR C env nm I' π' ρ s':=by
 have keep:∀a∈env.locals::env.cells.map (·.2),∀o,s.heap.get? a=some o->s'.heap.get? a=some o:=λa ha o ho=>e.stay a o ho (L.own a ha).2.2 (by simp);refine⟨L.kind,L.glob,L.bltn,?_,λi x hx hk=>?_,λa ha=>eW e (L.own a ha),L.apart⟩
 ·obtain⟨m,⟨o,es,ep,ho,r⟩,h⟩:=L.ns;exact⟨m,⟨o,es,ep,keep _ (.head _) _ ho,r⟩,λi x v h1 h2 h3=>let⟨u,a,b⟩:=h i x v h1 h2 h3;⟨u,a,e.rv b⟩⟩
 ·obtain⟨c,cv,h1,⟨o,ho,hd⟩,h3⟩:=L.cells i x hx hk;exact⟨c,cv,h1,⟨o,keep c (.tail _ (List.mem_map_of_mem (f:=λx:Str×Addr=>x.2) (mem_of_lookup h1))) o ho,hd⟩,λv hv=>let⟨u,a,b⟩:=h3 v hv;⟨u,a,e.rv b⟩⟩
def xw(sc:Scope)(x:Str):Bool:=(match sc.names.lookup x with|some .local=>true|some .cell=>true|some .free=>true|_=>false)&& !(x==("__debug__":Str))&& !(x==("__classdict__":Str))
def jk(sc:Scope)(x:Str):Bool:=sc.names.lookup x==some .globalImplicit&& !(x==("__debug__":Str))
def eE(env:Env)(sc:Scope):Prop:=∀x,match sc.names.lookup x with
 |some .local=>env.kindOf x=some .local
 |some .cell=>env.kindOf x=some .cell\/env.kindOf x=some .free
 |some .free=>env.kindOf x=some .cell\/env.kindOf x=some .free
 |some .globalImplicit=>env.kindOf x=some .globalImplicit
 |_=>True
section
variable {C:Cx}{env:Env}{sc:Scope}{nm:List Str}{I:Im}{π:Pi}{ρ:aE}{H:Hp}{s:Shared}{A:Around}{K:V->Hp->Prop}
theorem A9{i:Nat}{x:Str}{v:V}(L:LR C env nm I π ρ s)(S:eE env sc)(i0:aK C I π H s)(hx:nm[i]?=some x)(hl:xw sc x=true)(hv:bE ρ i=some v)(k:K v H):
  Wa C A (PySem.eval (.Name x p) env) (PE C I π s K) aH s:=by
 simp only [xw,Bool.and_eq_true,Bool.not_eq_true']at hl;have hs:=S x;have cellCase:(env.kindOf x=some .cell\/env.kindOf x=some .free)->Wa C A (loadName env x) (PE C I π s K) aH s:=by
  intro h;obtain⟨c,cv,h1,h2,h3⟩:=L.cells i x hx h;obtain⟨u,rfl,hr⟩:=h3 v hv;rcases h with h|h
  ·exact wpAny_loadName_cell L.kind h h1 h2 (.here i0 hr k)
  ·exact wpAny_loadName_free L.kind h h1 h2 (.here i0 hr k) hl.2
 refine wpAny_Name ?_ hl.1.2
 cases hk:sc.names.lookup x with
 |none=>rw [hk]at hl;simp at hl
 |some kd=>
  rw [hk]at hs hl
  cases kd with
  | «local» =>
   obtain⟨m,hn,hm⟩:=L.ns;obtain⟨u,hu,hr⟩:=hm i x v hx hv hs;exact wpAny_loadName_local L.kind hs hn hu (.here i0 hr k)
  |cell=>exact cellCase hs
  |free=>exact cellCase hs
  |globalExplicit=>simp at hl
  |globalImplicit=>simp at hl
theorem oF{x:Str}(L:LR C env nm I π ρ s)(S:eE env sc)(i0:aK C I π H s)(hg:jk sc x=true)(hu:nsIn C.K mainGlobals x=some (some u))(q:Q u s):
  Wa C A (PySem.eval (.Name x p) env) Q aH s:=by
 simp only [jk,Bool.and_eq_true,Bool.not_eq_true',beq_iff_eq]at hg;have hs:=S x;rw [hg.1]at hs;refine Name_function_global L.kind hs ?_ hg.2;unfold loadGlobal;have X:C.K.In s.heap:=λa o e=>i0.imm _ _ (i0.kin _ _ e);refine wpAny_bind ((L.glob▸(looks_nsIn X hu):Looks _ _ (nsGet env.globals x) _).here ?_);exact wpAny_pure q
theorem fN{x:Str}(L:LR C env nm I π ρ s)(S:eE env sc)(i0:aK C I π H s)(hg:jk sc x=true)(hu:nsIn C.K mainGlobals x=some none)(hb:nsIn C.K builtinsNs x=some (some u))(q:Q u s):
  Wa C A (PySem.eval (.Name x p) env) Q aH s:=by
 simp only [jk,Bool.and_eq_true,Bool.not_eq_true',beq_iff_eq]at hg;have hs:=S x;rw [hg.1]at hs;refine Name_function_global L.kind hs ?_ hg.2;unfold loadGlobal;have X:C.K.In s.heap:=λa o e=>i0.imm _ _ (i0.kin _ _ e);refine wpAny_bind ((L.glob▸(looks_nsIn X hu):Looks _ _ (nsGet env.globals x) _).here ?_);refine wpAny_bind ((L.bltn▸(looks_nsIn X hb):Looks _ _ (nsGet env.builtins x) _).here ?_);exact wpAny_pure q
theorem Pz{i:Int}(i0:aK C I π H s)(k:K (.int i) H):Wa C A (PySem.eval (.Constant (.int i) k' p) env) (PE C I π s K) aH s:=
 wpAny_Constant_int (.tok _ i0 (.int _ _) k)
theorem PA{c:Nat}(i0:aK C I π H s)(k:K (.chr c) H):Wa C A (PySem.eval (.Constant (.str ⟨#[c]⟩) k' p) env) (PE C I π s K) aH s:=
 wpAny_mkText (.tok _ i0 (.chr _ _) k)
theorem PC(i0:aK C I π H s)(k:K .none H):Wa C A (PySem.eval (.Constant .none k' p) env) (PE C I π s K) aH s:=
 wpAny_pure (.here i0 .none k)
theorem PD{b:Bool}(i0:aK C I π H s)(k:K (.bool b) H):Wa C A (PySem.eval (.Constant (.bool b) k' p) env) (PE C I π s K) aH s:=
 wpAny_pure (.here i0 (.bool _) k)
end
section
variable {C:Cx}{env:Env}{sc:Scope}{nm:List Str}{I I':Im}{π π':Pi}{ρ:aE}{H:Hp}{s s':Shared}{A:Around}{K:V->Hp->Prop}
theorem ce{o:Obj}(hf:o.isFreed=false):(h.push o).get? h.objs.size=some o:=Heap.get?_push_size _ hf
theorem aX(h:Heap):h.get? h.objs.size=none:=by
 cases e:h.get? h.objs.size with
 |none=>rfl
 |some o=>exact absurd (Heap.lt_size e) (Nat.lt_irrefl _)
theorem size_push(h:Heap)(o:Obj):h.objs.size<(h.push o).objs.size:=by rw [Heap.size_push];exact Nat.lt_succ_self _
theorem aK.push{t:Nat}(i0:aK C I π H s)(o:Obj)(hf:o.isFreed=false):bz [] I π s I π {s with heap:=s.heap.push o,toks:=t}/\aK C I π H {s with heap:=s.heap.push o,toks:=t}/\bO I π s.heap.objs.size:=
 let⟨e,i⟩:=i0.grow (t:=t) (h':=s.heap.push o) [] (λ_ h=>(nomatch h)) (λb o h _=>Heap.get?_push_of_some _ h)
 ⟨e,i,i0.fresh (aX _)⟩
theorem pT{xs:List V}(e:bz P I₀ π₀ s₀ I π s)(i:aK C I π H s)(h0:s₀.heap.get? a=none)(ha:s.heap.get? a=some (fM vs n))(f:bO I π a)(r:bx C I π vs xs)(hz:vs.length<=10000000)(k:dE fr xs H K):
  ∃I' π' x H',bz P I₀ π₀ s₀ I' π' s/\aK C I' π' H' s/\RV C I' π' (.ref a) x/\K x H'/\∀b,b≠a->bO I π b->bO I' π' b:=by
 cases fr with
 |true=>
  obtain⟨e1,i1,h1⟩:=e.adopt i h0 ha f;exact⟨_,π,.ad xs,H,e1,i1,.ad h1 hz (r.mono (λb o h=>by
   show(if b=a then _ else I b)=_;rw [if_neg]
   ·exact h
   ·rintro rfl;rw [f.1]at h;cases h) ⟨[],by simp⟩),k,λb hb hf=>⟨by show(if b=a then _ else I b)=none;rw [if_neg hb];exact hf.1,hf.2⟩⟩
 |false=>
  obtain⟨e1,i1⟩:=e.adoptM (p:=(a,a)) (co:=.ad xs) i h0 ⟨_,ha⟩ f ⟨rfl,vs,n,ha,r.mono (λ_ _ h=>h) ⟨_,rfl⟩,hz⟩;exact⟨I,_,.ref H.length,_,e1,i1,.ref (d:=a) (by rw [List.getElem?_append_right (Nat.le_of_eq i.len),i.len];simp),k,λb hb hf=>⟨hf.1,λm=>by
   rw [List.map_append,List.mem_append]at m;rcases m with m|m
   ·exact hf.2 m
   ·exact hb (List.mem_singleton.mp m)⟩⟩
theorem tc{xs:List V}(e:bz P I₀ π₀ s₀ I π s)(i:aK C I π H s)(h0:s₀.heap.get? a=none)(ha:s.heap.get? a=some (fM vs n))(f:bO I π a)(r:bx C I π vs xs)(hz:vs.length<=10000000)(k:dE fr xs H K):
  ∃I' π' x H',bz P I₀ π₀ s₀ I' π' s/\aK C I' π' H' s/\RV C I' π' (.ref a) x/\K x H':=
 let⟨I',π',x,H',a1,a2,a3,a4,_⟩:=pT e i h0 ha f r hz k
 ⟨I',π',x,H',a1,a2,a3,a4⟩
theorem pU{ks:List (Int×V)}(e:bz P I₀ π₀ s₀ I π s)(i:aK C I π H s)(h0:s₀.heap.get? a=none)(ha:s.heap.DictOf (intKind C.prog C.w) a kvs)(hm:(a==sysModules)=false)(f:bO I π a)(r:eg C I π kvs ks)(hz:kvs.length<=10000000)(k:sZ fr ks H K):
  ∃I' π' x H',bz P I₀ π₀ s₀ I' π' s/\aK C I' π' H' s/\RV C I' π' (.ref a) x/\K x H':=by
 obtain⟨o,ho,hd⟩:=Heap.dictOf_iff.mp ha
 cases fr with
 |true=>
  obtain⟨e1,i1,h1⟩:=e.adopt i h0 ho f;exact⟨_,π,.dct ks,H,e1,i1,.dct h1 hd hm hz (r.mono (λb o h=>by
   show(if b=a then _ else I b)=_;rw [if_neg]
   ·exact h
   ·rintro rfl;rw [f.1]at h;cases h) ⟨[],by simp⟩),k⟩
 |false=>
  obtain⟨e1,i1⟩:=e.adoptM (p:=(a,a)) (co:=.dct ks) i h0 ⟨_,ho⟩ f ⟨rfl,kvs,ha,hm,r.mono (λ_ _ h=>h) ⟨_,rfl⟩,hz⟩;exact⟨I,_,.ref H.length,_,e1,i1,.ref (d:=a) (by rw [List.getElem?_append_right (Nat.le_of_eq i.len),i.len];simp),k⟩
theorem gX{xs:List V}{t:Nat}(i0:aK C I π H s)(r:bx C I π vs xs)(hz:vs.length<=10000000)(k:dE fr xs H K):
  PE C I π s K (.ref s.heap.objs.size) {s with heap:=s.heap.push (fM vs 0),toks:=t}:=
 let⟨e,i,f⟩:=i0.push (t:=t) (fM vs 0) rfl
 tc e i (aX _) (ce rfl) f r hz k
theorem fv{xs:List V}{t:Nat}(i0:aK C I π H s)(r:bx C I π vs xs)(hz:vs.length<=10000000)(k:K (.ao xs) H):
  PE C I π s K (.ref s.heap.objs.size) {s with heap:=s.heap.push (kR vs 0),toks:=t}:=by
 obtain⟨e,i,f⟩:=i0.push (t:=t) (kR vs 0) rfl;obtain⟨e1,i1,h1⟩:=e.adopt i (aX _) (ce rfl) f;exact⟨_,π,.ao xs,H,e1,i1,.ao h1 hz (e1.rvs r),k⟩
theorem Ie{f:Value->Sem Value}(h:Wa C A t (PE C I π s K') aH s)
  (g:∀I' π' v x H' s',bz [] I π s I' π' s'->aK C I' π' H' s'->RV C I' π' v x->K' x H'->Wa C A (f v) (PE C I' π' s' K) aH s'):Wa C A (t>>=f) (PE C I π s K) aH s:=
 wpAny_bind (wpAny_mono h (λv s' ⟨I',π',x,H',e,i,r,k⟩=>wpAny_mono (g I' π' v x H' s' e i r k) (λ_ _ q=>q.trans e) λ_ _ x=>x) λ_ _ x=>x)
theorem PE.next(h:Wa C A t (PE C I π s K') aH s)
  (g:∀I' π' v x H' s',bz [] I π s I' π' s'->aK C I' π' H' s'->RV C I' π' v x->K' x H'->Q v s'):Wa C A t Q aH s:=
 wpAny_mono h (λv s' ⟨I',π',x,H',e,i,r,k⟩=>g I' π' v x H' s' e i r k) λ_ _ x=>x
theorem xp.next{t:Sem (List Value)}{Q:List Value->Shared->Prop}{K':List V->Hp->Prop}(h:Wa C A t (xp C I π s K') aH s)
  (g:∀I' π' v x H' s',bz [] I π s I' π' s'->aK C I' π' H' s'->bx C I' π' v x->K' x H'->Q v s'):Wa C A t Q aH s:=
 wpAny_mono h (λv s' ⟨I',π',x,H',e,i,r,k⟩=>g I' π' v x H' s' e i r k) λ_ _ x=>x
theorem PB.next{t:Sem Bool}{Q:Bool->Shared->Prop}{K':Bool->Hp->Prop}(h:Wa C A t (PB C I π s K') aH s)
  (g:∀I' π' b H' s',bz [] I π s I' π' s'->aK C I' π' H' s'->K' b H'->Q b s'):Wa C A t Q aH s:=
 wpAny_mono h (λv s' ⟨I',π',H',e,i,k⟩=>g I' π' v H' s' e i k) λ_ _ x=>x
theorem PF(h:Wa C A (spliced (backTo pos (starEach elts env))) (xp C I π s Ks) aH s)
  (hz:∀I' π' vs xs H',bx C I' π' vs xs->Ks xs H'->K (.ao xs) H'/\vs.length<=10000000):Wa C A (PySem.eval (.Tuple elts k' pos) env) (PE C I π s K) aH s:=by
 refine Tuple_ (xp.next h λI' π' vs xs H' s' e i r k=>?_);obtain⟨k1,k2⟩:=hz _ _ _ _ _ r k;exact wpAny_newObj_type ((fv i r k2 k1).trans e) (by show vs.toArray.size<=sizeLine;rw [List.size_toArray];rw [sizeLine_eq];omega)
theorem PG(h:Wa C A (spliced (backTo pos (starEach elts env))) (xp C I π s Ks) aH s)
  (hz:∀I' π' vs xs H',bx C I' π' vs xs->Ks xs H'->dE fr xs H' K/\vs.length<=10000000):Wa C A (PySem.eval (.List elts pos) env) (PE C I π s K) aH s:=by
 refine List_ (xp.next h λI' π' vs xs H' s' e i r k=>?_);obtain⟨k1,k2⟩:=hz _ _ _ _ _ r k;exact wpAny_newObj_type ((gX i r k2 k1).trans e) (by show vs.toArray.size<=sizeLine;rw [List.size_toArray];rw [sizeLine_eq];omega)
end
structure dF(A:Around)(d:Nat):Prop where
 depth:A.depth+10*d+40<recursionLimit
 units:A.units+100*d+400<cLine
 handled:A.handled=none
structure m9(C:Cx)(c:Nat):Prop where
 ga:plainGet C.K (C.N.ca c) Str.empty=true
 hd:hasDictIn C.K (C.N.ca c)=true
 sa:findIn C.K (.ref (C.N.ca c)) "__setattr__"=some (some (.builtin "object.__setattr__"))
 over:plainOver C.K (C.N.ca c)=true
 fld:∀f k,C.T.slot c f=some k->∃attr,findIn C.K (.ref (C.N.ca c)) (C.N.anm f)=some attr/\noGet C.K attr=true/\takerIn C.K (C.N.ca c) (C.N.anm f)=some none
 own:∀f x,C.T.slot c f=none->C.T.own c f=some x->∃a,findIn C.K (.ref (C.N.ca c)) (C.N.anm f)=some (some a)/\specialIn C.K a "__get__"=some none/\handedIn a=true/\copiedNames.contains (C.N.anm f)=false/\
  (∀I π,RV C I π a x)/\∀f' k',C.T.slot c f'=some k'->C.N.anm f'≠C.N.anm f
 nms:∀f f' k k',C.T.slot c f=some k->C.T.slot c f'=some k'->(k=k'↔C.N.anm f=C.N.anm f')
structure xx(C:Cx)(c:Nat)(g:Cl):Prop where
 mks:makesIn C.K (C.N.ca c)=true
 init:findIn C.K (.ref (C.N.ca c)) "__init__"=some (some (.ref (C.N.fa g.init)))
 fn:typeIn C.K (.ref (C.N.fa g.init))=some (.type "function")
 isF:(C.T.fn g.init).isSome=true
 slots:∀f k,C.T.slot c f=some k->k<g.nf
 few:g.nf<=500
def bB:List (Str×Value):=[("len",.builtin "len"),("abs",.builtin "abs"),("sum",.builtin "sum"),("divmod",.builtin "divmod"),("max",.builtin "max"),("min",.builtin "min"),("isinstance",.builtin "isinstance"),("sorted",.builtin "sorted"),
 ("int",.type "int"),("bool",.type "bool"),("list",.type "list"),("tuple",.type "tuple"),("range",.type "range"),("enumerate",.type "enumerate"),("zip",.type "zip")]
def PH(C:Cx)(I:Im):Prop:=∀a o,C.K.lookup a=some o->I a=some o
structure eF(C:Cx):Prop where
 blt:∀p∈bB,nsIn C.K mainGlobals p.1=some none/\nsIn C.K builtinsNs p.1=some (some p.2)
 glo:∀n,C.N.gok n=true->∃u,nsIn C.K mainGlobals (C.N.gnm n)=some (some u)/\∀I π,PH C I->RV C I π u (C.T.gv n)
 fns:∀f,(C.T.fn f).isSome=true->C.N.fnm f≠Str.empty->nsIn C.K mainGlobals (C.N.fnm f)=some (some (.ref (C.N.fa f)))/\keepIn C.K (.ref (C.N.fa f))=true
 cla:∀c,(C.T.cl c).isSome=true->nsIn C.K mainGlobals (C.N.cnm c)=some (some (.ref (C.N.ca c)))/\keepIn C.K (.ref (C.N.ca c))=true
 mth:∀c m f,C.T.meth c m=some f->(C.T.fn f).isSome=true/\plainGet C.K (C.N.ca c) Str.empty=true/\findIn C.K (.ref (C.N.ca c)) (C.N.mnm m)=some (some (.ref (C.N.fa f)))/\typeIn C.K (.ref (C.N.fa f))=some (.type "function")/\keepIn C.K (.ref (C.N.fa f))=true/\
  ∀f' k',C.T.slot c f'=some k'->C.N.anm f'≠C.N.mnm m
 lim:∀h:Heap,C.K.In h->h.NoLimit
 big:∀h:Heap,C.K.In h->∃a o,sysModules<a/\h.get? a=some o
 mko:∀c g,C.T.cl c=some g->xx C c g
 cls:∀c f,((C.T.slot c f).isSome=true\/(C.T.own c f).isSome=true)->m9 C c
theorem aK.In{C I π H s}(i:aK C I π H s):C.K.In s.heap:=λa o e=>i.imm _ _ (i.kin _ _ e)
section
variable {C:Cx}{I:Im}{π:Pi}{H:Hp}{s:Shared}{A:Around}{K:V->Hp->Prop}{d:Nat}
theorem lq{x y:Int}(h:yK x y):IntMulOk x y:=by
 have two:(2:Nat)^60<2^64:=by decide
 rcases h with h|h
 ·exact .of_left (intBits_le (Nat.lt_trans h two))
 ·exact .of_right (intBits_le (Nat.lt_trans h two))
def lr:BO->Operator->Bool
 |.add,.Add=>true|.sub,.Sub=>true|.mul,.Mult=>true|.fdv,.FloorDiv=>true|.mod,.Mod=>true|.pow,.Pow=>true
 |_,_=>false
theorem Bb{o:BO}{p:Operator}{x y:Int}(i:aK C I π H s)(ho:lr o p=true)(ra:RV C I π va (.int x))(rb:RV C I π vb (.int y))
  (k:jf o x y λv=>K v H):Wa C A (binaryOp p va vb) (PE C I π s K) aH s:=by
 cases ra with|int _ t=>cases rb with|int _ u=>
 cases o<;>cases p<;>first|(cases ho;done)|skip
 ·exact P.add_int (.tok _ i (.int _ _) k)
 ·exact P.sub_int (.tok _ i (.int _ _) k)
 ·exact P.mul_int (.tok _ i (.int _ _) k.k) (lq k.p)
 ·exact floordiv_int k.p.1 (.tok _ i (.int _ _) k.k) (.inl (PyProof.noPylong_small k.p.2))
 ·exact mod_int' k.p (.tok _ i (.int _ _) k.k)
 ·exact pow_int_small k.p.1 (by have:=k.p.2.1;omega) (Nat.lt_of_le_of_lt k.p.2.2 (by decide)) (.tok _ i (.int _ _) k.k)
theorem rF{o:BO}{p:Operator}{x y:Int}(i:aK C I π H s)(ho:lr o p=true)(ra:RV C I π va (.int x))(rb:RV C I π vb (.int y))
  (k:jf o x y λv=>K v H):Wa C A (inplaceOp p va vb) (PE C I π s K) aH s:=by
 cases ra with|int _ t=>cases rb with|int _ u=>
 cases o<;>cases p<;>first|(cases ho;done)|skip
 ·exact P.iadd_int (.tok _ i (.int _ _) k)
 ·exact P.isub_int (.tok _ i (.int _ _) k)
 ·exact P.imul_int (.tok _ i (.int _ _) k.k) (lq k.p)
 ·exact ifloordiv_int k.p.1 (.tok _ i (.int _ _) k.k) (.inl (PyProof.noPylong_small k.p.2))
 ·exact imod_int k.p (.tok _ i (.int _ _) k.k)
 ·exact ipow_int_small k.p.1 (by have:=k.p.2.1;omega) (Nat.lt_of_le_of_lt k.p.2.2 (by decide)) (.tok _ i (.int _ _) k.k)
def ls:CP->CmpOp->Bool
 |.lt,.Lt=>true|.le,.LtE=>true|.gt,.Gt=>true|.ge,.GtE=>true|.eq,.Eq=>true|.ne,.NotEq=>true
 |_,_=>false
theorem pV{o:CP}{p:CmpOp}{x y:Int}(i:aK C I π H s)(ho:ls o p=true)(ra:RV C I π va (.int x))(rb:RV C I π vb (.int y))
  (k:K (.bool (iz o x y)) H):Wa C A (compareOp p va vb) (PE C I π s K) aH s:=by
 cases ra with|int _ t=>cases rb with|int _ u=>
 cases o<;>cases p<;>first|(cases ho;done)|skip
 ·exact P.lt_int (.here i (.bool _) k)
 ·exact P.le_int (.here i (.bool _) k)
 ·exact P.gt_int (.here i (.bool _) k)
 ·exact P.ge_int (.here i (.bool _) k)
 ·refine P.eq_int (.here i (.bool _) ?_);have e:(x==y)=iz .eq x y:=by by_cases h:x=y<;>simp [iz,h]
  rw [e];exact k
 ·refine P.ne_int (.here i (.bool _) ?_);have e:(x != y)=iz .ne x y:=by by_cases h:x=y<;>simp [iz,h,bne]
  rw [e];exact k
def oG(n:Bool)(p:CmpOp):Bool:=match n,p with
 |true,.NotEq=>true|false,.Eq=>true|_,_=>false
theorem Bc{n:Bool}{p:CmpOp}{x y:Nat}(i:aK C I π H s)(ho:oG n p=true)(ra:RV C I π va (.chr x))(rb:RV C I π vb (.chr y))
  (k:K (.bool (b0 n (decide (x=y)))) H):Wa C A (compareOp p va vb) (PE C I π s K) aH s:=by
 cases ra with|chr _ t=>cases rb with|chr _ u=>
 have e:(([x]:List Nat)== [y])=decide (x=y):=by by_cases h:x=y<;>simp [h]
 cases n<;>cases p<;>first|(cases ho;done)|skip
 ·exact P.eq_str (.here i (.bool _) (by show K (.bool ([x]== [y])) H;rw [e];exact k))
 ·exact P.ne_str (.here i (.bool _) (by show K (.bool (!([x]== [y]))) H;rw [e];exact k))
theorem Bd{n:Bool}{p:CmpOp}{x:V}(i:aK C I π H s)(ho:(match n,p with|true,.IsNot=>true|false,.Is=>true|_,_=>false)=true)(ra:RV C I π va x)
  (k:K (.bool (b0 n (isNone x))) H):Wa C A (compareOp p va .none) (PE C I π s K) aH s:=by
 have e:(va==Value.none)=isNone x:=by cases ra<;>rfl
 cases n<;>cases p<;>first|(cases ho;done)|skip
 ·exact is_none_gen (.here i (.bool _) (by rw [e];exact k))
 ·exact isnot_none_gen (.here i (.bool _) (by rw [e];exact k))
end
section
variable {C:Cx}{I I':Im}{π π':Pi}{ρ:aE}{H:Hp}{s s':Shared}{A:Around}{K:V->Hp->Prop}
theorem dq(h:n<=10000000):n<=sizeLine:=by rw [sizeLine_eq];omega
theorem lu{x:V}{P:List V->Prop}(i:aK C I π H s)(r:RV C I π va x)(h:aY H x P):
  ∃a vs n xs,va= .ref a/\(PySem.IsL s.heap a vs.toArray n\/PySem.IsT s.heap a vs.toArray n)/\bx C I π vs xs/\vs.length<=10000000/\P xs:=by
 cases r with
 |ao e l r=>exact⟨_,_,_,_,rfl,.inr (i.imm _ _ e),r,l,h⟩
 |ad e l r=>exact⟨_,_,_,_,rfl,.inl (i.imm _ _ e),r,l,h⟩
 |ref e=>
  obtain⟨o,ho,hk⟩:=h.h
  cases o with
  |ad xs=>
   obtain⟨e1,vs,n,h1,h2,h3⟩:=i.obj _ _ _ e ho;simp only at e1;subst e1;exact⟨_,_,_,_,rfl,.inl h1,h2,h3,hk⟩
  |_=>exact hk.elim
 |_=>exact h.elim
def Ig:V->Bool|.ad _=>true|.ref _=>true|_=>false
theorem eX{x:V}{P:List V->Prop}(i:aK C I π H s)(r:RV C I π va x)(hx:∀ys,x≠.ao ys)(h:aY H x P):
  ∃a vs n xs,va= .ref a/\PySem.IsL s.heap a vs.toArray n/\bx C I π vs xs/\vs.length<=10000000/\P xs:=by
 cases r with
 |ao e l r=>exact absurd rfl (hx _)
 |ad e l r=>exact⟨_,_,_,_,rfl,i.imm _ _ e,r,l,h⟩
 |ref e=>
  obtain⟨o,ho,hk⟩:=h.h
  cases o with
  |ad xs=>
   obtain⟨e1,vs,n,h1,h2,h3⟩:=i.obj _ _ _ e ho;simp only at e1;subst e1;exact⟨_,_,_,_,rfl,h1,h2,h3,hk⟩
  |_=>exact hk.elim
 |_=>exact h.elim
theorem jl{xs:List V}(i:aK C I π H s)(r:RV C I π va (.ao xs)):∃a vs n,va= .ref a/\I a=some (kR vs n)/\PySem.IsT s.heap a vs.toArray n/\bx C I π vs xs/\vs.length<=10000000:=by
 cases r with
 |ao e l r=>exact⟨_,_,_,rfl,e,i.imm _ _ e,r,l⟩
theorem Be{x y:V}(i:aK C I π H s)(ra:RV C I π va x)(rb:RV C I π vb y)(hx:∀ys,x≠.ao ys)(hy:∀ys,y≠.ao ys)
  (k:aY H x λxs=>aY H y λys=>av (sizeOk (xs.length+ys.length)) (dE fr (xs++ys) H K)):Wa C A (binaryOp .Add va vb) (PE C I π s K) aH s:=by
 obtain⟨a,vs,n,xs,rfl,ha,r1,-,k⟩:=eX i ra hx k;obtain⟨b,ws,m,ys,rfl,hb,r2,-,k⟩:=eX i rb hy k;have hz:(vs++ws).length<=10000000:=by rw [List.length_append,r1.length,r2.length];exact k.p
 refine P.add_list ha hb ?_ (by have:=hz;rw [List.length_append]at this;simp;exact dq this);have e:vs.toArray++ws.toArray=(vs++ws).toArray:=by simp
 rw [e];exact gX (t:=s.toks) i (r1.append r2) hz k.k
theorem ub{t b:Addr}{items2:Array Value}{n2:Nat}(ht:PySem.IsT s.heap t items n)(hb:PySem.IsT s.heap b items2 n2)
  (h1:items.isEmpty=true->Q (.ref b) s) (h2:¬items.isEmpty=true->items2.isEmpty=true->Q (.ref t) s)
  (h:¬items.isEmpty=true->¬items2.isEmpty=true->Q (.ref s.heap.objs.size) {s with heap:=s.heap.push {cls:=.type "tuple",data:=.seq (items++items2)}})
  (hsz:items.size+items2.size<=sizeLine):Wa C A (binaryOp .Add (.ref t) (.ref b)) Q aH s:=by
 by_cases e1:items.isEmpty=true
 ·exact concat_meets ⟨_,ht,rfl⟩ ⟨_,hb,rfl⟩ noFill_tuple_add seq_tuple_add F.slot_tuple_add F.entry_tuple_add (F.args_tuple_add_2 _ _) (AutoSeq1.tuple___add___tuple_tuple_0 t items n b items2 n2 e1) ⟨ht,hb,h1 e1⟩
 ·by_cases e2:items2.isEmpty=true
  ·exact concat_meets ⟨_,ht,rfl⟩ ⟨_,hb,rfl⟩ noFill_tuple_add seq_tuple_add F.slot_tuple_add F.entry_tuple_add (F.args_tuple_add_2 _ _) (AutoSeq1.tuple___add___tuple_tuple_1 t items n b items2 n2 e1 e2) ⟨ht,hb,h2 e1 e2⟩
  ·exact P.add_tuple ht hb e1 e2 (h e1 e2) hsz
theorem Bf{xs:List V}(i:aK C I π H s)(ra:RV C I π va (.ao xs))(rb:RV C I π vb (.ao ys))
  (k:av (sizeOk (xs.length+ys.length)) (K (.ao (xs++ys)) H)):Wa C A (binaryOp .Add va vb) (PE C I π s K) aH s:=by
 obtain⟨a,vs,n,rfl,-,ha,r1,-⟩:=jl i ra;obtain⟨b,ws,m,rfl,-,hb,r2,-⟩:=jl i rb;have hz:(vs++ws).length<=10000000:=by rw [List.length_append,r1.length,r2.length];exact k.p
 refine ub ha hb (λe=>?_) (λ_ e=>?_) (λ_ _=>?_) (by have:=hz;rw [List.length_append]at this;simp;exact dq this)
 ·have:vs=[]:=by simpa using e
  subst this
  cases r1;exact .here i rb k.k
 ·have:ws=[]:=by simpa using e
  subst this
  cases r2;have k:=k.k;rw [List.append_nil]at k;exact .here i ra k
 ·have e:vs.toArray++ws.toArray=(vs++ws).toArray:=by simp
  rw [e];exact fv (t:=s.toks) i (r1.append r2) hz k.k
theorem Bg{x:V}(i:aK C I π H s)(r:RV C I π va x)(k:aY H x λxs=>K (.int xs.length) H):Wa C A (call (.builtin "len") [va]) (PE C I π s K) aH s:=by
 obtain⟨a,vs,n,xs,rfl,ha,r,hz,k⟩:=lu i r k;have e:((vs.toArray.size:Nat):Int)=xs.length:=by rw [List.size_toArray,r.length]
 rcases ha with ha|ha
 ·refine call_len_list ⟨_,ha,rfl,_,rfl⟩ (by rw [List.size_toArray];omega) ?_;rw [e];exact .tok _ i (.int _ _) k
 ·refine PySem.P.len_tuple ha (by rw [List.size_toArray];omega) ?_;rw [e];exact .tok _ i (.int _ _) k
theorem na{xs:List V}{k:Int}{x:V}(h:dm xs k=some x)(hz:xs.length<=10000000):∃j,seqIndex? k xs.length=some j/\xs[j]?=some x/\-2^63<=k/\k<2^63/\(0<=k->j=k.toNat)/\(k<0->j=(k+xs.length).toNat/\-(xs.length:Int)<=k):=by
 cases k with
 |ofNat n=>
  have h':xs[n]?=some x:=h;have hn:=(List.getElem?_eq_some_iff.mp h').1;refine⟨n,?_,h',by show-2^63<=(n:Int);omega,by show(n:Int)<2^63;omega,λ_=>rfl,λh=>absurd h (Int.not_lt.mpr (Int.natCast_nonneg n))⟩;exact seqIndex_of (by simp) (by simpa using hn)
 |negSucc n=>
  have h':(if n<xs.length then xs[xs.length-1-n]? else none)=some x:=h;by_cases hn:n<xs.length
  ·rw [if_pos hn]at h';have e:(Int.negSucc n+(xs.length:Int)).toNat=xs.length-1-n:=by omega
   refine⟨xs.length-1-n,?_,h',by omega,by omega,λh=>absurd h (by omega),λ_=>⟨e.symm,by omega⟩⟩;rw [PySem.seqIndex_neg (by omega) (by omega),e]
  ·rw [if_neg hn]at h';cases h'
theorem oH{l:Addr}{xs:List V}{k:Int}{u:Tok}{x:V}(ha:PySem.IsL s.heap l vs.toArray n)(r:bx C I π vs xs)(hz:vs.length<=10000000)(h:dm xs k=some x)
  (q:∀v,RV C I π v x->Q v s):Wa C A (getItem (.ref l) (.int k u)) Q aH s:=by
 obtain⟨j,h1,h2,h3,h4,h5,h6⟩:=na h (r.length▸hz);obtain⟨v,hv,rv⟩:=r.get h2;rcases(show k<0\/0<=k by omega)with hk|hk
 ·obtain⟨e,e2⟩:=h6 hk;refine wpAny_getItem_list_neg ⟨_,ha,rfl,_,rfl⟩ hk (by rw [List.size_toArray,r.length];exact e2) h3 (x:=v) ?_ (q v rv);rw [List.size_toArray,r.length,←e];simpa using hv
 ·refine wpAny_getItem_list ⟨_,ha,rfl,_,rfl⟩ hk h4 (x:=v) ?_ (q v rv);rw [←h5 hk];simpa using hv
theorem pW{l:Addr}{xs:List V}{k:Int}{u:Tok}{x:V}(ha:PySem.IsT s.heap l vs.toArray n)(r:bx C I π vs xs)(hz:vs.length<=10000000)(h:dm xs k=some x)
  (q:∀v,RV C I π v x->Q v s):Wa C A (getItem (.ref l) (.int k u)) Q aH s:=by
 obtain⟨j,h1,h2,h3,h4,h5,h6⟩:=na h (r.length▸hz);obtain⟨v,hv,rv⟩:=r.get h2;exact PySem.P.getItem_tuple ha h3 h4 (by rw [List.size_toArray,r.length];exact h1) (by simpa using hv) (q v rv)
theorem eg.length{kvs ks}(r:eg C I π kvs ks):kvs.length=ks.length:=by
 induction kvs generalizing ks with
 |nil=>cases r;rfl
 |cons p es ih=>cases r with|cons _ r=>simp [ih r]
theorem eg.keys{kvs ks}(r:eg C I π kvs ks):kvs.map (·.1)=ks.map (·.1):=by
 induction kvs generalizing ks with
 |nil=>cases r;rfl
 |cons p es ih=>cases r with|cons _ r=>simp [ih r]
theorem eg.look{kvs ks}(r:eg C I π kvs ks)(k:Int):match aW k ks with
  |some x=>∃v,valueAt kvs k=some v/\RV C I π v x
  |none=>valueAt kvs k=none:=by
 induction kvs generalizing ks with
 |nil=>cases r;rfl
 |cons p es ih=>
  cases r with
  | @cons es ks k' v x h r=>
   have:=ih r;by_cases e:k'=k
   ·simp [aW,valueAt,e];exact h
   ·have e1:aW k ((k',x)::ks)=aW k ks:=by simp [aW,e]
    have e2:valueAt ((k',v)::es) k=valueAt es k:=by simp [valueAt,e]
    rw [e1,e2];exact this
theorem eg.none{kvs ks}(r:eg C I π kvs ks){k:Int}(h:aW k ks=none):valueAt kvs k=none:=by
 have:=r.look k;rw [h]at this;exact this
theorem eg.some{kvs ks}(r:eg C I π kvs ks){k:Int}{x:V}(h:aW k ks=some x):∃v,valueAt kvs k=some v/\RV C I π v x:=by
 have:=r.look k;rw [h]at this;exact this
theorem eg.isSome{kvs ks}(r:eg C I π kvs ks)(k:Int):(valueAt kvs k).isSome=(aW k ks).isSome:=by
 cases h:aW k ks with
 |none=>rw [r.none h];rfl
 |some x=>obtain⟨v,e,-⟩:=r.some h;rw [e];rfl
theorem eg.append{kvs ks}(r:eg C I π kvs ks){k:Int}{v x}(h:RV C I π v x):eg C I π (kvs++[(k,v)]) (ks++[(k,x)]):=by
 induction kvs generalizing ks with
 |nil=>cases r;exact .cons h .nil
 |cons p es ih=>cases r with|cons h' r=>exact .cons h' (ih r)
theorem pX{k:Int}{x:V}:∀{ks:List (Int×V)},k∉ks.map (·.1)->dn k x ks=ks++[(k,x)]
 | [],_=>rfl
 |(k',y)::ks,h=>by
  simp only [List.map_cons,List.mem_cons,not_or]at h;have e:¬k'=k:=λe=>h.1 e.symm;simp [dn,e,pX h.2]
theorem eg.stored{kvs ks}(r:eg C I π kvs ks)(hn:(kvs.map (·.1)).Nodup){k:Int}{v x}(h:RV C I π v x):eg C I π (stored kvs k v) (dn k x ks):=by
 unfold PySem.stored;by_cases m:kvs.any (λkv=>kv.1=k)=true
 ·rw [if_pos m];induction kvs generalizing ks with
  |nil=>simp at m
  |cons p es ih=>
   cases r with
   | @cons es ks k' v' x' h' r=>
    rw [List.map_cons,List.nodup_cons]at hn;by_cases e:k'=k
    ·subst e;have e1:dn k' x ((k',x')::ks)=(k',x)::ks:=by simp [dn]
     rw [e1,List.map_cons,map_store_of_not_mem es k' v hn.1];simp only [if_pos];exact .cons h r
    ·have e1:dn k x ((k',x')::ks)=(k',x')::dn k x ks:=by simp [dn,e]
     rw [e1,List.map_cons];simp only [if_neg e];refine .cons h' (ih r hn.2 ?_);simpa [e]using m
 ·rw [if_neg m];have:k∉ks.map (·.1):=by
   rw [←r.keys];intro q;obtain⟨p,hp,e⟩:=List.mem_map.mp q;exact m (List.any_eq_true.mpr ⟨p,hp,by simpa using e⟩)
  rw [pX this];exact r.append h
theorem fO{x:V}{P:List (Int×V)->Prop}(i:aK C I π H s)(r:RV C I π va x)(h:dictOf H x P):
  ∃a kvs ks,va= .ref a/\s.heap.DictOf (intKind C.prog C.w) a kvs/\(a==sysModules)=false/\eg C I π kvs ks/\kvs.length<=10000000/\P ks:=by
 cases r with
 |dct e d m l r=>exact⟨_,_,_,rfl,Heap.dictOf_iff.mpr ⟨_,i.imm _ _ e,d⟩,m,r,l,h⟩
 |ref e=>
  obtain⟨o,ho,hk⟩:=h.h
  cases o with
  |dct ks=>
   obtain⟨e1,kvs,h1,h2,h3,h4⟩:=i.obj _ _ _ e ho;simp only at e1;subst e1;exact⟨_,_,_,rfl,h1,h2,h3,h4,hk⟩
  |_=>exact hk.elim
 |_=>exact h.elim
theorem iP(prog:Program)(w:World)(k:Int)(t:Tok):(intKind prog w).is k (.int k t)=true:=intKind_is prog w k t
theorem oI{l:Addr}{kvs ks}{k:Int}{u:Tok}{x:V}(ha:s.heap.DictOf (intKind C.prog C.w) l kvs)(r:eg C I π kvs ks)(h:aW k ks=some x)
  (q:∀v,RV C I π v x->Q v {s with toks:=s.toks+1}):Wa C A (getItem (.ref l) (.int k u)) Q aH s:=by
 obtain⟨v,hv,rv⟩:=r.some h;exact wpAny_getItem_of (iP _ _ k u) ha.mapOf hv (q v rv)
def pY(n:Bool)(p:CmpOp):Bool:=match n,p with
 |true,.NotIn=>true|false,.In=>true|_,_=>false
theorem Bh{n:Bool}{p:CmpOp}{x:Int}{y:V}(i:aK C I π H s)(ho:pY n p=true)(ra:RV C I π va (.int x))(rb:RV C I π vb y)
  (k:dictOf H y λks=>K (.bool (b0 n (aW x ks).isSome)) H):Wa C A (compareOp p va vb) (PE C I π s K) aH s:=by
 cases ra with|int _ t=>
 obtain⟨a,kvs,ks,rfl,hd,hm,r,-,k⟩:=fO i rb k
 cases n<;>cases p<;>first|(cases ho;done)|skip
 ·exact wpAny_in_of (iP _ _ x t) hm hd.mapOf (.tok _ i (.bool _) (by rw [r.isSome];exact k))
 ·exact wpAny_notIn_of (iP _ _ x t) hm hd.mapOf (.tok _ i (.bool _) (by rw [r.isSome];exact k))
theorem yL{a:Value}{x y:V}{P:V->Prop}(i:aK C I π H s)(ra:RV C I π a x)(rv:RV C I π v y)(k:m7 H x y P)
  (q:∀u z t,RV C I π u z->P z->Q u {s with toks:=t}):Wa C A (getItem a v) Q aH s:=by
 have key:∀{n},y= .int n->∃t,v= .int n t:=by rintro n rfl;cases rv with|int _ t=>exact⟨t,rfl⟩
 have lstCase:∀{l vs n xs},a= .ref l->PySem.IsL s.heap l vs.toArray n->bx C I π vs xs->vs.length<=10000000->∀{m},y= .int m->aS (dm xs m) P->Wa C A (getItem a v) Q aH s:=by
  rintro l vs n xs rfl ha r hz m e ⟨z,h1,h2⟩
  obtain⟨t,rfl⟩:=key e;exact oH ha r hz h1 λu ru=>q u z s.toks ru h2
 have dctCase:∀{l kvs ks},a= .ref l->s.heap.DictOf (intKind C.prog C.w) l kvs->eg C I π kvs ks->∀{m},y= .int m->aS (aW m ks) P->Wa C A (getItem a v) Q aH s:=by
  rintro l kvs ks rfl ha r m e ⟨z,h1,h2⟩
  obtain⟨t,rfl⟩:=key e;exact oI ha r h1 λu ru=>q u z _ ru h2
 cases y with
 |int m=>
  cases ra with
  |ao e l r=>
   obtain⟨t,rfl⟩:=key rfl;obtain⟨z,h1,h2⟩:=aS.h k;exact pW (i.imm _ _ e) r l h1 λu ru=>q u z s.toks ru h2
  |ad e l r=>exact lstCase rfl (i.imm _ _ e) r l rfl k
  |dct e d m l r=>exact dctCase rfl (Heap.dictOf_iff.mpr ⟨_,i.imm _ _ e,d⟩) r rfl k
  |ref e=>
   obtain⟨o,ho,hk⟩:=bL.h k;have io:=i.obj _ _ _ e ho
   cases o with
   |ad xs=>
    obtain⟨e1,vs,n,h1,h2,h3⟩:=io;simp only at e1;subst e1;exact lstCase rfl h1 h2 h3 rfl hk
   |dct ks=>
    obtain⟨e1,kvs,h1,h2,h3,h4⟩:=io;simp only at e1;subst e1;exact dctCase rfl h1 h3 rfl hk
   |_=>exact hk.elim
  |_=>exact k.elim
 |_=>cases ra<;>exact k.elim
theorem Bi{x:V}{m:Int}(i:aK C I π H s)(ra:RV C I π va x)(rb:RV C I π vb (.int m))(k:dictOf H x λks=>K ((aW m ks).getD .none) H):
  Wa C A (call (.builtin "dict.get") [va,vb]) (PE C I π s K) aH s:=by
 cases rb with|int _ t=>
 obtain⟨a,kvs,ks,rfl,hd,hm,r,-,k⟩:=fO i ra k;refine call_meetsIn PySem.F.slot_dict_get hd.typeIs PySem.F.entry_dict_get (PySem.F.args_dict_get_2 _ _) (meets_dict_get (intKind C.prog C.w) a (iP _ _ m t) hm) ⟨_,hd.mapOf,?_⟩
 cases h:aW m ks with
 |none=>rw [r.none h];rw [h]at k;exact .tok _ i .none k
 |some z=>obtain⟨v,e,rv⟩:=r.some h;rw [e];rw [h]at k;exact .tok _ i rv k
end
section
variable {C:Cx}{I I':Im}{π π':Pi}{ρ:aE}{H:Hp}{s s':Shared}{A:Around}{K:V->Hp->Prop}
theorem rG(lo hi:Option Int)(n:Nat):Builtin.Slice.sliceAdjust lo hi 1 (n:Int)=(((lo.elim 0 (clipAt n):Nat):Int),((hi.elim n (clipAt n):Nat):Int)):=by
 unfold Builtin.Slice.sliceAdjust;have e:∀v:Int,(if v<0 then max (v+n) 0 else min v n)=((clipAt n v:Nat):Int):=by
  intro v;rw [clipAt_cast];by_cases h:v<0
  ·rw [if_pos h,if_pos h];omega
  ·rw [if_neg h,if_neg h];omega
 cases lo<;>cases hi<;>simp [e]
theorem rH(a b:Nat):Builtin.Slice.slicePlaces (a:Int) (b:Int) 1=b-a:=by
 unfold Builtin.Slice.slicePlaces;have h1:(1:Int)>0:=by omega
 simp only [h1,if_true,Int.ediv_one];split<;>omega
theorem vE(xs:Array Value)(a m:Nat):((List.range m).filterMap λ(k:Nat)=>xs[((a:Int)+(k:Int)*1).toNat]?).toArray=((xs.toList.drop a).take m).toArray:=by
 have e:(λ(k:Nat)=>xs[((a:Int)+(k:Int)*1).toNat]?)=λk=>xs[a+k]?:=by
  funext k
  have:((a:Int)+(k:Int)*1).toNat=a+k:=by omega
  rw [this]
 rw [e];have:=pick_run xs a m;rw [List.filterMap_map]at this;have e2:((λx=>xs[x]?)∘λx=>a+x)=λk=>xs[a+k]?:=rfl;rw [e2]at this;rw [this]
theorem iA{k:Option Int}{Q:Option Int->Shared->Prop}(hv:IsPart v k)(h:Q k s):Wa C A (Builtin.Slice.slicePartIndex v) Q aH s:=by
 cases hv with
 |none=>exact slicePart_none h
 |int i t=>exact slicePart_int h
theorem rI(n:Nat)(i:Int):clipAt n i=aC n i:=by
 cases i with
 |ofNat k=>exact clipAt_nat n k
 |negSucc k=>exact clipAt_neg n (k+1) (by omega)
theorem uc{t sl:Addr}(ht:PySem.IsT s.heap t vs.toArray n)(hs:s.heap.IsSliceOf sl vl vu .none)(pl:IsPart vl lo)(pu:IsPart vu hi)
  (hsz:vs.length<=10000000)
  (h1:∀ws,ws=(vs.drop (lo.elim 0 (clipAt vs.length))).take (hi.elim vs.length (clipAt vs.length)-lo.elim 0 (clipAt vs.length))->ws=vs->Q (.ref t) s)
  (h2:∀ws,ws=(vs.drop (lo.elim 0 (clipAt vs.length))).take (hi.elim vs.length (clipAt vs.length)-lo.elim 0 (clipAt vs.length))->Q (.ref s.heap.objs.size) {s with heap:=s.heap.push (kR ws 0)}):
  Wa C A (getItem (.ref t) (.ref sl)) Q aH s:=by
 obtain⟨os,hos,hcs,hds⟩:=id hs;have hTs:s.TypeIs (.ref sl) "slice":=⟨os,hos,hcs⟩
 have hT:IsTup s.heap t vs.toArray:=⟨_,ht,rfl,_,rfl⟩
 unfold getItem;try with_reducible refine wpAny_holding ?_
 first|refine wpAny_bind (wpAny_pure ?_)|skip
 refine wpAny_bind (wpAny_sequenceKey hT.typeIs (by decide) ?_);refine wpAny_bind (wpAny_callSpecial?_slot (name:=Str.ofString "__getitem__") hT.typeIs PyProof.Rows.slot_tuple_getitem
  (wpAny_call_entry PyProof.Rows.slot_tuple_getitem hT.typeIs PyProof.Rows.entry_tuple_getitem ?_ (PyProof.Rows.args_tuple_getitem _ _)))
 show wpAny _ _ (Builtin.Tuple.tupleItemsOf (.ref t)>>=_) _ _ s;refine wpAny_bind (tupleItemsOf_ hT ?_);refine wpAny_bind (wpAny_typeOf hTs ?_);rw [if_pos (by decide)];have app:∀{Q:Int×Int×Nat->Shared->Prop},Q (((lo.elim 0 (clipAt vs.length):Nat):Int),1,hi.elim vs.length (clipAt vs.length)-lo.elim 0 (clipAt vs.length)) s->
   wpAny (model C.prog C.w) A.in1 (Builtin.Slice.sliceApplied (.ref sl) (pure (vs.toArray.size:Int))) Q aH s:=by
  intro Q q;unfold Builtin.Slice.sliceApplied Builtin.Slice.sliceFields;refine wpAny_bind (wpAny_bind (wpAny_field hos hds (x:=vl) rfl (wpAny_bind (wpAny_field hos hds (x:=vu) rfl (wpAny_bind (wpAny_field hos hds (x:=.none) rfl (wpAny_pure ?_)))))));refine wpAny_bind (slicePart_none ?_);show wpAny _ _ (if((1:Int)==0)=true then _ else _) _ _ s;rw [if_neg (by decide)];refine wpAny_bind (iA pl (wpAny_bind (iA pu (wpAny_bind (wpAny_pure ?_)))));show wpAny _ _ (match Builtin.Slice.sliceAdjust lo hi 1 ((vs.toArray.size:Nat):Int)with|(lo,hi)=>pure (lo,(1:Int),Builtin.Slice.slicePlaces lo hi 1)) _ _ s;rw [rG,List.size_toArray];show wpAny _ _ (pure (_,(1:Int),Builtin.Slice.slicePlaces _ _ 1)) _ _ s;rw [rH];exact wpAny_pure q
 refine wpAny_bind (wpAny_mono (app (Q:=λx s'=>x=_/\s'=s) ⟨rfl,rfl⟩) (λx s' hh=>?_) λ_ _ x=>x.elim);obtain⟨rfl,rfl⟩:=hh;dsimp only;generalize hw:(vs.drop (lo.elim 0 (clipAt vs.length))).take (hi.elim vs.length (clipAt vs.length)-lo.elim 0 (clipAt vs.length))=ws at h1 h2;rw [vE];show wpAny _ _ (if _ then _ else _) _ _ _;split
 ·rename_i hb;refine wpAny_bind (m:=Builtin.Tuple.tupleIsExact (.ref t)) (wpAny_bind (wpAny_typeOf hT.typeIs (wpAny_pure ?_)));rw [if_pos (by decide)];have e:ws=vs:=by
   simp only [Bool.and_eq_true,beq_iff_eq,List.size_toArray]at hb;obtain⟨⟨e1,-⟩,e2⟩:=hb;have e1':lo.elim 0 (clipAt vs.length)=0:=by omega
   rw [←hw];rw [e1',Nat.sub_zero]at e2;rw [e1',List.drop_zero,Nat.sub_zero];exact List.take_of_length_le (by omega)
  exact wpAny_bind (wpAny_rule (wpAny_pure ⟨_,rfl,wpAny_pure (h1 _ rfl e)⟩))
 ·rw [hw];have hsz':PySem.sizeOk (.seq ws.toArray):=by
   show ws.toArray.size<=sizeLine;have:ws.length<=vs.length:=by rw [←hw,List.length_take,List.length_drop];omega
   rw [List.size_toArray];exact dq (by omega)
  have h:=h2 ws rfl;first
   |exact wpAny_bind (m:=Builtin.Tuple.tupleExact _) (wpAny_newObj_type (wpAny_pure ⟨_,rfl,wpAny_pure h⟩) hsz')
   |exact wpAny_bind (m:=Builtin.Tuple.tupleExact _) (wpAny_newObj_type (wpAny_bind (wpAny_pure (wpAny_pure ⟨_,rfl,wpAny_pure h⟩))) hsz')
   |exact wpAny_bind (wpAny_bind (m:=Builtin.Tuple.tupleExact _) (wpAny_newObj_type (wpAny_pure (wpAny_pure ⟨_,rfl,wpAny_pure h⟩)) hsz'))
   |exact wpAny_bind (wpAny_bind (m:=Builtin.Tuple.tupleExact _) (wpAny_newObj_type (wpAny_pure ⟨_,rfl,wpAny_pure h⟩) hsz'))
end
section
variable {C:Cx}{I I':Im}{π π':Pi}{ρ:aE}{H:Hp}{s s':Shared}{A:Around}{K:V->Hp->Prop}{env:Env}
theorem lz{slice:Xp}
  (h:Wa C A (PySem.eval value env) (λo s₁=>Wa C A (PySem.eval slice env) (λi s₂=>∃T id,typeLookup (.type T) "__getitem__"=pure (some (.builtin id))/\s₂.TypeIs o T/\Wa C A (getItem o i) Q aH s₂) aH s₁) aH s):
  Wa C A (PySem.eval (.Subscript value slice pos) env) Q aH s:=by
 rw [eval_Subscript];refine wpAny_bind (wpAny_mono h (λo s₁ h₁=>wpAny_bind (wpAny_holding (wpAny_mono h₁ (λi s₂ h₂=>wpAny_bind (wpAny_standAt ?_)) λ_ _ x=>x))) λ_ _ x=>x);obtain⟨T,id,hl,hT,hg⟩:=h₂;have e:subscripted slice false o i=operate [i,o] (getItem o i)\/subscripted slice false o i=operate [o,i] (getItem o i):=by
  unfold subscripted;split
  ·exact .inl rfl
  ·contradiction
  ·exact .inr rfl
 have fin:Wa C A (subscripted slice false o i) (λr s₃=>Wa C A (letTemporaryGo value o r>>=λ_=>pure r) Q aH s₃) aH s₂:=by
  have f2:∀l,Wa C A (operate l (getItem o i)) (λr s₃=>Wa C A (letTemporaryGo value o r>>=λ_=>pure r) Q aH s₃) aH s₂:=
   λl=>wpAny_operating (wpAny_mono hg (λr s₃ h₃=>wpAny_bind (wpAny_letTemporaryGo (wpAny_pure h₃))) λ_ _ x=>x)
  rcases e with e|e<;>rw [e]<;>exact f2 _
 first
  |(refine wpAny_bind ?_
    rw [getitemInPython_of_ne hT.not_modules];refine wpAny_bind (wpAny_specialOf hT hl ?_);first
     |exact wpAny_pure (wpAny_bind fin)
     |exact wpAny_bind (wpAny_pure (wpAny_bind fin))
     |exact wpAny_bind fin)
  |(refine wpAny_bind (wpAny_specialOf hT hl ?_)
    first
     |exact wpAny_bind (wpAny_pure (wpAny_bind fin))
     |exact wpAny_bind fin)
theorem vF{x y:V}{P:V->Prop}(i:aK C I π H s)(ra:RV C I π va x)(k:m7 H x y P):∃T id,typeLookup (.type T) "__getitem__"=pure (some (.builtin id))/\s.TypeIs va T:=by
 have L:∀{a vs n},PySem.IsL s.heap a vs n->∃T id,typeLookup (.type T) "__getitem__"=pure (some (.builtin id))/\s.TypeIs (.ref a) T:=λha=>⟨"list","list.__getitem__",list_getitem_lookup,_,ha,rfl⟩
 have Tu:∀{a vs n},PySem.IsT s.heap a vs n->∃T id,typeLookup (.type T) "__getitem__"=pure (some (.builtin id))/\s.TypeIs (.ref a) T:=λha=>⟨"tuple","tuple.__getitem__",PyProof.Rows.slot_tuple_getitem.lookup,_,ha,rfl⟩
 have D:∀{a kvs},s.heap.DictOf (intKind C.prog C.w) a kvs->∃T id,typeLookup (.type T) "__getitem__"=pure (some (.builtin id))/\s.TypeIs (.ref a) T:=λha=>⟨"dict","dict.__getitem__",slot_dict_getitem.lookup,ha.typeIs⟩
 cases y with
 |int m=>
  cases ra with
  |ao e l r=>exact Tu (i.imm _ _ e)
  |ad e l r=>exact L (i.imm _ _ e)
  |dct e d m l r=>exact D (Heap.dictOf_iff.mpr ⟨_,i.imm _ _ e,d⟩)
  |ref e=>
   obtain⟨o,ho,hk⟩:=bL.h k;have io:=i.obj _ _ _ e ho
   cases o with
   |ad xs=>
    obtain⟨e1,vs,n,h1,h2,h3⟩:=io;simp only at e1;subst e1;exact L h1
   |dct ks=>
    obtain⟨e1,kvs,h1,h2,h3,h4⟩:=io;simp only at e1;subst e1;exact D h1
   |_=>exact hk.elim
  |_=>exact k.elim
 |_=>cases ra<;>exact k.elim
theorem Bj{x:V}
  (i:aK C I π H s) (ra:RV C I π va x) (pl:IsPart vl lo) (pu:IsPart vu hi)
  (k:match x with
   |.ao xs=>K (.ao ((xs.drop (lo.elim 0 (aC xs.length))).take (hi.elim xs.length (aC xs.length)-lo.elim 0 (aC xs.length)))) H
   |x=>aY H x λxs=>dE fr ((xs.drop (lo.elim 0 (aC xs.length))).take (hi.elim xs.length (aC xs.length)-lo.elim 0 (aC xs.length))) H K):
  ∃T id,typeLookup (.type T) "__getitem__"=pure (some (.builtin id))/\({s with heap:=s.heap.push {cls:=.type "slice",data:=.fields #[vl,vu,.none]}}:Shared).TypeIs va T/\
   Wa C A (getItem va (.ref s.heap.objs.size)) (PE C I π s K) aH {s with heap:=s.heap.push {cls:=.type "slice",data:=.fields #[vl,vu,.none]}}:=by
 obtain⟨e1,i1,f1⟩:=i.push (t:=s.toks) {cls:=.type "slice",data:=.fields #[vl,vu,.none]} rfl;have hs:(s.heap.push {cls:=.type "slice",data:=.fields #[vl,vu,.none]}).IsSliceOf s.heap.objs.size vl vu .none:=Heap.IsSliceOf.new ..;have cc:∀n,clipAt n=aC n:=λn=>funext (rI n);have lstCase:∀{xs a vs n},va= .ref a->PySem.IsL s.heap a vs.toArray n->bx C I π vs xs->vs.length<=10000000->dE fr ((xs.drop (lo.elim 0 (aC xs.length))).take (hi.elim xs.length (aC xs.length)-lo.elim 0 (aC xs.length))) H K->
   ∃T id,typeLookup (.type T) "__getitem__"=pure (some (.builtin id))/\({s with heap:=s.heap.push {cls:=.type "slice",data:=.fields #[vl,vu,.none]}}:Shared).TypeIs va T/\
   Wa C A (getItem va (.ref s.heap.objs.size)) (PE C I π s K) aH {s with heap:=s.heap.push {cls:=.type "slice",data:=.fields #[vl,vu,.none]}}:=by
  rintro xs a vs n rfl ha r hz k
  have ha':=Heap.get?_push_of_some {cls:=.type "slice",data:=.fields #[vl,vu,.none]} ha;refine⟨"list","list.__getitem__",list_getitem_lookup,⟨_,ha',rfl⟩,wpAny_getItem_list_slice ⟨_,ha',rfl,_,rfl⟩ hs pl pu .none (by simp) ?_ (by rw [List.size_toArray];exact dq hz)⟩;have e0:vs.toArray.size=xs.length:=by rw [List.size_toArray,r.length]
  rw [slicePick_plain,e0,cc];refine PE.trans e1 (gX (t:=s.toks) i1 ((r.drop _).take _) ?_ k);rw [List.length_take,List.length_drop];have:vs.toArray.toList.length=vs.length:=rfl;omega
 cases ra with
 | @ao a vs n xs e l r=>
  have ha':=Heap.get?_push_of_some {cls:=.type "slice",data:=.fields #[vl,vu,.none]} (i.imm _ _ e);refine⟨"tuple","tuple.__getitem__",PyProof.Rows.slot_tuple_getitem.lookup,⟨_,ha',rfl⟩,uc (vs:=vs) ha' hs pl pu l (λws hw hv=>?_) λws hw=>?_⟩
  ·rw [r.length,cc]at hw;have:=(r.drop (lo.elim 0 (aC xs.length))).take (hi.elim xs.length (aC xs.length)-lo.elim 0 (aC xs.length));rw [←hw,hv]at this;exact PE.trans e1 (.here i1 (.ao (e1.imm _ _ e) l (e1.rvs this)) k)
  ·rw [r.length,cc]at hw;have:=(r.drop (lo.elim 0 (aC xs.length))).take (hi.elim xs.length (aC xs.length)-lo.elim 0 (aC xs.length));rw [←hw]at this;refine PE.trans e1 (fv (t:=s.toks) i1 (e1.rvs this) ?_ k);rw [hw,List.length_take,List.length_drop];omega
 |ad e l r=>exact lstCase rfl (i.imm _ _ e) r l k
 |ref e=>
  obtain⟨o,ho,hk⟩:=bL.h k;have io:=i.obj _ _ _ e ho
  cases o with
  |ad xs=>
   obtain⟨e1,vs,n,h1,h2,h3⟩:=io;simp only at e1;subst e1;exact lstCase rfl h1 h2 h3 hk
  |_=>exact hk.elim
 |_=>exact k.elim
end
section
variable {C:Cx}{I I':Im}{π π':Pi}{ρ:aE}{H:Hp}{s s':Shared}{A:Around}{K:V->Hp->Prop}{env:Env}
theorem PE.kept{t:Nat}{v x}(i:aK C I π H s)(k:∀b o,s.heap.get? b=some o->h'.get? b=some o)(r:RV C I π v x)(q:K x H):PE C I π s K v {s with heap:=h',toks:=t}:=
 let⟨e,i'⟩:=i.grow (t:=t) (h':=h') [] (λ_ h=>(nomatch h)) (λb o h _=>k b o h)
 ⟨I,π,x,H,e,i',r,q⟩
theorem Bk{x:Int}(i:aK C I π H s)(ra:RV C I π va (.int x))(k:K (.int (-x)) H):Wa C A (unaryOp .USub va) (PE C I π s K) aH s:=by
 cases ra with|int _ t=>exact PyProof.Rows.neg_int (.tok _ i (.int _ _) k)
theorem dL{b:Bool}{Q:Bool->Shared->Prop}(ra:RV C I π va (.bool b))(q:Q b s):Wa C A (truthy va) Q aH s:=by
 cases ra with|bool _=>exact wpAny_truthy_bool q
theorem Bl{b:Bool}(i:aK C I π H s)(ra:RV C I π va (.bool b))(k:K (.bool (!b)) H):Wa C A (unaryOp .Not va) (PE C I π s K) aH s:=
 not_of (dL ra (.here i (.bool _) k))
theorem Bm{x:Int}(i:aK C I π H s)(ra:RV C I π va (.int x))(k:K (.int x.natAbs) H):Wa C A (call (.builtin "abs") [va]) (PE C I π s K) aH s:=by
 cases ra with|int _ t=>
 refine call_abs_int λu tk=>?_;have e:(if x<0 then-x else x)=(x.natAbs:Int):=by split<;>omega
 rw [e];exact .tok _ i (.int _ _) k
theorem Bn{x:Int}(i:aK C I π H s)(ra:RV C I π va (.int x))(k:K (.int x) H):Wa C A (call (.type "int") [va]) (PE C I π s K) aH s:=by
 cases ra with|int _ t=>exact PySem.call_int_int (.here i (.int _ _) k)
theorem Bo{x y:Int}(i:aK C I π H s)(ra:RV C I π va (.int x))(rb:RV C I π vb (.int y))(k:av (y≠0/\y.natAbs<1073741824) (K (.ao [.int (x.fdiv y),.int (x.fmod y)]) H)):
  Wa C A (call (.builtin "divmod") [va,vb]) (PE C I π s K) aH s:=by
 cases ra with|int _ t=>cases rb with|int _ u=>
 refine divmod_int k.p.1 ?_ (.inl (PyProof.noPylong_small k.p.2));exact fv (vs:=[_,_]) (t:=s.toks+1+1) i (.cons (.int _ _) (.cons (.int _ _) .nil)) (by simp) k.k
theorem Ih{x y:Int}(hA:A.handled=none)(i:aK C I π H s)(ra:RV C I π va (.int x))(rb:RV C I π vb (.int y))(k:K (.int (max x y)) H):
  Wa C A (call (.builtin "max") [va,vb]) (PE C I π s K) aH s:=by
 cases ra with|int _ t=>cases rb with|int _ u=>
 refine max_two_ints hA λh' tk hk=>?_;refine .kept i hk ?_ k;split
 ·rw [show max x y=y by omega];exact .int _ _
 ·rw [show max x y=x by omega];exact .int _ _
theorem Bp{x y:Int}(hA:A.handled=none)(i:aK C I π H s)(ra:RV C I π va (.int x))(rb:RV C I π vb (.int y))(k:K (.int (min x y)) H):
  Wa C A (call (.builtin "min") [va,vb]) (PE C I π s K) aH s:=by
 cases ra with|int _ t=>cases rb with|int _ u=>
 refine min_two_ints hA λh' tk hk=>?_;refine .kept i hk ?_ k;split
 ·rw [show min x y=y by omega];exact .int _ _
 ·rw [show min x y=x by omega];exact .int _ _
theorem Bq{vc:Value}{x y z:Int}(hA:A.handled=none)(i:aK C I π H s)(ra:RV C I π va (.int x))(rb:RV C I π vb (.int y))(rc:RV C I π vc (.int z))(k:K (.int (min (min x y) z)) H):
  Wa C A (call (.builtin "min") [va,vb,vc]) (PE C I π s K) aH s:=by
 cases ra with|int _ t=>cases rb with|int _ u=>cases rc with|int _ v=>
 refine min_three_ints hA λh' tk hk=>?_;refine .kept i hk ?_ k;split<;>split
 ·rw [show min (min x y) z=z by omega];exact .int _ _
 ·rw [show min (min x y) z=y by omega];exact .int _ _
 ·rw [show min (min x y) z=z by omega];exact .int _ _
 ·rw [show min (min x y) z=x by omega];exact .int _ _
theorem Br{b:Bool}{x:Int}(i:aK C I π H s)(ra:RV C I π va (.int x))(k:K (.bool (!b)) H):
  Wa C A (call (.builtin "isinstance") [va,.type (match b with|true=>"bool" |false=>"int")]) (PE C I π s K) aH s:=by
 cases ra with|int _ t=>
 cases b with
 |false=>exact call_isinstance_yes (typeIs_int s x t) (T:="int") (by kernel_rfl) (by rw [isSubtype_type];kernel_rfl) (.here i (.bool _) k)
 |true=>exact call_isinstance (isinstance_false_int (T:="bool") (by decide) (by kernel_rfl) (by rw [isSubtype_type];kernel_rfl)) (.tok _ i (.bool _) k)
theorem oJ{xs:List V}{ns:List Int}(r:bx C I π vs xs)(h:ji xs=some ns):IntsAre vs ns:=by
 induction vs generalizing xs ns with
 |nil=>cases r;cases h;exact .nil
 |cons v vs ih=>
  cases r with
  | @cons v vs x xs rv r=>
   cases x with
   |int n=>
    cases rv with|int _ t=>
    simp only [ji,Option.map_eq_some_iff]at h;obtain⟨ms,e,rfl⟩:=h;exact .cons n t (ih r e)
   |_=>cases h
theorem xy{xs:List V}{n:Int}(h:oD xs=some n):∃ns,ji xs=some ns/\ns.sum=n:=by
 induction xs generalizing n with
 |nil=>cases h;exact⟨[],rfl,rfl⟩
 |cons x xs ih=>
  cases x with
  |int m=>
   simp only [oD,Option.map_eq_some_iff]at h;obtain⟨k,e,rfl⟩:=h;obtain⟨ns,e1,e2⟩:=ih e;exact⟨m::ns,by simp [ji,e1],by simp [e2]⟩
  |_=>cases h
theorem Bs{x:V}(hA:A.handled=none)(i:aK C I π H s)(ra:RV C I π va x)(hx:∀ys,x≠.ao ys)(k:aY H x λxs=>aS (oD xs) λn=>K (.int n) H):
  Wa C A (call (.builtin "sum") [va]) (PE C I π s K) aH s:=by
 obtain⟨a,vs,n,xs,rfl,ha,r,-,k⟩:=eX i ra hx k;obtain⟨m,e,k⟩:=k.h;obtain⟨ns,e1,rfl⟩:=xy e;have hi:=oJ r e1;obtain⟨ys,hy⟩:=hi.allInts.items;refine sum_intListG hA (xs:=ys) (by rw [←hy];exact⟨_,ha,rfl,_,rfl⟩) λh' tk t' hk=>?_;have e1:ns=ys.toList.map (·.1):=by
  rw [←nums_intItems,←hy];exact(show numsOf vs.toArray.toList=ns from hi.numsOf).symm
 have e2:preSum (numAt ys) ys.size=ns.sum:=by
  rw [preSum_eq,List.take_of_length_le (by simp),e1]
 rw [e2];exact .kept i hk (.int _ _) k
theorem Bt{x:V}(i:aK C I π H s)(ra:RV C I π va x)(k:aY H x λxs=>dE fr xs H K):
  Wa C A (call (.type "list") [va]) (PE C I π s K) aH s:=by
 obtain⟨a,vs,n,xs,rfl,ha,r,hz,k⟩:=lu i ra k;have fin:∀h' c',(∀b o',s.heap.get? b=some o'->h'.get? b=some o')->h'.get? s.heap.objs.size=some {cls:=.type "list",dict:=none,data:=.seq vs.toArray c',slots:= #[]}->PE C I π s K (.ref s.heap.objs.size) {s with heap:=h'}:=by
  intro h' c' hk hn;obtain⟨e,i'⟩:=i.grow (t:=s.toks) (h':=h') [] (λ_ h=>(nomatch h)) (λb o h _=>hk b o h);exact tc e i' (aX _) hn (i.fresh (aX _)) r hz k
 rcases ha with ha|ha
 ·exact call_list_seq a (.inl rfl) ha rfl rfl fin (by rw [List.size_toArray];exact dq hz)
 ·exact call_list_seq a (.inr rfl) ha rfl rfl fin (by rw [List.size_toArray];exact dq hz)
theorem Bu{x:V}(i:aK C I π H s)(ra:RV C I π va x)(k:aY H x λxs=>K (.ao xs) H):
  Wa C A (call (.type "tuple") [va]) (PE C I π s K) aH s:=by
 have tupCase:∀{xs},x= .ao xs->K (.ao xs) H->Wa C A (call (.type "tuple") [va]) (PE C I π s K) aH s:=by
  rintro xs rfl k
  obtain⟨a,vs,n,rfl,-,ha,r,-⟩:=jl i ra;exact call_tuple_same ⟨_,ha,rfl,_,rfl⟩ (.here i ra k)
 by_cases hx:∃xs,x= .ao xs
 ·obtain⟨xs,rfl⟩:=hx;exact tupCase rfl k
 ·obtain⟨a,vs,n,xs,rfl,ha,r,hz,k⟩:=eX i ra (λys e=>hx ⟨ys,e⟩) k;refine call_tuple_list ⟨_,ha,rfl,_,rfl⟩ (λh' hk=>?_) (by rw [List.size_toArray];exact dq hz);obtain⟨e,i'⟩:=i.grow (t:=s.toks) (h':=h') [] (λ_ h=>(nomatch h)) (λb o h _=>hk b o h);exact PE.trans e (fv (t:=s.toks) i' r hz k)
theorem xz{ns ms qs:List Int}(hp:ms.Perm ns)(ho:ms.Pairwise (· <= ·))(h:mO ns=some qs):ms=qs:=by
 match ns,h with
 | [],h=>cases h;exact List.Perm.eq_nil hp
 | [a],h=>cases h;exact List.perm_singleton.mp hp
 | [a,b],h=>
  cases h;have hl:=hp.length_eq;match ms,hl with
  | [c,d],_=>
   have h1:c<=d:=by simpa using ho
   have m1:c=a\/c=b:=by simpa using(hp.mem_iff (a:=c)).mp (by simp)
   rcases m1 with rfl|rfl
   ·have:d=b:=by simpa using(List.perm_cons c).mp hp
    subst this;rw [if_neg (by omega)]
   ·have hp':=hp.trans (List.Perm.swap c a []);have:d=a:=by simpa using(List.perm_cons c).mp hp'
    subst this;by_cases q:c<d
    ·rw [if_pos q]
    ·rw [if_neg q,show c=d by omega]
theorem vG{l qs:List Int}(h:mO l=some qs):l.length<64:=by
 match l,h with
 | [],_=>simp
 | [_],_=>simp
 | [_,_],_=>simp
 |_::_::_::_,h=>cases h
theorem Bv{x:V}(hA:A.handled=none)(i:aK C I π H s)(ra:RV C I π va x)(k:dictOf H x λks=>aS (mO (ks.map (·.1))) λis=>K (.ad (is.map .int)) H):
  Wa C A (call (.builtin "sorted") [va]) (PE C I π s K) aH s:=by
 obtain⟨a,kvs,ks,rfl,hd,hm,r,hz,k⟩:=fO i ra k;obtain⟨qs,e,k⟩:=k.h;have h2:kvs.length<64:=by
  have:=vG e;rw [List.length_map]at this;rw [r.length];exact this
 obtain⟨ep,hat⟩:=hd.dictAt;refine call_function_entry PyProof.Rows.kind_sorted PyProof.Rows.plain_sorted PyProof.Rows.entry_sorted (PyProof.Rows.args_sorted1 _) ?_;unfold Builtin.«sorted»;refine wpAny_bind (m:=checkCount "sorted" 1 1 _) (wpAny_pure ?_);refine wpAny_bind (kdu_collect (A:=A.in1) (kdl_dict (knd:=intKind C.prog C.w) (kvs:=kvs) (ep:=ep) hm) hA hat (dq hz) λh' tk acc hk hacc=>?_);have hl:acc.toList.length=kvs.length:=by rw [Array.length_toList];exact hacc.1
 refine wpAny_bind (wpAny_newList ?_ (by rw [hl];exact dq hz));have hI:IntsAre acc.toList (ks.map (·.1)):=by
  have key:∀(vs:List Value) (is:List Int),vs.length=is.length->(∀(j:Nat) (v:Value),vs[j]?=some v->∃k t,is[j]?=some k/\v=Value.int k t)->IntsAre vs is:=by
   intro vs;induction vs with
   |nil=>intro is e _;cases is with
    |nil=>exact .nil
    |cons=>simp at e
   |cons v vs ih=>
    intro is e hv
    cases is with
    |nil=>simp at e
    |cons i is=>
     obtain⟨k,t,h1,rfl⟩:=hv 0 v rfl
     cases h1;exact .cons _ t (ih is (by simpa using e) λj v hj=>hv (j+1) v hj)
  refine key _ _ (by rw [hl,r.length,List.length_map]) λj v hj=>?_;obtain⟨k,x,hx,hkv⟩:=hacc.2 j v (by rw [←Array.getElem?_toList];exact hj);obtain⟨t,rfl⟩:=Value.isInt_shape hkv;refine⟨k,t,?_,rfl⟩;rw [←r.keys,List.getElem?_map,hx];rfl
 have hoL:(h'.push {cls:=.type "list",data:=.seq acc.toList.toArray}).get? h'.objs.size=some (seqObj "list" acc.toList.toArray 0):=Heap.get?_push_size _ rfl;refine wpAny_bind (wpAny_holding (wpAny_call_entry slot_list_sort ⟨_,hoL,rfl⟩ entry_list_sort (list_sort_tree (s:={s with heap:=h'.push {cls:=.type "list",data:=.seq acc.toList.toArray},toks:=tk}) hoL hI (by rw [hl];exact h2) λout ns' a1 a2 a3=>⟨_,rfl,?_⟩) (args_list_sort _)));refine wpAny_pure ⟨_,rfl,?_⟩;have e2:=xz a2 a3 e;subst e2;have hk2:∀b o,s.heap.get? b=some o->(sortedHeap (h'.push {cls:=.type "list",data:=.seq acc.toList.toArray}) h'.objs.size acc.toList out).get? b=some o:=λb o hb=>by
  have hb':=hk b o hb;have hlt:=Heap.lt_size hb';rw [sortedHeap_old (Nat.ne_of_lt hlt) (by rw [Heap.size_push];exact Nat.lt_succ_of_lt hlt),Heap.get?_push_of_some _ hb']
 obtain⟨e1,i1⟩:=i.grow (t:=tk) (h':=sortedHeap (h'.push {cls:=.type "list",data:=.seq acc.toList.toArray}) h'.objs.size acc.toList out) [] (λ_ h=>(nomatch h)) (λb o h _=>hk2 b o h);obtain⟨ee,hout⟩:=sortedHeap_at (out:=out) hoL;have hfresh:s.heap.get? h'.objs.size=none:=by
  cases q:s.heap.get? h'.objs.size with
  |none=>rfl
  |some o=>exact absurd (Heap.lt_size (hk _ _ q)) (Nat.lt_irrefl _)
 obtain⟨e3,i3,h3⟩:=e1.adopt i1 hfresh hout (i.fresh hfresh);have rr:∀{vs:List Value} {is:List Int} {I'':Im},IntsAre vs is->bx C I'' π vs (is.map .int):=by
  intro vs is I'' h;induction h with
  |nil=>exact .nil
  |cons n t _ ih=>exact .cons (.int n t) ih
 refine⟨_,π,.ad (ns'.map .int),H,e3,i3,.ad (vs:=out.toList) (n:=ee) ?_ ?_ (rr a1),k⟩
 ·exact h3
 ·have:out.toList.length=kvs.length:=by rw [a1.length,a2.length_eq,List.length_map,r.length]
  rw [this];exact hz
def PJ(n:Bool)(p:CmpOp):Bool:=pY n p
theorem zl{n:Bool}{p:CmpOp}{x:Int}(i:aK C I π H s)(ho:pY n p=true)(ra:RV C I π va (.int x))(rb:RV C I π vb (.ao ys))(k:aS (ji ys) λis=>K (.bool (b0 n (is.contains x))) H):
  Wa C A (compareOp p va vb) (PE C I π s K) aH s:=by
 cases ra with|int _ t=>
 obtain⟨b,ws,m,rfl,-,hb,r,-⟩:=jl i rb;obtain⟨is,e,k⟩:=k.h;have ea:(is.any (· ==x))=is.contains x:=by
  rw [Bool.eq_iff_iff,List.any_eq_true,List.contains_iff_mem];constructor
  ·rintro ⟨y,h,e⟩;rw [beq_iff_eq]at e;exact e▸h
  ·exactλh=>⟨x,h,by simp⟩
 cases n<;>cases p<;>first|(cases ho;done)|skip
 ·exact in_tuple_ints ⟨_,hb,rfl,_,rfl⟩ (oJ r e) (.here i (.bool _) (by rw [ea];exact k))
 ·exact notin_tuple_ints ⟨_,hb,rfl,_,rfl⟩ (oJ r e) (.here i (.bool _) (by rw [ea];exact k))
theorem td{xs:List V}{ns:List Nat}(r:bx C I π vs xs)(h:ln xs=some ns):StrsAre vs (ns.map λc=>(⟨#[c]⟩:Str)):=by
 induction vs generalizing xs ns with
 |nil=>cases r;cases h;exact .nil
 |cons v vs ih=>
  cases r with
  | @cons v vs x xs rv r=>
   cases x with
   |chr n=>
    cases rv with|chr _ t=>
    simp only [ln,Option.map_eq_some_iff]at h;obtain⟨ms,e,rfl⟩:=h;exact .cons _ t (ih r e)
   |_=>cases h
theorem zm{n:Bool}{p:CmpOp}{x:Nat}(i:aK C I π H s)(ho:pY n p=true)(ra:RV C I π va (.chr x))(rb:RV C I π vb (.ao ys))(k:aS (ln ys) λis=>K (.bool (b0 n (is.contains x))) H):
  Wa C A (compareOp p va vb) (PE C I π s K) aH s:=by
 cases ra with|chr _ t=>
 obtain⟨b,ws,m,rfl,-,hb,r,-⟩:=jl i rb;obtain⟨is,e,k⟩:=k.h;have ea:((is.map λc=>(⟨#[c]⟩:Str)).any (· ==(⟨#[x]⟩:Str)))=is.contains x:=by
  rw [Bool.eq_iff_iff,List.any_eq_true,List.contains_iff_mem];constructor
  ·rintro ⟨y,h,e⟩
   obtain⟨c,hc,rfl⟩:=List.mem_map.mp h;have:c=x:=by simpa using e
   exact this▸hc
  ·exactλh=>⟨⟨#[x]⟩,List.mem_map_of_mem (f:=λc=>(⟨#[c]⟩:Str)) h,by simp⟩
 cases n<;>cases p<;>first|(cases ho;done)|skip
 ·exact in_tuple_strs ⟨_,hb,rfl,_,rfl⟩ (td r e) (.here i (.bool _) (by rw [ea];exact k))
 ·exact notin_tuple_strs ⟨_,hb,rfl,_,rfl⟩ (td r e) (.here i (.bool _) (by rw [ea];exact k))
theorem Bw{n:Bool}{p:CmpOp}{x y:Bool}(i:aK C I π H s)(ho:oG n p=true)(ra:RV C I π va (.bool x))(rb:RV C I π vb (.bool y))(k:K (.bool (b0 n (x==y))) H):
  Wa C A (compareOp p va vb) (PE C I π s K) aH s:=by
 cases ra with|bool _=>cases rb with|bool _=>
 cases n<;>cases p<;>first|(cases ho;done)|skip
 ·exact eq_bool (.here i (.bool _) k)
 ·exact ne_bool (.here i (.bool _) (by rw [show(x != y)= !(x==y)from rfl];exact k))
end
mutual
def pd:V->PyData
 |.none=>.none
 |.int i=>.int i
 |.chr c=>.str ⟨#[c]⟩
 |.ao xs=>.tuple (rz xs)
 |.ad xs=>.list (rz xs)
 |.bool _=>.none
 |.obj _ _=>.none
 |.dct _=>.none
 |.ref _=>.none
 |.st _=>.none
def rz:List V->List PyData
 | []=>[]
 |x::xs=>pd x::rz xs
end
section
variable {C:Cx}{I I':Im}{π π':Pi}{ρ:aE}{H:Hp}{s s':Shared}{A:Around}{K:V->Hp->Prop}{env:Env}
theorem cE(i:aK C I π H s):∀(n:Nat) {v:Value} {x:V},RV C I π v x->jg n x->∃as,Reads s.heap v (pd x) as:=by
 intro n;have all:∀(n:Nat),(∀{v:Value} {x:V},RV C I π v x->jg n x->∃as,Reads s.heap v (pd x) as)->∀{vs:List Value} {xs:List V},bx C I π vs xs->(∀x∈xs,jg n x)->∃as,ReadsAll s.heap vs (rz xs) as:=by
  intro n ih vs xs r;induction vs generalizing xs with
  |nil=>intro _;cases r;exact⟨_,.nil⟩
  |cons v vs ih2=>
   intro h
   cases r with
   |cons rv r=>
    obtain⟨as,h1⟩:=ih rv (h _ (.head _));obtain⟨bs,h2⟩:=ih2 r λx hx=>h x (.tail _ hx);exact⟨_,.cons h1 h2⟩
 induction n with
 |zero=>
  intro v x r h
  cases r with
  |none=>exact⟨_,.none⟩
  |int i t=>exact⟨_,.int i t⟩
  |chr c t=>exact⟨_,.str _ t⟩
  |_=>exact h.elim
 |succ n ih=>
  intro v x r h
  cases r with
  |none=>exact⟨_,.none⟩
  |int i t=>exact⟨_,.int i t⟩
  |chr c t=>exact⟨_,.str _ t⟩
  |ao e l r=>
   obtain⟨as,h2⟩:=all n ih r h;exact⟨_,.tuple (i.imm _ _ e) rfl rfl h2⟩
  |ad e l r=>
   obtain⟨as,h2⟩:=all n ih r h;exact⟨_,.list (i.imm _ _ e) rfl rfl h2⟩
  |_=>exact h.elim
theorem xA:∀(n:Nat) {x:V},jg n x->(pd x).canLay0=true/\(pd x).depth<=n+1:=by
 intro n;have all:∀(n:Nat),(∀{x:V},jg n x->(pd x).canLay0=true/\(pd x).depth<=n+1)->∀{xs:List V},(∀x∈xs,jg n x)->PyData.canLayAll0 (rz xs)=true/\PyData.depthAll (rz xs)<=n+1:=by
  intro n ih xs;induction xs with
  |nil=>intro _;exact⟨by simp [rz,PyData.canLayAll0],by simp [rz,PyData.depthAll]⟩
  |cons x xs ih2=>
   intro h;obtain⟨h1,h2⟩:=ih (h _ (.head _));obtain⟨h3,h4⟩:=ih2 λx hx=>h x (.tail _ hx);exact⟨by simp [rz,PyData.canLayAll0,h1,h3],by simp [rz,PyData.depthAll];omega⟩
 have ch:∀c,c<128->(PyData.str ⟨#[c]⟩).canLay0=true:=by
  intro c h;simp [PyData.canLay0,PyData.strOk];omega
 induction n with
 |zero=>
  intro x h
  cases x with
  |none=>exact⟨by simp [pd,PyData.canLay0],by simp [pd,PyData.depth]⟩
  |int i=>exact⟨by simp [pd,PyData.canLay0],by simp [pd,PyData.depth]⟩
  |chr c=>exact⟨ch c h,by simp [pd,PyData.depth]⟩
  |_=>exact h.elim
 |succ n ih=>
  intro x h
  cases x with
  |none=>exact⟨by simp [pd,PyData.canLay0],by simp [pd,PyData.depth]⟩
  |int i=>exact⟨by simp [pd,PyData.canLay0],by simp [pd,PyData.depth]⟩
  |chr c=>exact⟨ch c h,by simp [pd,PyData.depth]⟩
  |ao xs=>obtain⟨h1,h2⟩:=all n ih h;exact⟨by simp [pd,PyData.canLay0,h1],by simp [pd,PyData.depth];omega⟩
  |ad xs=>obtain⟨h1,h2⟩:=all n ih h;exact⟨by simp [pd,PyData.canLay0,h1],by simp [pd,PyData.depth];omega⟩
  |_=>exact h.elim
theorem xB:∀(n:Nat) {x y:V},jg n x->jg n y->(PyData.eqv (pd x) (pd y)=true↔x=y):=by
 intro n;have all:∀(n:Nat),(∀{x y:V},jg n x->jg n y->(PyData.eqv (pd x) (pd y)=true↔x=y))->∀{xs ys:List V},(∀x∈xs,jg n x)->(∀x∈ys,jg n x)->(PyData.eqvAll (rz xs) (rz ys)=true↔xs=ys):=by
  intro n ih xs;induction xs with
  |nil=>intro ys _ _;cases ys<;>simp [rz,PyData.eqvAll]
  |cons x xs ih2=>
   intro ys h g
   cases ys with
   |nil=>simp [rz,PyData.eqvAll]
   |cons y ys=>
    have a:=ih (h _ (.head _)) (g _ (.head _));have b:=ih2 (λx hx=>h x (.tail _ hx)) (λx hx=>g x (.tail _ hx));simp only [rz,PyData.eqvAll,Bool.and_eq_true,a,b,List.cons.injEq]
 induction n with
 |zero=>
  intro x y h g
  cases x<;>first|exact h.elim|(cases y<;>first|exact g.elim|simp [pd,PyData.eqv])
 |succ n ih=>
  intro x y h g
  cases x<;>first|exact h.elim|(cases y<;>first|exact g.elim|(simp [pd,PyData.eqv];done)|(simp only [pd,PyData.eqv,V.ao.injEq,V.ad.injEq];exact all n ih h g))
theorem Bx{n:Bool}{p:CmpOp}{x y:V}(hu:A.units+64<cLine)(i:aK C I π H s)(ho:oG n p=true)(ra:RV C I π va x)(rb:RV C I π vb y)
  (k:xv H x λx=>xv H y λy=>av (vz x y) (K (.bool (b0 n (kX x y))) H)):
  Wa C A (compareOp p va vb) (PE C I π s K) aH s:=by
 have all:∀{vs:List Value} {xs:List V},bx C I π vs xs->(∀x∈xs,jg 7 x)->∃as,ReadsAll s.heap vs (rz xs) as:=by
  intro vs xs r;induction vs generalizing xs with
  |nil=>intro _;cases r;exact⟨_,.nil⟩
  |cons v vs ih2=>
   intro h
   cases r with
   |cons rv r=>
    obtain⟨as,h1⟩:=cE i 7 rv (h _ (.head _));obtain⟨bs,h2⟩:=ih2 r λx hx=>h x (.tail _ hx);exact⟨_,.cons h1 h2⟩
 have look:∀{v:Value} {x:V} {P:V->Prop},RV C I π v x->xv H x P->∃z,P z/\(jg 8 z->∃as,Reads s.heap v (pd z) as)/\(∀xs,z= .ad xs->∃l vs,v= .ref l/\s.heap.IsList l vs/\vs.size=xs.length):=by
  intro v x P r h
  cases r with
  |ref e=>
   obtain⟨o,ho,hk⟩:=bL.h h
   cases o with
   |ad xs=>
    obtain⟨e1,vs,n,h1,h2,h3⟩:=i.obj _ _ _ e ho;simp only at e1;subst e1;refine⟨_,hk,λok=>?_,λys ey=>?_⟩
    ·obtain⟨as,ha⟩:=all h2 ok;exact⟨_,.list h1 rfl rfl ha⟩
    ·cases ey;exact⟨_,vs.toArray,rfl,⟨_,h1,rfl,_,rfl⟩,by rw [List.size_toArray];exact h2.length⟩
   |_=>exact hk.elim
  |none=>exact⟨_,h,cE i 8 .none,λ_ e=>by cases e⟩
  |bool b=>exact⟨_,h,cE i 8 (.bool b),λ_ e=>by cases e⟩
  |int j t=>exact⟨_,h,cE i 8 (.int j t),λ_ e=>by cases e⟩
  |chr c t=>exact⟨_,h,cE i 8 (.chr c t),λ_ e=>by cases e⟩
  |ao e l r=>exact⟨_,h,cE i 8 (.ao e l r),λ_ e=>by cases e⟩
  |ad e l r=>exact⟨_,h,cE i 8 (.ad e l r),λys ey=>by cases ey;exact⟨_,_,rfl,⟨_,i.imm _ _ e,rfl,_,rfl⟩,by rw [List.size_toArray];exact r.length⟩⟩
  |obj e1 e2 f l r=>exact⟨_,h,cE i 8 (.obj e1 e2 f l r),λ_ e=>by cases e⟩
  |dct e d m l r=>exact⟨_,h,cE i 8 (.dct e d m l r),λ_ e=>by cases e⟩
 obtain⟨x',k,rx,lx⟩:=look ra k;obtain⟨y',k,ry,ly⟩:=look rb k;obtain⟨kp,k⟩:=k;rcases kp with kp|⟨xs,ys,ex,ey,hl⟩
 ·obtain⟨as,rx⟩:=rx kp.1;obtain⟨bs,ry⟩:=ry kp.2;have sh:∀{z:V},jg 8 z->SeqAt.shaped (pd z)=true:=λh=>by
   obtain⟨h1,h2⟩:=xA 8 h;unfold SeqAt.shaped;rw [h1,Bool.true_and,decide_eq_true_eq];omega
  have e:PyData.eqv (pd x') (pd y')=kX x' y':=by
   rw [Bool.eq_iff_iff,xB 8 kp.1 kp.2];simp [kX]
  cases n<;>cases p<;>first|(cases ho;done)|skip
  ·exact eq_dataH rx ry (sh kp.1) (sh kp.2) hu (.here i (.bool _) (by rw [e];exact k))
  ·exact ne_dataH rx ry (sh kp.1) (sh kp.2) hu (.here i (.bool _) (by rw [e];exact k))
 ·obtain⟨l1,v1,e1,h1,z1⟩:=lx _ ex;obtain⟨l2,v2,e2,h2,z2⟩:=ly _ ey;subst ex ey e1 e2;have e:kX (.ad xs) (.ad ys)=false:=by
   unfold kX;simp only [V.ad.injEq,decide_eq_false_iff_not];rintro rfl
   exact hl rfl
  rw [e]at k;have hz:(v1.size != v2.size)=true:=by rw [z1,z2,bne_iff_ne];exact hl
  have hu2:A.units<cLine:=by omega
  cases n<;>cases p<;>first|(cases ho;done)|skip
  ·exact SeqAt.RcAt.lists_lengths h1 h2 hz hu2 _ _ _ _ (.here i (.bool _) k)
  ·exact SeqAt.RcNeAt.lists_lengths h1 h2 hz hu2 _ _ _ _ (.here i (.bool _) k)
end
def By(K:V->Hp->Prop)(H2:Hp)(r:Nat)(xs:List V):V->Prop
 |.ad ys=>av (sizeOk (xs.length+ys.length)) (K .none (H2.set r (.ad (xs++ys))))
 |_=>False
def Bz(K:V->Hp->Prop)(va:V):List V->Hp->Prop
 | [v],H2=>cY H2 va λr xs=>By K H2 r xs v
 |_,_=>False
section
variable {C:Cx}{I I':Im}{π π':Pi}{ρ:aE}{H:Hp}{s s':Shared}{A:Around}{K:V->Hp->Prop}{env:Env}
theorem aK.put{r:Nat}{p:Addr×Addr}{co:CO}{t:Nat}(i:aK C I π H s)(hp:π[r]?=some p)(hr:r<H.length)(same:∀b,b≠p.2->h'.get? b=s.heap.get? b)(hco:ua C I π h' p co)(hn:∃o,h'.get? p.2=some o):
  bz [] I π s I π {s with heap:=h',toks:=t}/\aK C I π (H.set r co) {s with heap:=h',toks:=t}:=by
 have pm:p∈π:=List.mem_of_getElem? hp;refine⟨⟨λ_ _ h=>h,⟨[],by simp,λ_ h=>(nomatch h)⟩,λb o h h1 _=>?_,λb o h=>?_,λ_ _ h=>.inl h⟩,
  ⟨λa o h=>?_,i.kin,by rw [List.length_set];exact i.len,λk q c hq hc=>?_,i.apart,λq hq=>⟨(i.sep q hq).1,?_⟩,i.gens,i.os⟩⟩
 ·show h'.get? b=some o;rw [same b λe=>h1 (e▸List.mem_map_of_mem (f:=λx:Addr×Addr=>x.2) pm)];exact h
 ·by_cases e:b=p.2
  ·rw [e];exact hn
  ·exact⟨o,(same b e).trans h⟩
 ·show h'.get? a=some o;rw [same a λe=>by rw [e,(i.sep p pm).1]at h;cases h];exact i.imm _ _ h
 ·by_cases e:k=r
  ·subst e;rw [hp]at hq;cases hq;rw [List.getElem?_set_self hr]at hc;cases hc;exact hco
  ·rw [List.getElem?_set_ne (λh=>e h.symm)]at hc;refine(i.obj k q c hq hc).mono (λ_ _ h=>h) ⟨[],by simp⟩ λo ho=>?_;show h'.get? q.2=some o;rw [same q.2 λee=>?_]
   ·exact ho
   ·have h1:(π.map (·.2))[k]?=some p.2:=by rw [List.getElem?_map,hq,←ee];rfl
    have h2:(π.map (·.2))[r]?=some p.2:=by rw [List.getElem?_map,hp];rfl
    have hk:=(List.getElem?_eq_some_iff.mp h1).1;exact e ((List.getElem?_inj hk i.apart).mp (h1.trans h2.symm))
 ·by_cases e:q.2=p.2
  ·show∃o,h'.get? q.2=some o;rw [e];exact hn
  ·obtain⟨o,ho⟩:=(i.sep q hq).2;exact⟨o,(same _ e).trans ho⟩
theorem pZ{r:Nat}{xs:List V}(i:aK C I π H s)(ra:RV C I π va (.ref r))(h:H[r]?=some (.ad xs)):∃a vs n,va= .ref a/\π[r]?=some (a,a)/\PySem.IsL s.heap a vs.toArray n/\bx C I π vs xs/\vs.length<=10000000:=by
 cases ra with
 |ref e=>
  obtain⟨e1,vs,n,h1,h2,h3⟩:=i.obj _ _ _ e h;simp only at e1;subst e1;exact⟨_,_,_,rfl,e,h1,h2,h3⟩
theorem gE{r:Nat}{ws:List Value}{t:Nat}{g:Array Value->Array Value}(i:aK C I π H s)(hp:π[r]?=some (a,a))(hr:r<H.length)(ha:PySem.IsL s.heap a vs.toArray n)(hg:g vs.toArray=ws.toArray)(rw':bx C I π ws ys)(hz:ws.length<=10000000):
  bz [] I π s I π {s with heap:=s.heap.update a (Obj.mapSeq g),toks:=t}/\aK C I π (H.set r (.ad ys)) {s with heap:=s.heap.update a (Obj.mapSeq g),toks:=t}:=by
 have hget:=get?_update_seq (c:="list") (xs:=vs.toArray) (n:=n) ha g;rw [hg]at hget;exact i.put hp hr (λb e=>Heap.get?_update_ne _ _ _ _ e) ⟨rfl,ws,_,hget,rw',hz⟩ ⟨_,hget⟩
theorem PE.put{r:Nat}{x:V}{co:CO}{t:Nat}(e:bz [] I π s I π {s with heap:=h',toks:=t})(i:aK C I π (H.set r co) {s with heap:=h',toks:=t})(rv:RV C I π v x)(k:K x (H.set r co)):PE C I π s K v {s with heap:=h',toks:=t}:=
 ⟨I,π,x,_,e,i,rv,k⟩
theorem ud{y:V}{P:Prop}(i:aK C I π H s)(ra:RV C I π va y)(k:dY H y P):∃r a vs n,y= .ref r/\va= .ref a/\PySem.IsL s.heap a vs n/\P:=by
 cases y with
 |ref r=>
  obtain⟨o,ho,hk⟩:=bL.h k
  cases o with
  |ad xs=>
   obtain⟨a',vs,n,ea,hp,hl,rv,hz⟩:=pZ i ra ho;exact⟨r,a',_,n,rfl,ea,hl,hk⟩
  |_=>exact hk.elim
 |_=>exact k.elim
theorem gY{y:V}{P:Nat->List V->Prop}(i:aK C I π H s)(ra:RV C I π va y)(k:cY H y P):
  ∃r a vs n xs,va= .ref a/\π[r]?=some (a,a)/\r<H.length/\PySem.IsL s.heap a vs.toArray n/\bx C I π vs xs/\vs.length<=10000000/\P r xs:=by
 cases y with
 |ref r=>
  obtain⟨o,ho,hk⟩:=bL.h k
  cases o with
  |ad xs=>
   obtain⟨a',vs,n,ea,hp,hl,rv,hz⟩:=pZ i ra ho;exact⟨r,a',vs,n,xs,ea,hp,(List.getElem?_eq_some_iff.mp ho).1,hl,rv,hz,hk⟩
  |_=>exact hk.elim
 |_=>exact k.elim
theorem BB{y x:V}(i:aK C I π H s)(ra:RV C I π va y)(rb:RV C I π vb x)
  (k:cY H y λr xs=>av (sizeOk (xs.length+1)) (K .none (H.set r (.ad (xs++[x]))))):Wa C A (call (.builtin "list.append") [va,vb]) (PE C I π s K) aH s:=by
 obtain⟨r,a,vs,n,xs,rfl,hp,hr,hl,rv,hz,k⟩:=gY i ra k;obtain⟨e2,i2⟩:=gE (t:=s.toks) (ws:=vs++[vb]) (ys:=xs++[x]) (g:=λxs=>xs.push vb) i hp hr hl (by simp) (rv.append (.cons rb .nil)) (by rw [List.length_append,rv.length];exact k.p);exact call_meets F.slot_list_append ⟨_,hl,rfl⟩ F.entry_list_append (F.args_list_append_2 _ _) (list_append a vs.toArray n vb (by rw [List.size_toArray];exact dq hz)) ⟨hl,.put e2 i2 .none k.k⟩
theorem BC{y x:V}(i:aK C I π H s)(ra:RV C I π va y)(rb:RV C I π vb x)
  (k:Bz K y [x] H):Wa C A (call (.builtin "list.extend") [va,vb]) (PE C I π s K) aH s:=by
 have k':cY H y λr xs=>By K H r xs x:=k;obtain⟨r,a,vs,n,xs,rfl,hp,hr,hl,rv,hz,k⟩:=gY i ra k'
 cases rb with
 | @ad b ws m ys e l rs=>
  have hz2:(vs++ws).length<=10000000:=by rw [List.length_append,rv.length,rs.length];exact k.p
  obtain⟨e2,i2⟩:=gE (t:=s.toks) (ws:=vs++ws) (ys:=xs++ys) (g:=λxs=>xs++ws.toArray) i hp hr hl (by simp) (rv.append rs) hz2;rw [List.length_append]at hz2;refine call_meets F.slot_list_extend ⟨_,hl,rfl⟩ F.entry_list_extend (F.args_list_extend_2 _ _) (AutoSeq1.list_extend_list_list_0 a vs.toArray n b ws.toArray m ?_ ?_ ?_) ⟨hl,i.imm _ _ e,.put e2 i2 .none k.k⟩
  ·simp only [List.size_toArray];have:Builtin.List.listTooLong (vs.length+ws.length)=false:=by
    unfold Builtin.List.listTooLong;rw [decide_eq_false_iff_not];have:=dq hz2;omega
   rw [this];simp
  ·rw [List.size_toArray];exact dq hz
  ·simp only [List.size_toArray];have:=dq hz2;omega
 |_=>exact k.elim
theorem BD{y:V}(i:aK C I π H s)(ra:RV C I π va y)(rb:RV C I π vb (.int 0))
  (k:cY H y λr xs=>match xs with
   |x::xs=>K x (H.set r (.ad xs))
   | []=>False):Wa C A (call (.builtin "list.pop") [va,vb]) (PE C I π s K) aH s:=by
 obtain⟨r,a,vs,n,xs,rfl,hp,hr,hl,rv,hz,k⟩:=gY i ra k
 cases rb with|int _ t=>
 cases rv with
 |nil=>exact k.elim
 | @cons v vs x xs r1 rv=>
  obtain⟨e2,i2⟩:=gE (t:=s.toks) (ws:=vs) (ys:=xs) (g:=λxs=>xs.eraseIdxIfInBounds 0) i hp hr hl (by simp [Array.eraseIdxIfInBounds]) rv (by simp at hz;omega);exact call_meets F.slot_list_pop ⟨_,hl,rfl⟩ F.entry_list_pop (F.args_list_pop_2 _ _) (MeetsSeq.list_pop_at a (v::vs).toArray n 0 t 0 v (by decide) (seqIndex_of (by omega) (by simp)) (by simp) (by rw [List.size_toArray];exact dq hz)) ⟨hl,.put e2 i2 r1 k⟩
theorem BE{vc:Value}{y x:V}(i:aK C I π H s)(ra:RV C I π va y)(rb:RV C I π vb (.int 0))(rc:RV C I π vc x)
  (k:cY H y λr xs=>av (sizeOk (xs.length+1)) (K .none (H.set r (.ad (x::xs))))):Wa C A (call (.builtin "list.insert") [va,vb,vc]) (PE C I π s K) aH s:=by
 obtain⟨r,a,vs,n,xs,rfl,hp,hr,hl,rv,hz,k⟩:=gY i ra k
 cases rb with|int _ t=>
 obtain⟨e2,i2⟩:=gE (t:=s.toks) (ws:=vc::vs) (ys:=x::xs) (g:=λxs=>have k:=if(0:Int)<0 then((0:Int)+(xs.size:Int)).toNat else min (0:Int).toNat xs.size;(xs.extract 0 k).push vc++xs.extract k) i hp hr hl (by simp) (.cons rc rv) (by rw [List.length_cons,rv.length];exact k.p);exact call_meets F.slot_list_insert ⟨_,hl,rfl⟩ F.entry_list_insert (F.args_list_insert_3 _ _ _) (AutoSeq1.list_insert_list_int_val_1 a vs.toArray n 0 t vc (by decide) (by rw [List.size_toArray];exact dq hz)) ⟨hl,.put e2 i2 .none k.k⟩
end
section
variable {prog:Program}{w:World}{A:Around}{E:Value->Shared->Prop}{s:Shared}{K:Frag}{x Ca dx:Addr}{ox:Obj}{es:List DictEntry}{n:Nat}{name:Str}{v:Value}
theorem ue{R:Result->Shared->Prop}{tk:Tok}(X:K.In s.heap)(I:PySem.W.InstAt s.heap x ox Ca (some (PySem.W.dictOf es n)))(hd:ox.dict=some dx)(hp:plainOver K Ca=true)(ht:takerIn K Ca name=some none)(hh:hasDictIn K Ca=true)(hl:(getL name es).isSome=true)
  (hz:(putL name (PyData.keyHash w.params name) (.str name s.toks) v es).length<=1000)
  (h':R (.ok (.ret .none)) {s with heap:=s.heap.update dx (Obj.putName name (PyData.keyHash w.params name) (.str name s.toks) v),toks:=s.toks+1}):
  codeAny (model prog w) A (.call (.builtin "object.__setattr__") ⟨[.ref x,.str name tk,v],[]⟩) R s:=by
 refine osa_open X I hp ht λb=>?_;obtain⟨cd,hc,hd'⟩:=any_some hh;obtain⟨hx,hcl,hn,hdd⟩:=I;obtain⟨oc,odi,oda,osl⟩:=ox;dsimp only at hcl hd hdd;subst hcl hd;have D:s.heap.get? dx=some (PySem.W.dictOf es n):=hdd;have D':(s.heap.update dx (Obj.putName name (PyData.keyHash w.params name) (.str name s.toks) v)).get? dx=some (PySem.W.dictOf (putL name (PyData.keyHash w.params name) (.str name s.toks) v es) (putN name es n)):=by
  rw [Heap.get?_update_self _ D (by rw [putName_dict];rfl),putName_dict]
 refine wpAny_bind (wpAny_pure (wpAny_bind (wpAny_bind (wpAny_loadPart hx (wpAny_bind ((looks_clsIn X hc).here ?_))))));rw [hd'];refine wpAny_pure (a:=some dx) (wpAny_bind (wpAny_pure (wpAny_bind ?_)));unfold nsSet;refine wpAny_bind (wpAny_bind (wpAny_askSetting (wpAny_pure (wpAny_bind (wpAny_mkText (wpAny_bind (wpAny_loadPart D ?_)))))));dsimp only;have c:(!es.toArray.any (·.key.isStr name)&&es.toArray.any (·.refKey))=false:=by
  rw [←Array.any_toList,←Array.any_toList];unfold getL at hl;split at hl
  ·rename_i en he;rw [List.any_eq_true.mpr ⟨en,List.mem_of_find?_eq_some he,List.find?_some he⟩];rfl
  ·split at hl
   ·cases hl
   ·rename_i z;rw [Bool.not_eq_true]at z;rw [show es.toArray.toList=es from rfl,z,Bool.and_false]
 rw [aRefKeyMayBeTheName_at,c];refine wpAny_updatePart D ?_;refine wpAny_bind (wpAny_lookBehind D' (pastItsLine_dict (by rw [List.size_toArray,sizeLine_eq];omega)) ?_);exact wpAny_pure h'
theorem uf{Q:Unit->Shared->Prop}(X:K.In s.heap)(I:PySem.W.InstAt s.heap x ox Ca (some (PySem.W.dictOf es n)))(hd:ox.dict=some dx)(hs:findIn K (.ref Ca) "__setattr__"=some (some (.builtin "object.__setattr__")))(hp:plainOver K Ca=true)(ht:takerIn K Ca name=some none)(hh:hasDictIn K Ca=true)(hl:(getL name es).isSome=true)
  (hz:(putL name (PyData.keyHash w.params name) (.str name (s.toks+1)) v es).length<=1000)
  (h':Q () {s with heap:=s.heap.update dx (Obj.putName name (PyData.keyHash w.params name) (.str name (s.toks+1)) v),toks:=s.toks+2}):
  wpAny (model prog w) A (setAttr (.ref x) name v) Q E s:=
 set_plain X I hs (ue (s:={s with toks:=s.toks+1}) X I hd hp ht hh hl hz h')
end
section
variable {C:Cx}{I I':Im}{π π':Pi}{ρ:aE}{H:Hp}{s s':Shared}{A:Around}{K:V->Hp->Prop}{env:Env}
theorem p0{T:Tb}{N:Nm}{c:Nat}{es:List DictEntry}{vs:List (Option Value)}(F:cR T N c es vs):es.any (·.refKey)=false:=by
 rw [List.any_eq_false];intro e he;obtain⟨f,t,-,hk⟩:=F.2.1 e he;obtain⟨h,k,v⟩:=e;simp only at hk;subst hk;exact Bool.false_ne_true
theorem fw(x y:Str)(t:Tok):(Value.str y t).isStr x=(y==x):=rfl
theorem nb{T:Tb}{N:Nm}{c:Nat}{es:List DictEntry}{vs:List (Option Value)}(F:cR T N c es vs){x:Str}(h:∀f k,T.slot c f=some k->N.anm f≠x):getL x es=some none:=by
 unfold getL;have e:es.find? (·.key.isStr x)=none:=by
  rw [List.find?_eq_none];intro e he;obtain⟨f,t,hs,hk⟩:=F.2.1 e he;obtain⟨k,hk'⟩:=Option.isSome_iff_exists.mp hs;rw [hk,fw];simpa using h f k hk'
 rw [e];simp only [p0 F];rfl
theorem eG{x:Str}{es:List DictEntry}(h:getL x es=some (some v)):∃e,es.find? (·.key.isStr x)=some e/\e.val=v:=by
 unfold getL at h;split at h
 ·rename_i e he;cases h;exact⟨e,he,rfl⟩
 ·split at h<;>cases h
theorem iB(x:Str)(hsh:Int)(t:Tok)(v:Value):∀es:List DictEntry,getL x (putL x hsh (.str x t) v es)=some (some v)
 | []=>by simp [putL,getL,fw]
 |e::r=>by
  by_cases h:e.key.isStr x=true
  ·simp [putL,h,getL]
  ·have ih:=iB x hsh t v r;have h':e.key.isStr x=false:=by simpa using h
   obtain⟨e',h1,h2⟩:=eG ih;have:putL x hsh (.str x t) v (e::r)=e::putL x hsh (.str x t) v r:=by simp [putL,h']
   rw [this];unfold getL;simp only [List.find?_cons,h',h1,h2]
theorem p3{x y:Str}(hne:¬x=y)(hsh:Int)(t:Tok)(v:Value):∀es:List DictEntry,getL y es=some (some u)->(∀e∈es,∃z t',e.key= .str z t')->getL y (putL x hsh (.str x t) v es)=some (some u):=by
 intro es h hk;obtain⟨e,h1,h2⟩:=eG h;have key:∃e',(putL x hsh (.str x t) v es).find? (·.key.isStr y)=some e'/\e'.val=u:=by
  clear h;induction es with
  |nil=>simp at h1
  |cons d r ih=>
   obtain⟨z,t',hd⟩:=hk d (.head _);by_cases hx:d.key.isStr x=true
   ·have zx:z=x:=by rw [hd,fw]at hx;simpa using hx
    have hy:d.key.isStr y=false:=by rw [hd,fw,zx];simpa using hne
    have:putL x hsh (.str x t) v (d::r)=⟨d.hash,d.key,v⟩::r:=by simp [putL,hx]
    rw [this];simp only [List.find?_cons,hy]at h1⊢;exact⟨e,h1,h2⟩
   ·have hx':d.key.isStr x=false:=by simpa using hx
    have:putL x hsh (.str x t) v (d::r)=d::putL x hsh (.str x t) v r:=by simp [putL,hx']
    rw [this];by_cases hy:d.key.isStr y=true
    ·simp only [List.find?_cons,hy]at h1⊢
     cases h1;exact⟨_,rfl,h2⟩
    ·have hy':d.key.isStr y=false:=by simpa using hy
     simp only [List.find?_cons,hy']at h1⊢;exact ih (λe he=>hk e (.tail _ he)) h1
 obtain⟨e',h3,h4⟩:=key;unfold getL;rw [h3];simp [h4]
theorem jm{x:Str}{hsh:Int}{key v:Value}:∀{es:List DictEntry} {e:DictEntry},e∈putL x hsh key v es->e.key=key\/∃d∈es,e.key=d.key
 | [],e,h=>by simp [putL]at h;exact .inl (by rw [h])
 |d::r,e,h=>by
  by_cases hx:d.key.isStr x=true
  ·have:putL x hsh key v (d::r)=⟨d.hash,d.key,v⟩::r:=by simp [putL,hx]
   rw [this]at h;rcases List.mem_cons.mp h with rfl|h
   ·exact .inr ⟨d,.head _,rfl⟩
   ·exact .inr ⟨e,.tail _ h,rfl⟩
  ·have hx':d.key.isStr x=false:=by simpa using hx
   have:putL x hsh key v (d::r)=d::putL x hsh key v r:=by simp [putL,hx']
   rw [this]at h;rcases List.mem_cons.mp h with rfl|h
   ·exact .inr ⟨e,.head _,rfl⟩
   ·rcases jm h with h|⟨d',h1,h2⟩
    ·exact .inl h
    ·exact .inr ⟨d',.tail _ h1,h2⟩
theorem p4{x:Str}{hsh:Int}{key v:Value}:∀{es:List DictEntry},(putL x hsh key v es).length<=es.length+1
 | []=>by simp [putL]
 |d::r=>by
  by_cases hx:d.key.isStr x=true
  ·simp [putL,hx]
  ·have hx':d.key.isStr x=false:=by simpa using hx
   have:=p4 (x:=x) (hsh:=hsh) (key:=key) (v:=v) (es:=r);simp [putL,hx'];exact this
theorem nc{x:Str}{hsh:Int}{key v:Value}:∀{es:List DictEntry},es.any (·.key.isStr x)=true->(putL x hsh key v es).length=es.length
 | [],h=>by simp at h
 |d::r,h=>by
  by_cases hx:d.key.isStr x=true
  ·simp [putL,hx]
  ·have hx':d.key.isStr x=false:=by simpa using hx
   have:=nc (x:=x) (hsh:=hsh) (key:=key) (v:=v) (es:=r) (by simpa [hx']using h);simp [putL,hx',this]
theorem cR.put{c:Nat}{es:List DictEntry}{vs:List (Option Value)}(ok:m9 C c)(F:cR C.T C.N c es vs)(hs:C.T.slot c f=some k)(hk:k<vs.length)(hsh:Int)(t:Tok)(v:Value):
  cR C.T C.N c (putL (C.N.anm f) hsh (.str (C.N.anm f) t) v es) (vs.set k (some v)):=by
 obtain⟨h1,h2,h3⟩:=F;refine⟨λf' k' hs'=>?_,λe he=>?_,?_⟩
 ·by_cases e:k=k'
  ·subst e;have:=(ok.nms f f' k k hs hs').mp rfl;refine⟨some v,by rw [List.getElem?_set_self hk],?_⟩;rw [←this];exact iB _ _ _ _ _
  ·have ne:¬C.N.anm f=C.N.anm f':=λq=>e ((ok.nms f f' k k' hs hs').mpr q);obtain⟨u,hu,hg⟩:=h1 f' k' hs';refine⟨u,by rw [List.getElem?_set_ne e];exact hu,?_⟩
   cases u with
   |some u=>exact p3 ne _ _ _ es hg λe he=>let⟨f'',t'',_,hk''⟩:=h2 e he;⟨_,t'',hk''⟩
   |none=>
    have hn:∀e∈es,e.key.isStr (C.N.anm f')=false:=by
     unfold getL at hg;split at hg
     ·cases hg
     ·rename_i q;rw [List.find?_eq_none]at q;intro e he;simpa using q e he
    have q:∀e∈putL (C.N.anm f) hsh (.str (C.N.anm f) t) v es,e.key.isStr (C.N.anm f')=false:=by
     intro e he;rcases jm he with h|⟨d,hd,h⟩
     ·rw [h,fw];simpa using ne
     ·rw [h];exact hn d hd
    have rk:(putL (C.N.anm f) hsh (.str (C.N.anm f) t) v es).any (·.refKey)=false:=by
     rw [List.any_eq_false];intro e he;have:∃z t',e.key= .str z t':=by
      rcases jm he with h|⟨d,hd,h⟩
      ·exact⟨_,_,h⟩
      ·obtain⟨f'',t'',_,hk''⟩:=h2 d hd;exact⟨_,_,h.trans hk''⟩
     obtain⟨z,t',h⟩:=this;obtain⟨a,b,c⟩:=e;simp only at h;subst h;exact Bool.false_ne_true
    unfold getL;have e0:(putL (C.N.anm f) hsh (.str (C.N.anm f) t) v es).find? (·.key.isStr (C.N.anm f'))=none:=by
     rw [List.find?_eq_none];intro e he;rw [q e he];simp
    rw [e0];simp [rk]
 ·rcases jm he with h|⟨d,hd,h⟩
  ·exact⟨f,t,by rw [hs];rfl,h⟩
  ·obtain⟨f',t',a,b⟩:=h2 d hd;exact⟨f',t',a,h.trans b⟩
 ·obtain⟨u,hu,hg⟩:=h1 f k hs;have hval:vs[k]=u:=by
   rw [List.getElem?_eq_getElem hk]at hu;exact Option.some.inj hu
  cases u with
  |some u=>
   obtain⟨e,he,-⟩:=eG hg;rw [nc (List.any_eq_true.mpr ⟨e,List.mem_of_find?_eq_some he,List.find?_some (p:=λx:DictEntry=>x.key.isStr (C.N.anm f)) he⟩),List.countP_set hk,hval];simp;omega
  |none=>
   have:=p4 (x:=C.N.anm f) (hsh:=hsh) (key:=.str (C.N.anm f) t) (v:=v) (es:=es);rw [List.countP_set hk,hval];simp;omega
end
section
variable {C:Cx}{I I':Im}{π π':Pi}{ρ:aE}{H:Hp}{s s':Shared}{A:Around}{K:V->Hp->Prop}{env:Env}
theorem ng{x:V}(r:RV C I π v x):handedIn v=true:=by cases r<;>rfl
theorem vH{d:Addr}{c:Nat}{es:List DictEntry}{vs:List (Option Value)}(ok:m9 C c)(X:C.K.In s.heap)
  (ha:s.heap.get? a=some (instObj (C.N.ca c) d)) (hd:s.heap.get? d=some (pS es n)) (F:cR C.T C.N c es vs)
  (h:(∃k v,C.T.slot c f=some k/\vs[k]?=some (some v)/\handedIn v=true/\Q v {s with toks:=s.toks+1})\/(C.T.slot c f=none/\∃x,C.T.own c f=some x/\∀v,(∀I π,RV C I π v x)->Q v {s with toks:=s.toks+1})):
  Wa C A (getAttr (.ref a) (C.N.anm f) true) Q aH s:=by
 have I0:PySem.W.InstAt s.heap a (instObj (C.N.ca c) d) (C.N.ca c) (some (pS es n)):=⟨ha,rfl,rfl,hd⟩
 rcases h with⟨k,v,hs,hv,hh,q⟩|⟨hs,x,hx,q⟩
 ·obtain⟨attr,h1,h2,-⟩:=ok.fld f k hs;obtain⟨u,hu,hg⟩:=F.1 f k hs;rw [hv]at hu
  cases hu;exact get_value X I0 (plainGet_of ok.ga).1 (findObj_own ok.hd h1 h2 hg) hh q
 ·obtain⟨w,h1,h2,h3,h4,h5,h6⟩:=ok.own f x hs hx;exact get_value X I0 (plainGet_of ok.ga).1 (findObj_cls ok.hd h1 h2 h3 h4 (nb F h6)) h3 (q w h5)
theorem yM{x:V}{P:V->Prop}(ok:eF C)(i:aK C I π H s)(ra:RV C I π va x)(k:m8 C.T H f x P)
  (q:∀v y,RV C I π v y->P y->Q v {s with toks:=s.toks+1}):Wa C A (getAttr va (C.N.anm f) true) Q aH s:=by
 cases ra with
 | @obj a d c es n vs fs h1 h2 F hz r=>
  obtain⟨y,hy,hP⟩:=aS.h k;have cok:m9 C c:=ok.cls c f (by
   unfold rD at hy
   cases hs:C.T.slot c f with
   |some k=>exact .inl rfl
   |none=>rw [hs]at hy;exact .inr (by show(C.T.own c f).isSome=true;rw [show C.T.own c f=some y from hy];rfl))
  refine vH cok i.In (i.imm _ _ h1) (i.imm _ _ h2) F ?_;unfold rD at hy
  cases hs:C.T.slot c f with
  |some k=>
   rw [hs]at hy;obtain⟨v,hv,rv⟩:=r.get hy;exact .inl ⟨k,v,rfl,by rw [List.getElem?_map,hv];rfl,ng rv,q v y rv hP⟩
  |none=>
   rw [hs]at hy;exact .inr ⟨rfl,y,hy,λv hv=>q v y (hv _ _) hP⟩
 |ref e=>
  obtain⟨o,ho,hk⟩:=bL.h k
  cases o with
  |inst c fs=>
   obtain⟨y,hy,hP⟩:=aS.h hk;obtain⟨h1,es,n,vs,h2,F,hl,hz,h5⟩:=i.obj _ _ _ e ho;have cok:m9 C c:=ok.cls c f (by
    unfold oC at hy
    cases hs:C.T.slot c f with
    |some k=>exact .inl rfl
    |none=>rw [hs]at hy;exact .inr (by show(C.T.own c f).isSome=true;rw [show C.T.own c f=some y from hy];rfl))
   refine vH cok i.In (i.imm _ _ h1) h2 F ?_;unfold oC at hy
   cases hs:C.T.slot c f with
   |some k=>
    rw [hs]at hy;have:=h5 k
    cases hv:vs[k]? with
    |none=>rw [hv]at this;revert hy this;simp only;cases fs[k]?<;>simp
    |some v=>
     rw [hv]at this
     revert hy this
     simp only
     cases hf:fs[k]? with
     |none=>simp
     |some z=>
      cases z with
      |none=>simp
      |some z=>
       cases v with
       |none=>simp
       |some v=>
        intro hy rv
        cases hy;exact .inl ⟨k,v,rfl,hv,ng rv,q v y rv hP⟩
   |none=>
    rw [hs]at hy;exact .inr ⟨rfl,y,hy,λv hv=>q v y (hv _ _) hP⟩
  |_=>exact hk.elim
 |_=>exact k.elim
theorem te{x y:V}{P:Hp->Prop}{Q:Unit->Shared->Prop}(ok:eF C)(i:aK C I π H s)(ra:RV C I π va x)(rb:RV C I π vb y)(k:lp C.T H f y x P)
  (q:∀s' H',bz [] I π s I π s'->aK C I π H' s'->P H'->Q () s'):Wa C A (setAttr va (C.N.anm f) vb) Q aH s:=by
 cases ra with
 | @ref r a d e=>
  obtain⟨o,ho,hk⟩:=bL.h k
  cases o with
  |inst c fs=>
   obtain⟨j,hs,hk⟩:=aS.h hk;obtain⟨hj,hP⟩:=hk;have io:=i.obj _ _ _ e ho;obtain⟨h1,es,n,vs,h2,F,hl,hz,h5⟩:=io;have co:=ok.cls c f (.inl (by rw [hs];rfl));have I0:PySem.W.InstAt s.heap a (instObj (C.N.ca c) d) (C.N.ca c) (some (PySem.W.dictOf es n)):=⟨i.imm _ _ h1,rfl,rfl,h2⟩
   obtain⟨attr,-,-,ht⟩:=co.fld f j hs;obtain⟨u,hu,hg⟩:=F.1 f j hs;have F':=F.put co hs (by rw [hl];exact hj) (PyData.keyHash C.w.params (C.N.anm f)) (s.toks+1) vb;refine uf i.In I0 rfl co.sa co.over ht co.hd (by rw [hg];rfl) ?_ ?_
   ·have h9:=F'.2.2;have:=List.countP_le_length (p:=λx:Option Value=>x.isSome) (l:=vs.set j (some vb));rw [List.length_set]at this;omega
   ·have D':(s.heap.update d (Obj.putName (C.N.anm f) (PyData.keyHash C.w.params (C.N.anm f)) (.str (C.N.anm f) (s.toks+1)) vb)).get? d=some (pS (putL (C.N.anm f) (PyData.keyHash C.w.params (C.N.anm f)) (.str (C.N.anm f) (s.toks+1)) vb es) (putN (C.N.anm f) es n)):=by
     have e0:=putName_dict (C.N.anm f) (PyData.keyHash C.w.params (C.N.anm f)) (.str (C.N.anm f) (s.toks+1)) vb es n;rw [Heap.get?_update_self _ h2 (by show(Obj.putName _ _ _ _ (PySem.W.dictOf es n)).isFreed=false;rw [e0];rfl)];exact congrArg some e0
    have hco:ua C I π (s.heap.update d (Obj.putName (C.N.anm f) (PyData.keyHash C.w.params (C.N.anm f)) (.str (C.N.anm f) (s.toks+1)) vb)) (a,d) (.inst c (fs.set j (some y))):=by
     refine⟨h1,_,_,_,D',F',by rw [List.length_set,List.length_set];exact hl,by rw [List.length_set];exact hz,λk=>?_⟩;by_cases ek:j=k
     ·subst ek;rw [List.getElem?_set_self (by rw [hl];exact hj),List.getElem?_set_self hj];exact rb
     ·rw [List.getElem?_set_ne ek,List.getElem?_set_ne ek];exact h5 k
    obtain⟨e2,i2⟩:=i.put (t:=s.toks+2) e (List.getElem?_eq_some_iff.mp ho).1 (λb e=>Heap.get?_update_ne _ _ _ _ e) hco ⟨_,D'⟩;exact q _ _ e2 i2 hP
  |_=>exact hk.elim
 |_=>exact k.elim
end
section
variable {C:Cx}{I I':Im}{π π':Pi}{ρ:aE}{H:Hp}{s s':Shared}{A:Around}{K:V->Hp->Prop}{env:Env}
theorem rJ{k:Int}:(PySem.stored kvs k v).length<=kvs.length+1:=stored_length_le kvs k v
theorem tf{vi:Value}{x z y:V}{P:Hp->Prop}{Q:Unit->Shared->Prop}(i:aK C I π H s)(ra:RV C I π va x)(ri:RV C I π vi z)(rb:RV C I π vb y)(k:kl H z y x P)
  (q:∀s' H',bz [] I π s I π s'->aK C I π H' s'->P H'->Q () s'):Wa C A (setItem va vi vb) Q aH s:=by
 cases ra with
 | @ref r a d e=>
  obtain⟨o,ho,hk⟩:=bL.h k;have io:=i.obj _ _ _ e ho;have hr:=(List.getElem?_eq_some_iff.mp ho).1
  cases o with
  |ad xs=>
   cases z with
   |int m=>
    cases ri with|int _ t=>
    obtain⟨j,hj,hP⟩:=aS.h hk;obtain⟨e1,vs,n,h1,h2,h3⟩:=io;simp only at e1;subst e1
    cases m with
    |negSucc _=>cases hj
    |ofNat m=>
     have hlt:m<xs.length:=by
      by_cases q:m<xs.length
      ·exact q
      ·rw [show oA xs.length (.ofNat m)=if m<xs.length then some m else none from rfl,if_neg q]at hj;cases hj
     have ej:j=m:=by
      rw [show oA xs.length (.ofNat m)=if m<xs.length then some m else none from rfl,if_pos hlt]at hj;exact(Option.some.inj hj).symm
     subst ej;obtain⟨e2,i2⟩:=gE (t:=s.toks) (ws:=vs.set j vb) (ys:=xs.set j y) (g:=(·.setIfInBounds j vb)) i e hr h1 (by simp) (h2.set rb j) (by rw [List.length_set];exact h3);refine ki_setAt h1 (Int.natCast_nonneg j) (by have:=h2.length;show(j:Int)<2^63;omega) (by rw [List.size_toArray,h2.length];show(j:Int)<_;omega) ?_;exact q _ _ e2 i2 hP
   |_=>exact hk.elim
  |dct ks=>
   cases z with
   |int m=>
    cases ri with|int _ t=>
    obtain⟨hs,hP⟩:=hk;obtain⟨e1,kvs,h1,h2,h3,h4⟩:=io;simp only at e1;subst e1;refine wpAny_setItem_pairs (iP _ _ m t) h1 (λh' hd hsame=>?_) (dq h4);obtain⟨o',ho',-⟩:=Heap.dictOf_iff.mp hd;obtain⟨_,_,_,_,_,_,_,_,hn⟩:=id h1;have hco:ua C I π h' (a,a) (.dct (dn m y ks)):=⟨rfl,_,hd,h2,h3.stored hn rb,Nat.le_trans rJ (by rw [h3.length];exact hs.2)⟩
    obtain⟨e2,i2⟩:=i.put (t:=s.toks+1) e hr hsame.2 hco ⟨_,ho'⟩;exact q _ _ e2 i2 hP
   |_=>exact hk.elim
  |_=>exact hk.elim
 |_=>exact k.elim
end
def vI(C:Cx)(I:Im)(π:Pi)(own:List Addr)(s:Shared)(h':Heap)(v:Value)(x:V):Prop:=
 RV C I π v x\/∃a u1 u2 x1 x2,v= .ref a/\s.heap.get? a=none/\a∉own/\h'.get? a=some (kR [u1,u2] 0)/\x= .ao [x1,x2]/\RV C I π u1 x1/\RV C I π u2 x2
structure Wk(C:Cx)(A:Around)(tgt:Xp)(it:Value)(own:List Addr)(ck:Hp->Prop)(xs:List V)(St:Nat->Im->Pi->Heap->Prop):Prop where
 frame:∀{i I π s I' π' s' P},St i I π s.heap->bz P I π s I' π' s'->(∀a∈own,a∉P/\bO I π a)->St i I' π' s'.heap
 item:∀{i I π H s x} {Q:Value->Shared->Prop},St i I π s.heap->aK C I π H s->(∀a∈own,bO I π a)->ck H->xs[i]?=some x->
  (∀v h' tk,(∀b o,b∉own->s.heap.get? b=some o->h'.get? b=some o)->vI C I π own s h' v x->St (i+1) I π h'->Q v {s with heap:=h',toks:=tk})->
  Wa C A (pyNext it) (λr s1=>∃v,r=some v/\Wa C A (letOwnedTupleGo tgt it v) (λ_ s2=>Q v s2) aH s1) aH s
 done:∀{I π H s} {Q:Shared->Prop},St xs.length I π s.heap->aK C I π H s->(∀a∈own,bO I π a)->ck H->
  (∀h' tk,(∀b o,b∉own->s.heap.get? b=some o->h'.get? b=some o)->Q {s with heap:=h',toks:=tk})->Wa C A (pyNext it) (λr s1=>r=none/\Q s1) aH s
 live:∀{i I π h},St i I π h->∀a∈own,∃o,h.get? a=some o
 mono:∀{i I I' π h},St i I π h->(∀b o,I b=some o->I' b=some o)->St i I' π h
 self:∀{i I π} {s:Shared} {Q:Value->Shared->Prop},St i I π s.heap->Q it s->Wa C A (pyIter it) Q aH s
section
variable {C:Cx}{I I':Im}{π π':Pi}{ρ:aE}{H:Hp}{s s':Shared}{A:Around}{K:V->Hp->Prop}{env:Env}
def gy(C:Cx)(I:Im)(π:Pi)(ck:Hp->Prop)(l:Addr)(xs:List V):Prop:=
 (∃vs n,I l=some (fM vs n)/\bx C I π vs xs/\vs.length<=10000000)\/(∃r:Nat,π[r]?=some (l,l)/\∀H:Hp,ck H->H[r]?=some (CO.ad xs))
def jL(C:Cx)(I:Im)(π:Pi)(l:Addr)(xs:List V):Prop:=∃vs n,I l=some (kR vs n)/\bx C I π vs xs/\vs.length<=10000000
def QI(C:Cx)(I:Im)(π:Pi)(ck:Hp->Prop)(l:Addr)(xs:List V):Prop:=
 (l==sysModules)=false/\∃o kvs ks,I l=some o/\A8 C o kvs/\eg C I π kvs ks/\kvs.length<=10000000/\xs=ks.map λkv=>.int kv.1
theorem gy.ext{P}{l:Addr}{xs:List V}(h:gy C I π ck l xs)(e:bz P I π s I' π' s'):gy C I' π' ck l xs:=by
 rcases h with⟨vs,n,a,b,c⟩|⟨r,a,b⟩
 ·exact .inl ⟨vs,n,e.imm _ _ a,e.rvs b,c⟩
 ·exact .inr ⟨r,(let⟨q,h,_⟩:=e.pre;ta ⟨q,h⟩ a),b⟩
theorem gy.mono{l:Addr}{xs:List V}(h:gy C I π ck l xs)(hI:∀b o,I b=some o->I' b=some o):gy C I' π ck l xs:=by
 rcases h with⟨vs,n,a,b,c⟩|⟨r,a,b⟩
 ·exact .inl ⟨vs,n,hI _ _ a,b.mono hI ⟨[],by simp⟩,c⟩
 ·exact .inr ⟨r,a,b⟩
theorem jL.mono{l:Addr}{xs:List V}(h:jL C I π l xs)(hI:∀b o,I b=some o->I' b=some o):jL C I' π l xs:=
 let⟨vs,n,a,b,c⟩:=h;⟨vs,n,hI _ _ a,b.mono hI ⟨[],by simp⟩,c⟩
theorem gy.get{l:Addr}{xs:List V}(h:gy C I π ck l xs)(i:aK C I π H s)(k:ck H):∃vs n,PySem.IsL s.heap l vs.toArray n/\bx C I π vs xs/\vs.length<=10000000:=by
 rcases h with⟨vs,n,a,b,c⟩|⟨r,a,b⟩
 ·exact⟨vs,n,i.imm _ _ a,b,c⟩
 ·obtain⟨-,vs,n,h1,h2,h3⟩:=i.obj _ _ _ a (b H k);exact⟨vs,n,h1,h2,h3⟩
theorem gy.ne{l:Addr}{xs:List V}(h:gy C I π ck l xs)(f:bO I π a):l≠a:=by
 rintro rfl
 rcases h with⟨vs,n,a,b,c⟩|⟨r,a,b⟩
 ·rw [f.1]at a;cases a
 ·exact f.2 (List.mem_map_of_mem (f:=λx:Addr×Addr=>x.2) (List.mem_of_getElem? a))
theorem jL.ext{P}{l:Addr}{xs:List V}(h:jL C I π l xs)(e:bz P I π s I' π' s'):jL C I' π' l xs:=
 let⟨vs,n,a,b,c⟩:=h;⟨vs,n,e.imm _ _ a,e.rvs b,c⟩
theorem jL.ne{l:Addr}{xs:List V}(h:jL C I π l xs)(f:bO I π a):l≠a:=by
 rintro rfl
 obtain⟨vs,n,a,b,c⟩:=h;rw [f.1]at a;cases a
theorem bz.at{P a}(e:bz P I π s I' π' s')(f:bO I π a)(h:a∉P):∀o,s.heap.get? a=some o->s'.heap.get? a=some o:=λo ho=>e.stay a o ho f.2 h
theorem kZ{x:Str}{Q:Shared->Prop}(h:Q s):Wa C A (letOwnedTupleGo (.Name x p) it v) (λ_ s2=>Q s2) aH s:=wpAny_pure h
theorem xC(hA:A.handled=none){l:Addr}{xs:List V}{x:Str}:
  Wk C A (.Name x p) (.ref a) [a] ck xs (λi I π h=>h.IsListIter a l i/\gy C I π ck l xs) where
 frame:=λst e f=>⟨st.1.at (e.at (f a (.head _)).2 (f a (.head _)).1),st.2.ext e⟩
 item:=λ{i I π H s x Q} st i0 f k hx hQ=>by
  obtain⟨vs,n,hl,r,hz⟩:=st.2.get i0 k;obtain⟨v,hv,rv⟩:=r.get hx;refine wpAny_pyNext_list_item st.1 ⟨_,hl,rfl,_,rfl⟩ (x:=v) (by simpa using hv) λh' hit hs=>⟨v,rfl,kZ ?_⟩
  exact hQ v h' s.toks (λb o hb e=>hs.extBut b o (λq=>hb (q▸.head _)) e) (.inl rv) ⟨hit,st.2⟩
 done:=λ{I π H s Q} st i0 f k hQ=>by
  obtain⟨vs,n,hl,r,hz⟩:=st.2.get i0 k;exact wpAny_pyNext_list_end hA st.1 ⟨_,hl,rfl,_,rfl⟩ (by simp [r.length]) λh' hs=>⟨rfl,hQ h' s.toks λb o hb e=>hs b o (λq=>hb (q▸.head _)) e⟩
 live:=λst b hb=>by rw [List.mem_singleton.mp hb];obtain⟨o,ho,_⟩:=st.1;exact⟨o,ho⟩
 mono:=λst hI=>⟨st.1,st.2.mono hI⟩
 self:=λst q=>wpAny_pyIter_listiter st.1 q
theorem zn(hA:A.handled=none){l:Addr}{xs:List V}{x:Str}:
  Wk C A (.Name x p) (.ref a) [a] ck xs (λi I π h=>h.IsTupleIter a l i/\jL C I π l xs) where
 frame:=λst e f=>⟨st.1.at (e.at (f a (.head _)).2 (f a (.head _)).1),st.2.ext e⟩
 item:=λ{i I π H s x Q} st i0 f k hx hQ=>by
  obtain⟨vs,n,hl,r,hz⟩:=st.2;obtain⟨v,hv,rv⟩:=r.get hx;refine wpAny_pyNext_tuple_item st.1 ⟨_,i0.imm _ _ hl,rfl,_,rfl⟩ (x:=v) (by simpa using hv) λh' hit hs=>⟨v,rfl,kZ ?_⟩
  exact hQ v h' s.toks (λb o hb e=>hs.extBut b o (λq=>hb (q▸.head _)) e) (.inl rv) ⟨hit,st.2⟩
 done:=λ{I π H s Q} st i0 f k hQ=>by
  obtain⟨vs,n,hl,r,hz⟩:=st.2;exact wpAny_pyNext_tuple_end hA st.1 ⟨_,i0.imm _ _ hl,rfl,_,rfl⟩ (by simp [r.length]) λh' hs=>⟨rfl,hQ h' s.toks λb o hb e=>hs b o (λq=>hb (q▸.head _)) e⟩
 live:=λst b hb=>by rw [List.mem_singleton.mp hb];obtain⟨o,ho,_⟩:=st.1;exact⟨o,ho⟩
 mono:=λst hI=>⟨st.1,st.2.mono hI⟩
 self:=λst q=>wpAny_pyIter_tupleiter st.1 q
theorem zo(hA:A.handled=none){x:Str}:
  Wk C A (.Name x p) (.ref a) [a] ck ((List.range n).map λ(k:Nat)=>.int (k:Int)) (λi _ _ h=>IsRangeIter h a (i:Nat) ((n:Int)-(i:Nat)) 1) where
 frame:=λst e f=>e.at (f a (.head _)).2 (f a (.head _)).1 _ st
 item:=λ{i I π H s x Q} st i0 f k hx hQ=>by
  have hi:i<n:=by
   have:=(List.getElem?_eq_some_iff.mp hx).1;simpa using this
  have ex:x= .int i:=by
   rw [List.getElem?_map,List.getElem?_range hi]at hx;exact(Option.some.inj hx).symm
  subst ex;refine wpAny_pyNext_range_item st (by omega) λh' hit hs=>⟨_,rfl,kZ ?_⟩
  refine hQ _ h' (s.toks+1) (λb o hb e=>hs.extBut b o (λq=>hb (q▸.head _)) e) (.inl (.int _ _)) ?_;have e1:((i:Nat):Int)+1=((i+1:Nat):Int):=by omega
  have e2:(n:Int)-(i:Nat)-1=(n:Int)-((i+1:Nat):Int):=by omega
  rw [e1,e2]at hit;exact hit
 done:=λ{I π H s Q} st i0 f k hQ=>by
  have st':IsRangeIter s.heap a _ _ 1:=st;exact wpAny_pyNext_range_end hA st' (by simp) λh' hs=>⟨rfl,hQ h' s.toks λb o hb e=>hs b o (λq=>hb (q▸.head _)) e⟩
 live:=λ{i I π h} st b hb=>by
  rw [List.mem_singleton.mp hb];have st':IsRangeIter h a _ _ 1:=st;exact⟨_,st'⟩
 mono:=λst _=>st
 self:=λst q=>wpAny_pyIter_rangeiter st q
end
section
variable {prog:Program}{w:World}{A:Around}{E:Value->Shared->Prop}{s:Shared}
theorem jn{it l:Addr}{i:Nat}{x:Value}(hit:s.heap.IsTupleIter it l i)
  (hl:s.heap.IsTuple l items) (hx:items[i]?=some x)
  (hQ:∀h':Heap,h'.IsTupleIter it l (i+1)->Heap.SameBut it s.heap h'->Q x {s with heap:=h'}):
  wpAny (model prog w) A (Builtin.SmallTypes.nextOf (.ref it)) Q E s:=by
 obtain⟨o,ho,hc,hd⟩:=id hit;obtain⟨ol,hol,_,nl,hdl⟩:=hl;unfold Builtin.SmallTypes.nextOf;refine wpAny_bind (wpAny_callSpecial?_slot (name:=Str.ofString "__next__") hit.typeIs F.slot_tuple_iterator_next
  (wpAny_call_entry F.slot_tuple_iterator_next hit.typeIs F.entry_tuple_iterator_next ?_ (F.args_tuple_iterator_next_1 _)))
 show wpAny _ _ (field (.ref it) 0>>=_) _ _ s;refine wpAny_bind (wpAny_field ho hd (x:=.ref l) rfl ?_);show wpAny _ _ (if(Value.ref l==Value.none)=true then _ else _) _ _ s;rw [if_neg (show¬((Value.ref l==Value.none)=true)from Bool.false_ne_true)];show wpAny _ _ (field (.ref it) 1>>=_) _ _ s;refine wpAny_bind (wpAny_field ho hd (x:=.int i 0) rfl ?_);show wpAny _ _ (seqItems? (.ref l)>>=_) _ _ s;refine wpAny_bind (wpAny_seqItems hol hdl ?_);simp only [Int.toNat_natCast,hx];refine wpAny_bind (wpAny_setField ho hd (by simp) (wpAny_pure ⟨x,rfl,wpAny_pure (hQ _ ?_ (Heap.SameBut.update ..))⟩));exact⟨_,Heap.get?_update_self _ ho (Obj.isFreed_of_fields (Obj.data_mapFields hd _)),(Obj.cls_mapFields ..).trans hc,by
  rw [Obj.data_mapFields hd];simp [rawInt]⟩
theorem jM{it l:Addr}{i:Nat}(hh:A.handled=none)
  (hit:s.heap.IsTupleIter it l i) (hl:s.heap.IsTuple l items) (hx:items[i]?=none)
  (hE:∀h' e,Heap.ExtBut it s.heap h'->(∃o,h'.get? e=some o/\o.cls= .type "StopIteration")->E (.ref e) {s with heap:=h'}):
  wpAny (model prog w) A (Builtin.SmallTypes.nextOf (.ref it)) Q E s:=by
 obtain⟨o,ho,hc,hd⟩:=id hit;obtain⟨ol,hol,_,nl,hdl⟩:=hl;unfold Builtin.SmallTypes.nextOf;refine wpAny_bind (wpAny_callSpecial?_slot (name:=Str.ofString "__next__") hit.typeIs F.slot_tuple_iterator_next
  (wpAny_call_entry F.slot_tuple_iterator_next hit.typeIs F.entry_tuple_iterator_next ?_ (F.args_tuple_iterator_next_1 _)))
 show wpAny _ _ (field (.ref it) 0>>=_) _ _ s;refine wpAny_bind (wpAny_field ho hd (x:=.ref l) rfl ?_);show wpAny _ _ (if(Value.ref l==Value.none)=true then _ else _) _ _ s;rw [if_neg (show¬((Value.ref l==Value.none)=true)from Bool.false_ne_true)];show wpAny _ _ (field (.ref it) 1>>=_) _ _ s;refine wpAny_bind (wpAny_field ho hd (x:=.int i 0) rfl ?_);show wpAny _ _ (seqItems? (.ref l)>>=_) _ _ s;refine wpAny_bind (wpAny_seqItems hol hdl ?_);simp only [Int.toNat_natCast,hx];refine wpAny_bind (wpAny_rule (wpAny_bind (wpAny_setField ho hd (by simp) ?_)));show wpAny _ _ (newExc (.type "StopIteration") []>>=_) _ _ _;refine wpAny_bind ?_;simp only [newExc,newTuple];refine wpAny_bind (wpAny_newObj_type ?_ (by size_fits));refine wpAny_bind (m:=firstArgMember _ _) (wpAny_of_eq (a:=Value.none) (by first|rfl|(simp only [firstArgMember];rfl)) ?_);refine wpAny_newObj_type ?_ (by size_fits);simp only [raiseNew];refine wpAny_bind (wpAny_handled ?_);first|rw [show A.in1.handled=none from hh]|rw [hh]
 refine wpAny_bind (wpAny_pure (wpAny_throw ?_));exact hE _ _ (((Heap.SameBut.update ..).extBut.push _).push _) ⟨_,Heap.get?_push_size _ rfl,rfl⟩
end
theorem km{prog:Program}{w:World}{A:Around}(hh:A.handled=none)(it l:Addr)(hne:l≠it)(items:Array Value):
  Draws prog w A it [it,l] items.size (λi v=>items[i]?=some v) (λi h=>h.IsTupleIter it l i/\h.IsTuple l items) where
 live:=λ_ _ st=>let⟨o,ho,_⟩:=st.1;⟨o,ho⟩
 frame:=λ_ _ _ st hk=>⟨st.1.at λo e=>hk it (by simp) o e,st.2.at λo e=>hk l (by simp) o e⟩
 item:=λi s Q E hi st hQ=>by
  refine jn st.1 st.2 (x:=items[i]) (by simp [hi]) λh' hit' hs'=>?_;exact hQ _ h' s.toks (by simp [hi]) ⟨hit',st.2.at λo e=>hs'.extBut l o hne e⟩ hs'
 done:=λs Q E st hE=>jM hh st.1 st.2 (by simp) hE
theorem lA(l:Addr)(items:Array Value)(n:Nat):
  Meets (Builtin.«enumerate.__new__» ⟨[.type "enumerate",.ref l],[]⟩) (λ_ R s=>s.heap.get? l=some {cls:=.type "tuple",dict:=none,data:=.seq items n,slots:= #[]}/\
   R (.ok (.ret (.ref (s.heap.push {cls:=.type "tuple_iterator",data:=.fields #[.ref l,.int 0 0]}).objs.size)))
    {s with heap:=(s.heap.push {cls:=.type "tuple_iterator",data:=.fields #[.ref l,.int 0 0]}).push {cls:=.type "enumerate",data:=.fields #[.none,.bool false,.ref s.heap.objs.size,rawInt 0,.none,.none]}}):=
 .of_wp λprog w A R s h=>by
  obtain⟨hp,g,d,tk,os⟩:=s;obtain⟨hl,h⟩:=h;have hsub:=sub_enumerate;have hL:Heap.IsTuple (Shared.heap ⟨hp,g,d,tk,os⟩) l items:=⟨_,hl,rfl,n,rfl⟩
  wp_walk using wpAny_loadPart' hl
  refine wpAny_stack_any λst=>wpAny_pure ?_;split
  ·rename_i c _ _ _ _ _
   cases(c==Value.type "enumerate")
   ·wp_walk using wpAny_loadPart' hl,wpAny_pyIter_tuple hL
    exact⟨_,rfl,h⟩
   ·wp_walk using wpAny_loadPart' hl,wpAny_pyIter_tuple hL
    exact⟨_,rfl,h⟩
  ·wp_walk using wpAny_loadPart' hl,wpAny_pyIter_tuple hL
   exact⟨_,rfl,h⟩
section
variable {C:Cx}{I I':Im}{π π':Pi}{ρ:aE}{H:Hp}{s s':Shared}{A:Around}{K:V->Hp->Prop}{env:Env}
theorem nh{i:Nat}{xs:List V}:(cZ n xs)[i]?=(xs[i]?).map λx=>.ao [.int ((n+i:Nat):Int),x]:=by
 induction xs generalizing n i with
 |nil=>simp [cZ]
 |cons x xs ih=>
  cases i with
  |zero=>simp [cZ]
  |succ i=>simp [cZ,ih,Nat.add_assoc,Nat.add_comm 1 i]
theorem gZ{xs:List V}:(cZ n xs).length=xs.length:=by
 induction xs generalizing n with
 |nil=>rfl
 |cons x xs ih=>simp [cZ,ih]
theorem ni{SS:Im->Pi->Prop}{Stt:Nat->Heap->Prop}{e l:Addr}{i m:Nat}{old:Value}{P:Nat->Value->Prop}{x:V}
  (D:Draws C.prog C.w A.in1 a [a,l] m P Stt) (hne:e≠a) (hel:e≠l) (he:IsEnum s.heap e a (i:Nat) old) (hst:Stt i s.heap) (hi:i<m) (hv:∀v,P i v->RV C I π v x) (hss:SS I π)
  (i0:aK C I π H s) (f:∀b∈[e,a],bO I π b)
  (hQ:∀v h' tk,(∀b o,b∉[e,a]->s.heap.get? b=some o->h'.get? b=some o)->vI C I π [e,a] s h' v (.ao [.int (i:Nat),x])->((∃old,IsEnum h' e a ((i+1:Nat):Int) old)/\Stt (i+1) h'/\SS I π)->Q v {s with heap:=h',toks:=tk}):
  Wa C A (pyNext (.ref e)) (λr s1=>∃v,r=some v/\Wa C A (letOwnedTupleGo (.Tuple elts x1 p) (.ref e) v) (λ_ s2=>Q v s2) aH s1) aH s:=by
 refine wpAny_pyNext_enum_itemD D he hst hi hne (by simp [hne,hel]) λy h' tk hP ho hst' ht hsz hk=>⟨_,rfl,?_⟩
 refine wpAny_letOwnedTupleGo_enum ho λh2 he2 hs2=>?_;have hae:e≠s.heap.objs.size:=λq=>absurd (Heap.lt_size he) (by rw [q];exact Nat.lt_irrefl _);refine hQ _ h2 (tk+1) (λb o hb hg=>?_) (.inr ⟨_,.int i tk,y,.int (i:Nat),x,rfl,aX _,?_,?_,rfl,.int _ _,hv y hP⟩) ⟨⟨y,?_⟩,?_,hss⟩
 ·simp only [List.mem_cons,List.not_mem_nil,or_false,not_or]at hb;exact hs2.extBut b o hb.1 (hk b o hb.1 hb.2 hg)
 ·intro q;simp only [List.mem_cons,List.not_mem_nil,or_false]at q;rcases q with q|q
  ·exact hae q.symm
  ·obtain⟨o,h⟩:=D.live i _ hst;exact absurd (Heap.lt_size h) (by rw [←q];exact Nat.lt_irrefl _)
 ·exact hs2.extBut _ _ hae.symm ht
 ·have e1:((i:Nat):Int)+1=((i+1:Nat):Int):=by omega
  rw [e1]at he2;exact he2
 ·refine D.frame _ _ _ hst' λb hb o h=>?_;refine hs2.extBut b o ?_ h;simp only [List.mem_cons,List.not_mem_nil,or_false]at hb;rcases hb with rfl|rfl
  ·exactλq=>hne q.symm
  ·exactλq=>hel q.symm
theorem vJ(hA:A.handled=none){e l:Addr}{xs:List V}(hne:e≠a):
  Wk C A (.Tuple elts x1 p) (.ref e) [e,a] ck (cZ 0 xs) (λi I π h=>(∃old,IsEnum h e a (i:Nat) old)/\h.IsListIter a l i/\gy C I π ck l xs) where
 frame:=λst x f=>⟨let⟨old,h⟩:=st.1;⟨old,x.at (f e (.head _)).2 (f e (.head _)).1 _ h⟩,st.2.1.at (x.at (f a (.tail _ (.head _))).2 (f a (.tail _ (.head _))).1),st.2.2.ext x⟩
 item:=λ{i I π H s x Q} st i0 f k hx hQ=>by
  obtain⟨⟨old,he⟩,hit,hsrc⟩:=st;obtain⟨vs,n,hl,r,hz⟩:=hsrc.get i0 k;rw [nh,Nat.zero_add]at hx;obtain⟨y,hy,rfl⟩:=Option.map_eq_some_iff.mp hx;obtain⟨v,hv,rv⟩:=r.get hy;have hla:=hsrc.ne (f a (.tail _ (.head _)));have hle:=hsrc.ne (f e (.head _));exact ni (SS:=λI π=>gy C I π ck l xs) (D:=Draws.list (prog:=C.prog) (w:=C.w) (A:=A.in1) hA a l hla vs.toArray) hne hle.symm he ⟨hit,⟨_,hl,rfl,_,rfl⟩⟩ (by simp;exact(List.getElem?_eq_some_iff.mp hv).1)
   (λu hu=>by
    have:vs[i]?=some u:=by simpa using hu
    rw [hv]at this;cases this;exact rv) hsrc i0 f (λv h' tk a1 a2 a3=>hQ v h' tk a1 a2 ⟨a3.1,a3.2.1.1,a3.2.2⟩)
 done:=λ{I π H s Q} st i0 f k hQ=>by
  obtain⟨⟨old,he⟩,hit,hsrc⟩:=st;obtain⟨vs,n,hl,r,hz⟩:=hsrc.get i0 k;rw [gZ]at he hit;exact wpAny_pyNext_enum_end hA he hit ⟨_,hl,rfl,_,rfl⟩ (by simp [r.length]) λh' hs=>⟨rfl,hQ h' s.toks λb o hb x=>hs b o (λq=>hb (q▸.tail _ (.head _))) x⟩
 live:=λst b hb=>by
  obtain⟨⟨old,he⟩,⟨o,ho,_⟩,-⟩:=st;simp only [List.mem_cons,List.not_mem_nil,or_false]at hb;rcases hb with rfl|rfl
  ·exact⟨_,he⟩
  ·exact⟨o,ho⟩
 mono:=λst hI=>⟨st.1,st.2.1,st.2.2.mono hI⟩
 self:=λst q=>let⟨_,h⟩:=st.1;wpAny_pyIter_enum h q
theorem vK(hA:A.handled=none){e l:Addr}{xs:List V}(hne:e≠a):
  Wk C A (.Tuple elts x1 p) (.ref e) [e,a] ck (cZ 0 xs) (λi I π h=>(∃old,IsEnum h e a (i:Nat) old)/\h.IsTupleIter a l i/\jL C I π l xs) where
 frame:=λst x f=>⟨let⟨old,h⟩:=st.1;⟨old,x.at (f e (.head _)).2 (f e (.head _)).1 _ h⟩,st.2.1.at (x.at (f a (.tail _ (.head _))).2 (f a (.tail _ (.head _))).1),st.2.2.ext x⟩
 item:=λ{i I π H s x Q} st i0 f k hx hQ=>by
  obtain⟨⟨old,he⟩,hit,hsrc⟩:=st;obtain⟨vs,n,hl,r,hz⟩:=id hsrc;rw [nh,Nat.zero_add]at hx;obtain⟨y,hy,rfl⟩:=Option.map_eq_some_iff.mp hx;obtain⟨v,hv,rv⟩:=r.get hy;have hla:=hsrc.ne (f a (.tail _ (.head _)));have hle:=hsrc.ne (f e (.head _));exact ni (SS:=λI π=>jL C I π l xs) (D:=km (prog:=C.prog) (w:=C.w) (A:=A.in1) hA a l hla vs.toArray) hne hle.symm he ⟨hit,⟨_,i0.imm _ _ hl,rfl,_,rfl⟩⟩ (by simp;exact(List.getElem?_eq_some_iff.mp hv).1)
   (λu hu=>by
    have:vs[i]?=some u:=by simpa using hu
    rw [hv]at this;cases this;exact rv) hsrc i0 f (λv h' tk a1 a2 a3=>hQ v h' tk a1 a2 ⟨a3.1,a3.2.1.1,a3.2.2⟩)
 done:=λ{I π H s Q} st i0 f k hQ=>by
  obtain⟨⟨old,he⟩,hit,hsrc⟩:=st;obtain⟨vs,n,hl,r,hz⟩:=id hsrc;rw [gZ]at he hit;have hla:=hsrc.ne (f a (.tail _ (.head _)));have st0:(λi (h:Heap)=>h.IsTupleIter a l i/\h.IsTuple l vs.toArray) vs.toArray.size s.heap:=⟨by rw [List.size_toArray,r.length];exact hit,⟨_,i0.imm _ _ hl,rfl,_,rfl⟩⟩
  exact wpAny_pyNext_enum_endD (km (prog:=C.prog) (w:=C.w) (A:=A.in1) hA a l hla vs.toArray) he st0 λh' hs=>⟨rfl,hQ h' s.toks λb o hb x=>hs b o (λq=>hb (q▸.tail _ (.head _))) x⟩
 live:=λst b hb=>by
  obtain⟨⟨old,he⟩,⟨o,ho,_⟩,-⟩:=st;simp only [List.mem_cons,List.not_mem_nil,or_false]at hb;rcases hb with rfl|rfl
  ·exact⟨_,he⟩
  ·exact⟨o,ho⟩
 mono:=λst hI=>⟨st.1,st.2.1,st.2.2.mono hI⟩
 self:=λst q=>let⟨_,h⟩:=st.1;wpAny_pyIter_enum h q
theorem vL{xs:List V}{i:Nat}{z:V}(h:(jh xs ys)[i]?=some z):∃x y,xs[i]?=some x/\ys[i]?=some y/\z= .ao [x,y]:=by
 induction xs generalizing ys i with
 |nil=>simp [jh]at h
 |cons x xs ih=>
  cases ys with
  |nil=>simp [jh]at h
  |cons y ys=>
   cases i with
   |zero=>simp [jh]at h;exact⟨x,y,rfl,rfl,h.symm⟩
   |succ i=>simp [jh]at h;simpa using ih h
theorem p5{xs:List V}(h:xs.length=ys.length):(jh xs ys).length=xs.length:=by
 induction xs generalizing ys with
 |nil=>cases ys<;>simp [jh]
 |cons x xs ih=>
  cases ys with
  |nil=>simp at h
  |cons y ys=>simp [jh,ih (by simpa using h)]
theorem zp(hA:A.handled=none){ck':Hp->Prop}{z TI TO i1 i2 l1 l2:Addr}{xs:List V}(hlen:xs.length=ys.length)
  (d:TI≠z/\TO≠z/\i1≠z/\i2≠z/\TI≠TO/\TI≠i1/\TI≠i2/\TO≠i1/\TO≠i2/\i1≠i2):
  Wk C A (.Tuple elts x1 p) (.ref z) [z,TO,i1,i2,TI] (λH=>ck H/\ck' H) (jh xs ys)
   (λi I π h=>IsZip h z TI TO .none/\IsPair h TI (.ref i1) (.ref i2)/\(∃a b,IsPair h TO a b)/\h.IsListIter i1 l1 i/\h.IsListIter i2 l2 i/\gy C I π ck l1 xs/\gy C I π ck' l2 ys) where
 frame:=λst x f=>by
  obtain⟨a1,a2,⟨a,b,a3⟩,a4,a5,a6,a7⟩:=st;have g:=λc hc=>x.at (f c hc).2 (f c hc).1;exact⟨g z (by simp) _ a1,g TI (by simp) _ a2,⟨a,b,g TO (by simp) _ a3⟩,a4.at (g i1 (by simp)),a5.at (g i2 (by simp)),a6.ext x,a7.ext x⟩
 item:=λ{i I π H s x Q} st i0 f k hx hQ=>by
  obtain⟨a1,a2,⟨a,b,a3⟩,a4,a5,a6,a7⟩:=st;obtain⟨u,v,hu,hv,rfl⟩:=vL hx;obtain⟨vs,n,hl1,r1,-⟩:=a6.get i0 k.1;obtain⟨ws,m,hl2,r2,-⟩:=a7.get i0 k.2;obtain⟨u',hu',ru⟩:=r1.get hu;obtain⟨v',hv',rv⟩:=r2.get hv;obtain⟨d1,d2,d3,d4,d5,d6,d7,d8,d9,d10⟩:=d;have D:ZipApart z TI TO i1 i2 l1 l2:=⟨d1,d2,d3,d4,d5,d6,d7,d8,d9,d10,a6.ne (f z (by simp)),a6.ne (f TO (by simp)),a6.ne (f i1 (by simp)),a6.ne (f i2 (by simp)),a7.ne (f z (by simp)),a7.ne (f TO (by simp)),a7.ne (f i1 (by simp)),a7.ne (f i2 (by simp))⟩
  refine wpAny_pyNext_zip_item D a1 a2 a3 a4 a5 ⟨_,hl1,rfl,_,rfl⟩ ⟨_,hl2,rfl,_,rfl⟩ (x:=u') (y:=v') (by simpa using hu') (by simpa using hv') λh' b1 b2 b3 b4 b5 b6 b7=>⟨_,rfl,?_⟩
  refine wpAny_letOwnedTupleGo_zip b1 λh2 c1 c2=>?_;have ne:∀{c},(∃o,s.heap.get? c=some o)->c≠s.heap.objs.size:=λ{c} h q=>by
   obtain⟨o,h⟩:=h;exact absurd (Heap.lt_size h) (by rw [q];exact Nat.lt_irrefl _)
  have nz:=ne ⟨_,a1⟩;have nTI:=ne ⟨_,a2⟩;have nTO:=ne ⟨_,a3⟩;have n1:=ne (let⟨o,h,_⟩:=a4;⟨o,h⟩);have n2:=ne (let⟨o,h,_⟩:=a5;⟨o,h⟩);refine hQ _ h2 s.toks (λc o hc hg=>?_) (.inr ⟨_,u',v',u,v,rfl,aX _,?_,?_,rfl,ru,rv⟩) ⟨c1,?_,⟨u',v',?_⟩,?_,?_,a6,a7⟩
  ·simp only [List.mem_cons,List.not_mem_nil,or_false,not_or]at hc;exact c2.extBut c o hc.1 (b7 c o hc.1 hc.2.1 hc.2.2.1 hc.2.2.2.1 hg)
  ·intro q;simp only [List.mem_cons,List.not_mem_nil,or_false]at q;rcases q with q|q|q|q|q
   ·exact nz q.symm
   ·exact nTO q.symm
   ·exact n1 q.symm
   ·exact n2 q.symm
   ·exact nTI q.symm
  ·exact c2.extBut _ _ nz.symm b5
  ·exact c2.extBut _ _ d1 (b7 TI _ d1 d5 d6 d7 a2)
  ·exact c2.extBut _ _ d2 b2
  ·exact b3.at λo h=>c2.extBut _ _ d3 h
  ·exact b4.at λo h=>c2.extBut _ _ d4 h
 done:=λ{I π H s Q} st i0 f k hQ=>by
  obtain⟨a1,a2,⟨a,b,a3⟩,a4,a5,a6,a7⟩:=st;obtain⟨vs,n,hl1,r1,-⟩:=a6.get i0 k.1;obtain⟨ws,m,hl2,r2,-⟩:=a7.get i0 k.2;obtain⟨d1,d2,d3,d4,d5,d6,d7,d8,d9,d10⟩:=d;have D:ZipApart z TI TO i1 i2 l1 l2:=⟨d1,d2,d3,d4,d5,d6,d7,d8,d9,d10,a6.ne (f z (by simp)),a6.ne (f TO (by simp)),a6.ne (f i1 (by simp)),a6.ne (f i2 (by simp)),a7.ne (f z (by simp)),a7.ne (f TO (by simp)),a7.ne (f i1 (by simp)),a7.ne (f i2 (by simp))⟩
  rw [p5 hlen]at a4 a5;refine wpAny_pyNext_zip_end hA D a1 a2 a3 a4 a5 ⟨_,hl1,rfl,_,rfl⟩ ⟨_,hl2,rfl,_,rfl⟩ (.inl (by simp [r1.length])) λh' hk=>⟨rfl,hQ h' s.toks λc o hc hg=>?_⟩
  simp only [List.mem_cons,List.not_mem_nil,or_false,not_or]at hc;exact hk c o hc.1 hc.2.1 hc.2.2.1 hc.2.2.2.1 hg
 live:=λst b hb=>by
  obtain⟨a1,a2,⟨a,b',a3⟩,⟨o4,a4,_⟩,⟨o5,a5,_⟩,-⟩:=st;simp only [List.mem_cons,List.not_mem_nil,or_false]at hb;rcases hb with rfl|rfl|rfl|rfl|rfl
  ·exact⟨_,a1⟩
  ·exact⟨_,a3⟩
  ·exact⟨_,a4⟩
  ·exact⟨_,a5⟩
  ·exact⟨_,a2⟩
 mono:=λst hI=>⟨st.1,st.2.1,st.2.2.1,st.2.2.2.1,st.2.2.2.2.1,st.2.2.2.2.2.1.mono hI,st.2.2.2.2.2.2.mono hI⟩
 self:=λst q=>wpAny_pyIter_zip st.1 q
theorem zq(hA:A.handled=none){l:Addr}{o:Obj}{ks:List (Int×V)}{ep:Nat}{x:Str}(hk:kvs.map (·.1)=ks.map (·.1))
  (hd:∀h:Heap,h.get? l=some o->h.DictAt (intKind C.prog C.w) l kvs ep):
  Wk C A (.Name x p) (.ref a) [a] ck (ks.map λkv=>.int kv.1) (λi I _ h=>h.IsKeyIter a l i kvs.length ep/\I l=some o) where
 frame:=λst e f=>⟨let⟨o,ho,r⟩:=st.1;⟨o,e.at (f a (.head _)).2 (f a (.head _)).1 _ ho,r⟩,e.imm _ _ st.2⟩
 item:=λ{i I π H s x Q} st i0 f k hx hQ=>by
  have hm:=hd _ (i0.imm _ _ st.2);rw [List.getElem?_map]at hx;obtain⟨kv,h1,rfl⟩:=Option.map_eq_some_iff.mp hx;have h2:(kvs.map (·.1))[i]?=some kv.1:=by rw [hk,List.getElem?_map,h1];rfl
  rw [List.getElem?_map]at h2;obtain⟨⟨k',v'⟩,h3,h4⟩:=Option.map_eq_some_iff.mp h2;refine wpAny_pyNext_dict_item st.1 hm h3 λkey h' hkey hit hs=>⟨_,rfl,kZ ?_⟩
  obtain⟨t,rfl⟩:=Value.isInt_shape hkey;simp only at h4;subst h4;exact hQ _ h' s.toks (λb o hb e=>hs.extBut b o (λq=>hb (q▸.head _)) e) (.inl (.int _ _)) ⟨hit,st.2⟩
 done:=λ{I π H s Q} st i0 f k hQ=>by
  have hm:=hd _ (i0.imm _ _ st.2);have e:kvs.length=ks.length:=by have:=congrArg List.length hk;simpa using this
  refine wpAny_pyNext_dict_end hA st.1 hm (by rw [List.length_map,←e];simp) λh' hs=>⟨rfl,hQ h' s.toks λb o hb e=>hs b o (λq=>hb (q▸.head _)) e⟩
 live:=λst b hb=>by rw [List.mem_singleton.mp hb];obtain⟨o,ho,_⟩:=st.1;exact⟨o,ho⟩
 mono:=λst hI=>⟨st.1,hI _ _ st.2⟩
 self:=λst q=>wpAny_pyIter_keyiter st.1 q
end
def PI(C:Cx)(A:Around)(tgt:Xp)(I:Im)(π:Pi)(s:Shared)(K:List V->(Hp->Prop)->Hp->Prop)(it:Value)(s':Shared):Prop:=
 ∃I' π' H' xs ck own St,bz [] I π s I' π' s'/\aK C I' π' H' s'/\(∀a∈own,s.heap.get? a=none/\bO I' π' a)/\Wk C A tgt it own ck xs St/\St 0 I' π' s'.heap/\ck H'/\xs.length<=10000000/\K xs ck H'
theorem PI.trans{A:Around}{I:Im}{s'':Shared}{K:List V->(Hp->Prop)->Hp->Prop}{v}(a:bz [] I π s I' π' s'):PI C A tgt I' π' s' K v s''->PI C A tgt I π s K v s'':=
 λ⟨I2,π2,H',xs,ck,own,St,e,i,f,r⟩=>⟨I2,π2,H',xs,ck,own,St,a.trans e,i,λx h=>⟨a.new (f x h).1,(f x h).2⟩,r⟩
section
variable {C:Cx}{I I':Im}{π π':Pi}{ρ:aE}{H:Hp}{s s':Shared}{A:Around}{env:Env}{K:List V->(Hp->Prop)->Hp->Prop}
theorem ug(n:Nat):(n+2:Nat)≠n+4/\(n+3:Nat)≠n+4/\n≠(n+4:Nat)/\(n+1:Nat)≠n+4/\(n+2:Nat)≠n+3/\(n+2:Nat)≠n/\(n+2:Nat)≠n+1/\(n+3:Nat)≠n/\(n+3:Nat)≠n+1/\n≠(n+1:Nat):=by
 refine⟨?_,?_,?_,?_,?_,?_,?_,?_,?_,?_⟩<;>omega
theorem nj{x:V}{P:List V->(Hp->Prop)->Prop}(i:aK C I π H s)(r:RV C I π va x)(h:lm H x P):∃l xs ck,va= .ref l/\gy C I π ck l xs/\ck H/\xs.length<=10000000/\P xs ck:=by
 cases r with
 |ad e l r=>exact⟨_,_,_,rfl,.inl ⟨_,_,e,r,l⟩,trivial,r.length▸l,h⟩
 | @ref r a d e=>
  obtain⟨o,ho,hk⟩:=bL.h h
  cases o with
  |ad xs=>
   obtain⟨e1,vs,n,h1,h2,h3⟩:=i.obj _ _ _ e ho;simp only at e1;subst e1;exact⟨_,_,_,rfl,.inr ⟨r,e,λH h=>h⟩,ho,h2.length▸h3,hk⟩
  |_=>exact hk.elim
 |_=>exact h.elim
theorem uh{x:V}{P:List V->(Hp->Prop)->Prop}(i:aK C I π H s)(r:RV C I π va x)(h:pP H x P):∃l xs ck,va= .ref l/\(gy C I π ck l xs\/jL C I π l xs)/\ck H/\xs.length<=10000000/\P xs ck:=by
 cases r with
 |ad e l r=>exact⟨_,_,_,rfl,.inl (.inl ⟨_,_,e,r,l⟩),trivial,r.length▸l,h⟩
 |ao e l r=>exact⟨_,_,_,rfl,.inr ⟨_,_,e,r,l⟩,trivial,r.length▸l,h⟩
 | @ref r a d e=>
  obtain⟨o,ho,hk⟩:=bL.h h
  cases o with
  |ad xs=>
   obtain⟨e1,vs,n,h1,h2,h3⟩:=i.obj _ _ _ e ho;simp only at e1;subst e1;exact⟨_,_,_,rfl,.inl (.inr ⟨r,e,λH h=>h⟩),ho,h2.length▸h3,hk⟩
  |_=>exact hk.elim
 |_=>exact h.elim
theorem zr{x:V}{y:Str}(hA:A.handled=none)(i:aK C I π H s)(r:RV C I π va x)(h:pO H x λxs ck=>K xs ck H):Wa C A (pyIter va) (PI C A (.Name y p) I π s K) aH s:=by
 have fr:∀(o:Obj),o.isFreed=false->_:=λo hf=>i.push (t:=s.toks) o hf;have L:∀{l xs ck},va= .ref l->gy C I π ck l xs->ck H->xs.length<=10000000->K xs ck H->Wa C A (pyIter va) (PI C A (.Name y p) I π s K) aH s:=by
  rintro l xs ck rfl hs hc hz k
  obtain⟨vs,n,hl,-,-⟩:=hs.get i hc;refine wpAny_pyIter_list ⟨_,hl,rfl,_,rfl⟩ ?_;obtain⟨e1,i1,f1⟩:=fr {cls:=.type "list_iterator",data:=.fields #[.ref l,.int 0 0]} rfl;exact⟨I,π,H,xs,ck,[_],_,e1,i1,λa ha=>by rw [List.mem_singleton.mp ha];exact⟨aX _,f1⟩,xC hA,⟨⟨_,ce rfl,rfl,rfl⟩,hs.ext e1⟩,hc,hz,k⟩
 cases r with
 |ad e l r=>exact L rfl (.inl ⟨_,_,e,r,l⟩) trivial (r.length▸l) h
 | @ao a vs n xs e l r=>
  have hs:jL C I π a xs:=⟨_,_,e,r,l⟩
  refine wpAny_pyIter_tuple ⟨_,i.imm _ _ e,rfl,_,rfl⟩ ?_;obtain⟨e1,i1,f1⟩:=fr {cls:=.type "tuple_iterator",data:=.fields #[.ref a,.int 0 0]} rfl;exact⟨I,π,H,xs,_,[_],_,e1,i1,λa ha=>by rw [List.mem_singleton.mp ha];exact⟨aX _,f1⟩,zn hA,⟨⟨_,ce rfl,rfl,rfl⟩,hs.ext e1⟩,trivial,r.length▸l,h⟩
 | @dct a o kvs ks e d m l r=>
  have hdo:s.heap.DictOf (intKind C.prog C.w) a kvs:=Heap.dictOf_iff.mpr ⟨_,i.imm _ _ e,d⟩;obtain⟨ep,hat⟩:=hdo.dictAt;obtain⟨o',es,ho',af⟩:=id hat;rw [i.imm _ _ e]at ho'
  cases ho';refine wpAny_pyIter_dict m hat ?_;obtain⟨e1,i1,f1⟩:=fr {cls:=.type "dict_keyiterator",data:=.fields #[.ref a,.int 0 0,.int kvs.length 0,.int ep 0]} rfl;exact⟨I,π,H,_,_,[_],_,e1,i1,λa ha=>by rw [List.mem_singleton.mp ha];exact⟨aX _,f1⟩,zq hA (o:=o) r.keys λh ho=>⟨_,es,ho,af⟩,⟨⟨_,ce rfl,rfl,rfl⟩,e⟩,trivial,by rw [List.length_map,←r.length];exact l,h⟩
 | @ref r a d e=>
  obtain⟨o,ho,hk⟩:=bL.h h
  cases o with
  |ad xs=>
   obtain⟨e1,vs,n,h1,h2,h3⟩:=i.obj _ _ _ e ho;simp only at e1;subst e1;exact L rfl (.inr ⟨r,e,λH h=>h⟩) ho (h2.length▸h3) hk
  |_=>exact hk.elim
 |_=>exact h.elim
theorem zt{n:Int}{y:Str}(hA:A.handled=none)(i:aK C I π H s)(r:RV C I π va (.int n))(hn:0<=n/\n<=10000000)(k:K (t9 n) (λ_=>True) H):
  Wa C A (call (.type "range") [va]) (λo s1=>Wa C A (pyIter o) (PI C A (.Name y p) I π s K) aH s1) aH s:=by
 cases r with|int _ t=>
 refine call_range_1 ?_;obtain⟨e1,i1,f1⟩:=i.push (t:=s.toks+1+1) {cls:=.type "range",data:=.fields #[.int 0 s.toks,.int n t,.int 1 (s.toks+1)]} rfl;have hr:IsRange (s.heap.push {cls:=.type "range",data:=.fields #[.int 0 s.toks,.int n t,.int 1 (s.toks+1)]}) s.heap.objs.size 0 n 1 s.toks t (s.toks+1):=ce rfl;have sz:Builtin.Range.rangeSize 0 n 1=n.toNat:=by
  unfold Builtin.Range.rangeSize;rw [if_pos (by omega)];by_cases h:0<n
  ·rw [if_pos h];omega
  ·rw [if_neg h];omega
 refine wpAny_pyIter_range hr ?_ ?_
 ·unfold Builtin.Range.small;rw [sz];simp [Builtin.Range.rangeFitsLong];omega
 ·obtain⟨e2,i2,f2⟩:=i1.push (t:=s.toks+1+1) {cls:=.type "range_iterator",data:=.fields #[rawInt 0,rawInt (Builtin.Range.rangeSize 0 n 1),rawInt 1]} rfl;refine⟨I,π,H,_,_,[_],_,e1.trans e2,i2,λa ha=>by rw [List.mem_singleton.mp ha];exact⟨e1.new (aX _),f2⟩,zo hA (n:=n.toNat),?_,trivial,by simp;omega,k⟩;have:=ce (h:=s.heap.push {cls:=.type "range",data:=.fields #[.int 0 s.toks,.int n t,.int 1 (s.toks+1)]}) (o:={cls:=.type "range_iterator",data:=.fields #[rawInt 0,rawInt (Builtin.Range.rangeSize 0 n 1),rawInt 1]}) rfl;rw [sz]at this;show IsRangeIter _ _ ((0:Nat):Int) ((n.toNat:Int)-((0:Nat):Int)) 1;rw [show((n.toNat:Int)-((0:Nat):Int))=n.toNat by omega];rw [sz];exact this
theorem zu{x:V}(hA:A.handled=none)(i:aK C I π H s)(r:RV C I π va x)(h:pP H x λxs ck=>K (cZ 0 xs) ck H):
  Wa C A (call (.type "enumerate") [va]) (λo s1=>Wa C A (pyIter o) (PI C A (.Tuple elts x1 p) I π s K) aH s1) aH s:=by
 obtain⟨l,xs,ck,rfl,hs,hc,hz,k⟩:=uh i r h;rcases hs with hs|hs
 ·obtain⟨vs,n,hl,-,-⟩:=hs.get i hc;refine PySem.call_enumerate_list ⟨_,hl,rfl,_,rfl⟩ λh' he hit hsz hk=>?_;have hk':∀b o,s.heap.get? b=some o->b∉([]:List Addr)->h'.get? b=some o:=λb o q _=>hk b o q;obtain⟨e1,i1⟩:=i.grow (t:=s.toks) [] (λ_ h=>(nomatch h)) hk';refine wpAny_pyIter_enum he ?_;have n1:s.heap.get? (s.heap.objs.size+1)=none:=by
   cases q:s.heap.get? (s.heap.objs.size+1)with
   |none=>rfl
   |some o=>exact absurd (Heap.lt_size q) (Nat.not_lt.mpr (Nat.le_add_right _ _))
  exact⟨I,π,H,_,ck,_,_,e1,i1,λa ha=>by
   simp only [List.mem_cons,List.not_mem_nil,or_false]at ha;rcases ha with rfl|rfl
   ·exact⟨n1,i.fresh n1⟩
   ·exact⟨aX _,i.fresh (aX _)⟩,vJ hA (Nat.succ_ne_self s.heap.objs.size),⟨⟨_,he⟩,hit,hs.ext e1⟩,hc,by rw [gZ];exact hz,k⟩
 ·obtain⟨vs,n,hl,r0,-⟩:=id hs;have hl':=i.imm _ _ hl;refine callType_new F.called_enumerate (by decide) (F.typeCall_enumerate_1 _) (F.newCall_enumerate_1 _) (λobj=>F.args_object_init_2 obj _) F.entry_enumerate_new (lA l vs.toArray n) ⟨hl',?_⟩;have hz1:(s.heap.push {cls:=.type "tuple_iterator",data:=.fields #[.ref l,.int 0 0]}).objs.size=s.heap.objs.size+1:=Heap.size_push ..;show _/\_;rw [hz1];have he:IsEnum ((s.heap.push {cls:=.type "tuple_iterator",data:=.fields #[.ref l,.int 0 0]}).push
    {cls:=.type "enumerate",data:=.fields #[.none,.bool false,.ref s.heap.objs.size,rawInt 0,.none,.none]}) (s.heap.objs.size+1) s.heap.objs.size 0 .none:=by
   have:=Heap.get?_push_size (s.heap.push {cls:=.type "tuple_iterator",data:=.fields #[.ref l,.int 0 0]})
    (o:={cls:=.type "enumerate",data:=.fields #[.none,.bool false,.ref s.heap.objs.size,rawInt 0,.none,.none]}) rfl
   rw [hz1]at this;exact this
  refine⟨⟨_,he,rfl⟩,?_⟩;refine wpAny_pyIter_enum he ?_;obtain⟨e1,i1,f1⟩:=i.push (t:=s.toks) {cls:=.type "tuple_iterator",data:=.fields #[.ref l,.int 0 0]} rfl;obtain⟨e2,i2,f2⟩:=i1.push (t:=s.toks) {cls:=.type "enumerate",data:=.fields #[.none,.bool false,.ref s.heap.objs.size,rawInt 0,.none,.none]} rfl;have n1:s.heap.get? (s.heap.objs.size+1)=none:=by
   cases q:s.heap.get? (s.heap.objs.size+1)with
   |none=>rfl
   |some o=>exact absurd (Heap.lt_size q) (Nat.not_lt.mpr (Nat.le_add_right _ _))
  exact⟨I,π,H,_,ck,_,_,e1.trans e2,i2,λa ha=>by
   simp only [List.mem_cons,List.not_mem_nil,or_false]at ha;rcases ha with rfl|rfl
   ·exact⟨n1,i.fresh n1⟩
   ·exact⟨aX _,i.fresh (aX _)⟩,vK hA (Nat.succ_ne_self s.heap.objs.size),⟨⟨_,he⟩,⟨_,Heap.get?_push_of_some _ (ce rfl),rfl,rfl⟩,(hs.ext e1).ext e2⟩,hc,by rw [gZ];exact hz,k⟩
theorem zv{x y:V}(hA:A.handled=none)(i:aK C I π H s)(r:RV C I π va x)(r':RV C I π vb y)
  (h:lm H x λxs ck=>lm H y λys ck'=>av (xs.length=ys.length) (K (jh xs ys) (λH'=>ck H'/\ck' H') H)):
  Wa C A (call (.type "zip") [va,vb]) (λo s1=>Wa C A (pyIter o) (PI C A (.Tuple elts x1 p) I π s K) aH s1) aH s:=by
 obtain⟨l,xs,ck,rfl,hs,hc,hz,h⟩:=nj i r h;obtain⟨l',ys,ck',rfl,hs',hc',hz',hlen,k⟩:=nj i r' h;obtain⟨vs,n,hl,-,-⟩:=hs.get i hc;obtain⟨ws,m,hl',-,-⟩:=hs'.get i hc';refine call_zip_2 ⟨_,hl,rfl,_,rfl⟩ ⟨_,hl',rfl,_,rfl⟩ λh' a1 a2 a3 a4 a5 a6 a7=>?_;obtain⟨e1,i1⟩:=i.grow (t:=s.toks) (h':=h') [] (λ_ h=>(nomatch h)) (λb o q _=>a7 b o q);refine wpAny_pyIter_zip a1 ?_;have nn:∀j,s.heap.get? (s.heap.objs.size+j)=none:=λj=>by
  cases q:s.heap.get? (s.heap.objs.size+j)with
  |none=>rfl
  |some o=>exact absurd (Heap.lt_size q) (Nat.not_lt.mpr (Nat.le_add_right _ _))
 have n0:∀a∈[s.heap.objs.size+4,s.heap.objs.size+3,s.heap.objs.size,s.heap.objs.size+1,s.heap.objs.size+2],s.heap.get? a=none/\bO I π a:=λa ha=>by
  have:s.heap.get? a=none:=by
   simp only [List.mem_cons,List.not_mem_nil,or_false]at ha;rcases ha with rfl|rfl|rfl|rfl|rfl
   ·exact nn 4
   ·exact nn 3
   ·exact nn 0
   ·exact nn 1
   ·exact nn 2
  exact⟨this,i.fresh this⟩
 exact⟨I,π,H,_,_,_,_,e1,i1,n0,zp hA hlen (ug s.heap.objs.size),⟨a1,a2,⟨_,_,a3⟩,a4,a5,hs.ext e1,hs'.ext e1⟩,⟨hc,hc'⟩,by rw [p5 hlen];exact hz,k⟩
end
def au:Xp->Bool
 |.Starred .. =>false
 |_=>true
def bl:Xp->Bool
 |.Call (.Name ..) [] [] _=>false
 |_=>true
theorem cj{e:Xp}{af:List Xp}(h:au e=true):starEach (e::af) env=(false,PySem.eval e env)::starEach af env:=by
 cases e<;>first|rfl|cases h
theorem jo{env:Env}{pos:Pos}:∀{es:List Xp},es.all au=true->(backTo pos (starEach es env)).any (·.1)=false
 | [],_=>rfl
 |e::es,h=>by
  rw [List.all_cons,Bool.and_eq_true]at h;rw [cj h.1];show(false||(backTo pos (starEach es env)).any (·.1))=false;rw [jo h.2];rfl
theorem p6{env:Env}{pos:Pos}:∀{es:List Xp},es.all au=true->(backTo pos (starEach es env)).all (λx=> !x.1)=true
 | [],_=>rfl
 |e::es,h=>by
  rw [List.all_cons,Bool.and_eq_true]at h;rw [cj h.1];show(true&&(backTo pos (starEach es env)).all (λx=> !x.1))=true;rw [p6 h.2];rfl
theorem th{o:Xp}(h:bl o=true):attributeBase o name env t=t:=by
 unfold attributeBase;split
 ·exact absurd h Bool.false_ne_true
 ·rfl
section
variable {C:Cx}{I I':Im}{π π':Pi}{ρ:aE}{H:Hp}{s s':Shared}{A:Around}{env:Env}{Q:Value->Shared->Prop}
theorem lB{f:Value}{es:List Xp}{Q:Args->Shared->Prop}(hs:es.all au=true)(h:Wa C A (spliced (backTo pos (starEach es env))) (λvs s1=>Q ⟨vs,[]⟩ s1) aH s):
  Wa C A (evalArgs f true (backTo pos (starEach es env)) []) Q aH s:=by
 cases es with
 |nil=>
  unfold evalArgs;show Wa C A (spliced []>>=_) _ _ _;refine wpAny_bind (wpAny_mono h (λvs s1 q=>?_) λ_ _ e=>e);refine wpAny_bind (wpAny_pure ?_);refine wpAny_holding ?_;exact wpAny_bind (wpAny_pure (wpAny_bind (wpAny_pure (wpAny_pure q))))
 |cons e af=>
  rw [List.all_cons,Bool.and_eq_true]at hs;rw [cj hs.1]at h⊢;exact evalArgs_plain h
theorem jN{es:List Xp}(hs:es.all au=true)(h:Wa C A (spliced (backTo pos (starEach es env))) (λvs s1=>Wa C A (call (.builtin id) (first++vs)) Q aH s1) aH s):
  Wa C A (callWith pos (.builtin id) first (backTo pos (starEach es env)) []) Q aH s:=
 callWith_builtin (jo hs) (lB hs h)
theorem hJ{T:String}{es:List Xp}(hs:es.all au=true)(h:Wa C A (spliced (backTo pos (starEach es env))) (λvs s1=>Wa C A (call (.type T) vs) Q aH s1) aH s):
  Wa C A (callWith pos (.type T) [] (backTo pos (starEach es env)) []) Q aH s:=
 PySem.callWith_type (jo hs) (lB hs h)
theorem jO{f:Value}{es:List Xp}(hk:keepIn C.K f=true)(hs:es.all au=true)(h:Wa C A (spliced (backTo pos (starEach es env))) (λvs s1=>C.K.In s1.heap/\Wa C A (call f (first++vs)) Q aH s1) aH s):
  Wa C A (callWith pos f first (backTo pos (starEach es env)) []) Q aH s:=
 callWith_of (by rw [jo hs];rfl) (keeps_K hk) (lB hs h)
theorem da{f:Xp}{x:Str}(hf:f= .Name x p)(h:Wa C A (PySem.eval f env) (λf s₁=>Wa C A (callWith pos f [] (backTo pos (starEach args env)) []) Q aH s₁) aH s):
  Wa C A (PySem.eval (.Call f args [] pos) env) Q aH s:=by
 subst hf;exact Call_ h
theorem p7{o:Xp}(hb:bl o=true)(hs:args.all au=true)(hn:args.length<30)(hline:(apos.endLine==pos.line)=true)
  (h:Wa C A (PySem.eval o env) (λov s₁=>∀pl,Wa C A (getMethod ov name pl) (λfx s₂=>Wa C A (callWith pos fx.1 fx.2 (backTo pos (starEach args env)) []) Q aH s₂) aH s₁) aH s):
  Wa C A (PySem.eval (.Call (.Attribute o name apos) args [] pos) env) Q aH s:=by
 rw [arm_eval_Call,th hb];refine wpAny_bind (wpAny_mono h (λov s₁ h₁=>?_) λ_ _ e=>e);refine wpAny_bind (wpAny_standAt ?_);have hform:methodCallForm (args.length+([]:List Keyword).length) (backTo pos (starEach args env)) (backToKw pos (keywordEach [] env))=true:=by
  unfold methodCallForm;rw [p6 hs];simp [backToKw,keywordEach];exact hn
 have hpos:methodCallPos true o env apos pos=pure pos:=by unfold methodCallPos;simp [hline]
 unfold methodCall;rw [hform];refine wpAny_bind (wpAny_holding (wpAny_mono (h₁ _) (λfx s₂ h₂=>?_) λ_ _ e=>e));exact wpAny_bind (wpAny_of_eq hpos h₂)
end
inductive AQ(C:Cx)(I:Im)(π:Pi):Flow->Fl->Prop where
 |next:AQ C I π .next .next
 |brk:AQ C I π .brk .brk
 |cont:AQ C I π .cont .cont
 |ret {v x}:RV C I π v x->AQ C I π (.ret v) (.ret x)
def PS(C:Cx)(env:Env)(nm:List Str)(I:Im)(π:Pi)(s:Shared)(K:Fl->aE->Hp->Prop)(f:Flow)(s':Shared):Prop:=
 ∃I' π' H' ρ' fl,bz (env.locals::env.cells.map (·.2)) I π s I' π' s'/\aK C I' π' H' s'/\LR C env nm I' π' ρ' s'/\AQ C I' π' f fl/\K fl ρ' H'
section
variable {C:Cx}{I I':Im}{π π':Pi}{H:Hp}{s s':Shared}{A:Around}{env:Env}
mutual
theorem RV.noref:∀{v x},RV C I π v x->NR x->RV C I π' v x
 |_,_,.none,_=>.none
 |_,_,.bool b,_=>.bool b
 |_,_,.int i t,_=>.int i t
 |_,_,.chr c t,_=>.chr c t
 |_,_,.ao h l r,n=>.ao h l (bx.noref r (by cases n with|ao n=>exact n))
 |_,_,.ad h l r,n=>.ad h l (bx.noref r (by cases n with|ad n=>exact n))
 |_,_,.obj h h' f l r,n=>.obj h h' f l (bx.noref r (by cases n with|obj n=>exact n))
 |_,_,.dct h d y l r,n=>.dct h d y l (eg.noref r (by cases n with|dct n=>exact n))
 |_,_,.ref _,n=>by cases n
theorem bx.noref:∀{v x},bx C I π v x->(∀y∈x,NR y)->bx C I π' v x
 |_,_,.nil,_=>.nil
 |_,_,.cons h r,n=>.cons (RV.noref h (n _ (.head _))) (bx.noref r λy hy=>n y (.tail _ hy))
theorem eg.noref:∀{v x},eg C I π v x->(∀y∈x,NR y.2)->eg C I π' v x
 |_,_,.nil,_=>.nil
 |_,_,.cons h r,n=>.cons (RV.noref h (n _ (.head _))) (eg.noref r λy hy=>n y (.tail _ hy))
end
open Classical in
def lC(I:Im)(π:Pi)(n:Nat)(h:Heap):Im:=λa=>if a∈(π.drop n).map (·.2)then h.get? a else I a
theorem fy(i:aK C I π H s){o:Obj}(e:I a=some o):lC I π n h a=some o:=by
 unfold lC;rw [if_neg]
 ·exact e
 ·intro m;obtain⟨p,hp,rfl⟩:=List.mem_map.mp m;rw [(i.sep p (List.mem_of_mem_drop hp)).1]at e;cases e
theorem xD{r:Nat}{p:Addr×Addr}(hp:π[r]?=some p)(hr:n<=r):lC I π n h p.2=h.get? p.2:=by
 unfold lC;rw [if_pos];refine List.mem_map_of_mem (f:=λx:Addr×Addr=>x.2) ?_;have:(π.drop n)[r-n]?=some p:=by rw [List.getElem?_drop];rw [show n+(r-n)=r by omega];exact hp
 exact List.mem_of_getElem? this
inductive RB(n:Nat):V->Prop where
 |none:RB n .none
 |bool (b):RB n (.bool b)
 |int (i):RB n (.int i)
 |chr (c):RB n (.chr c)
 |ref {r}:r<n->RB n (.ref r)
 |ao {xs}:(∀x∈xs,RB n x)->RB n (.ao xs)
 |ad {xs}:(∀x∈xs,RB n x)->RB n (.ad xs)
 |obj {c fs}:(∀x∈fs,RB n x)->RB n (.obj c fs)
 |dct {ks}:(∀x∈ks,RB n x.2)->RB n (.dct ks)
mutual
theorem RV.rb:∀{v x},RV C I π v x->RB π.length x
 |_,_,.none=>.none
 |_,_,.bool b=>.bool b
 |_,_,.int i t=>.int i
 |_,_,.chr c t=>.chr c
 |_,_,.ao h l r=>.ao (bx.rb r)
 |_,_,.ad h l r=>.ad (bx.rb r)
 |_,_,.obj h h' f l r=>.obj (bx.rb r)
 |_,_,.dct h d y l r=>.dct (eg.rb r)
 |_,_,.ref h=>.ref (List.getElem?_eq_some_iff.mp h).1
theorem bx.rb:∀{v x},bx C I π v x->∀y∈x,RB π.length y
 |_,_,.nil=>λ_ h=>nomatch h
 |_,_,.cons h r=>λy hy=>(List.mem_cons.mp hy).elim (λe=>e▸RV.rb h) (λm=>bx.rb r y m)
theorem eg.rb:∀{v x},eg C I π v x->∀y∈x,RB π.length y.2
 |_,_,.nil=>λ_ h=>nomatch h
 |_,_,.cons h r=>λy hy=>(List.mem_cons.mp hy).elim (λe=>e▸RV.rb h) (λm=>eg.rb r y m)
end
mutual
theorem RV.cut{n:Nat}:∀{v x},RV C I π v x->RB n x->RV C I (π.take n) v x
 |_,_,.none,_=>.none
 |_,_,.bool b,_=>.bool b
 |_,_,.int i t,_=>.int i t
 |_,_,.chr c t,_=>.chr c t
 |_,_,.ao h l r,n=>.ao h l (bx.cut r (by cases n with|ao n=>exact n))
 |_,_,.ad h l r,n=>.ad h l (bx.cut r (by cases n with|ad n=>exact n))
 |_,_,.obj h h' f l r,n=>.obj h h' f l (bx.cut r (by cases n with|obj n=>exact n))
 |_,_,.dct h d y l r,n=>.dct h d y l (eg.cut r (by cases n with|dct n=>exact n))
 |_,_,.ref h,m=>.ref (by cases m with|ref m=>rw [List.getElem?_take,if_pos m];exact h)
theorem bx.cut{n:Nat}:∀{v x},bx C I π v x->(∀y∈x,RB n y)->bx C I (π.take n) v x
 |_,_,.nil,_=>.nil
 |_,_,.cons h r,n=>.cons (RV.cut h (n _ (.head _))) (bx.cut r λy hy=>n y (.tail _ hy))
theorem eg.cut{n:Nat}:∀{v x},eg C I π v x->(∀y∈x,RB n y.2)->eg C I (π.take n) v x
 |_,_,.nil,_=>.nil
 |_,_,.cons h r,n=>.cons (RV.cut h (n _ (.head _))) (eg.cut r λy hy=>n y (.tail _ hy))
end
def PK(n:Nat):CO->Prop
 |.dead=>True
 |.ad xs=>∀x∈xs,RB n x
 |.dct ks=>∀x∈ks,RB n x.2
 |.inst _ fs=>∀o∈fs,∀x,o=some x->RB n x
theorem ua.rb{p:Addr×Addr}{co:CO}(x:ua C I π h p co):PK π.length co:=by
 cases co with
 |dead=>trivial
 |ad xs=>obtain⟨e,vs,n,h1,h2,h3⟩:=x;exact h2.rb
 |dct xs=>obtain⟨e,kvs,h1,h2,h3,h4⟩:=x;exact h3.rb
 |inst c fs=>
  obtain⟨e,es,n,vs,h1,h2,h3,h4,h5⟩:=x;rintro o ho x rfl
  obtain⟨k,hk⟩:=List.getElem?_of_mem ho;have:=h5 k;rw [hk]at this
  revert this
  cases vs[k]? with
  |none=>exactλh=>h.elim
  |some v=>cases v with
   |none=>exactλh=>h.elim
   |some v=>exactλh=>h.rb
theorem ua.cut{p:Addr×Addr}{co:CO}(hI:∀a o,I a=some o->I' a=some o)(x:ua C I π h p co)(b:PK n co):ua C I' (π.take n) h p co:=by
 have same:∃q,π.take n++q=π.take n:=⟨[],by simp⟩
 cases co with
 |dead=>trivial
 |ad xs=>obtain⟨e,vs,m,h1,h2,h3⟩:=x;exact⟨e,vs,m,h1,(h2.cut b).mono hI same,h3⟩
 |dct xs=>obtain⟨e,kvs,h1,h2,h3,h4⟩:=x;exact⟨e,kvs,h1,h2,(h3.cut b).mono hI same,h4⟩
 |inst c fs=>
  obtain⟨e,es,m,vs,h1,h2,h3,h4,h5⟩:=x;refine⟨hI _ _ e,es,m,vs,h1,h2,h3,h4,λk=>?_⟩;have:=h5 k
  revert this
  cases vs[k]? with
  |none=>cases fs[k]?<;>exactλh=>h
  |some v=>cases v with
   |none=>cases fs[k]? with
    |none=>exactλh=>h
    |some x=>cases x<;>exactλh=>h
   |some v=>cases hf:fs[k]? with
    |none=>exactλh=>h
    |some x=>cases x with
     |none=>exactλh=>h
     |some x=>exactλh=>(h.cut (b (some x) (List.mem_of_getElem? hf) x rfl)).mono hI same
theorem aK.back{H0:Hp}(i0:aK C I₀ π₀ H0 s₀)(e:bz [] I₀ π₀ s₀ I π s)(i:aK C I π H s)(hH:H.take H0.length=H0):
  bz [] I₀ π₀ s₀ (lC I π H0.length s.heap) π₀ s/\aK C (lC I π H0.length s.heap) π₀ H0 s:=by
 obtain⟨q,rfl,hq⟩:=e.pre;have tk:(π₀++q).take H0.length=π₀:=by rw [←i0.len,List.take_left]
 have dr:(π₀++q).drop H0.length=q:=by rw [←i0.len,List.drop_left]
 have nd:=i.apart;rw [List.map_append,List.nodup_append]at nd;refine⟨⟨λa o h=>fy i (e.imm a o h),⟨[],by simp,λ_ h=>(nomatch h)⟩,e.stay,e.has,λa o h=>?_⟩,
  ⟨λa o h=>?_,λa o h=>fy i (i.kin _ _ h),i0.len,λk p co hp hc=>?_,i0.apart,λp hp=>⟨?_,?_⟩,i.gens,i.os⟩⟩
 ·unfold Mine.lC at h;rw [dr]at h;by_cases m:a∈q.map (·.2)
  ·obtain⟨p,hp,rfl⟩:=List.mem_map.mp m;exact .inr (hq p hp)
  ·rw [if_neg m]at h;exact e.inew _ _ h
 ·unfold Mine.lC at h;by_cases m:a∈((π₀++q).drop H0.length).map (·.2)
  ·rw [if_pos m]at h;exact h
  ·rw [if_neg m]at h;exact i.imm _ _ h
 ·have hk:=(List.getElem?_eq_some_iff.mp hp).1;have hp':(π₀++q)[k]?=some p:=by rw [List.getElem?_append_left hk];exact hp
  have hc':H[k]?=some co:=by
   rw [←hH,List.getElem?_take]at hc;by_cases z:k<H0.length
   ·rw [if_pos z]at hc;exact hc
   ·rw [if_neg z]at hc;cases hc
  have b:=(i0.obj k p co hp hc).rb;have r:=(i.obj k p co hp' hc').cut (n:=π₀.length) (λa o h=>fy (n:=H0.length) (h:=s.heap) i h) b;rw [List.take_left]at r;exact r
 ·unfold Mine.lC;rw [dr,if_neg]
  ·exact(i.sep p (List.mem_append_left _ hp)).1
  ·intro m;exact nd.2.2 _ (List.mem_map_of_mem hp) _ m rfl
 ·exact(i.sep p (List.mem_append_left _ hp)).2
end
section
variable {C:Cx}{I I':Im}{π π' π₀:Pi}{H:Hp}{s s':Shared}{A:Around}{env:Env}
theorem mapM_cons{α β:Type}{f:α->Option β}{x:α}{xs:List α}{us:List β}(h:(x::xs).mapM f=some us):∃u us',f x=some u/\xs.mapM f=some us'/\us=u::us':=by
 rw [List.mapM_cons]at h
 cases hf:f x with
 |none=>rw [hf]at h;cases h
 |some u=>
  rw [hf]at h
  cases hm:xs.mapM f with
  |none=>rw [hm]at h;cases h
  |some us'=>
   rw [hm]at h;exact⟨u,us',rfl,rfl,(Option.some.inj h).symm⟩
theorem ti{f:V->Option V}(ih:∀{v x u},RV C I π v x->f x=some u->NR u->RV C I' π₀ v u):∀{vs:List Value} {xs us:List V},bx C I π vs xs->xs.mapM f=some us->(∀u∈us,NR u)->bx C I' π₀ vs us:=by
 intro vs;induction vs with
 |nil=>intro xs us r h _;cases r;cases h;exact .nil
 |cons v vs ih2=>
  intro xs us r h n
  cases r with
  |cons rv r=>
   obtain⟨u,us',h1,h2,rfl⟩:=mapM_cons h;exact .cons (ih rv h1 (n _ (.head _))) (ih2 r h2 λy hy=>n y (.tail _ hy))
theorem vM{f:V->Option V}(ih:∀{v x u},RV C I π v x->f x=some u->NR u->RV C I' π₀ v u):∀{vs:List (Int×Value)} {xs us:List (Int×V)},eg C I π vs xs->(xs.mapM λkv=>(f kv.2).map λv=>(kv.1,v))=some us->(∀u∈us,NR u.2)->eg C I' π₀ vs us:=by
 intro vs;induction vs with
 |nil=>intro xs us r h _;cases r;cases h;exact .nil
 |cons v vs ih2=>
  intro xs us r h n
  cases r with
  |cons rv r=>
   obtain⟨u,us',h1,h2,rfl⟩:=mapM_cons h;simp only [Option.map_eq_some_iff]at h1;obtain⟨u',h1,rfl⟩:=h1;exact .cons (ih rv h1 (n _ (.head _))) (ih2 r h2 λy hy=>n y (.tail _ hy))
theorem vN{f:V->Option V}(ih:∀{v x u},RV C I π v x->f x=some u->NR u->RV C I' π₀ v u):∀{fs:List (Option V)} {vs:List (Option Value)} {us:List V},vs.length=fs.length->
  (∀k:Nat,match vs[k]?,fs[k]? with
    |some (some v),some (some x)=>RV C I π v x
    |some none,some none=>True
    |none,none=>True
    |_,_=>False)->(fs.mapM λ(o:Option V)=>o.bind f)=some us->(∀u∈us,NR u)->∃ws:List Value,vs=ws.map some/\bx C I' π₀ ws us:=by
 intro fs;induction fs with
 |nil=>intro vs us hl _ h _;cases h;exact⟨[],by simpa using hl,.nil⟩
 |cons o fs ih2=>
  intro vs us hl hk h n;obtain⟨u,us',h1,h2,rfl⟩:=mapM_cons h
  cases vs with
  |nil=>simp at hl
  |cons v vs=>
   have h0:=hk 0;simp only [List.getElem?_cons_zero]at h0
   cases o with
   |none=>cases h1
   |some x=>
    cases v with
    |none=>exact h0.elim
    |some v=>
     obtain⟨ws,rfl,rr⟩:=ih2 (by simpa using hl) (λk=>by simpa using hk (k+1)) h2 λy hy=>n y (.tail _ hy);exact⟨v::ws,rfl,.cons (ih h0 h1 (n _ (.head _))) rr⟩
theorem zw(i:aK C I π H s)(n:Nat):∀(d:Nat) {v:Value} {x u:V},RV C I π v x->frz n H d x=some u->NR u->RV C (lC I π n s.heap) π₀ v u:=by
 intro d;induction d with
 |zero=>intro v x u r h;cases h
 |succ d ih=>
  intro v x u r h nr;have same:∀{x},frz n H (d+1) x=some x->x=u->RV C I π v x->RV C (lC I π n s.heap) π₀ v u:=λ_ e r=>by
   subst e;exact(r.noref (π':=π₀) nr).mono (λa o h=>fy i h) ⟨[],by simp⟩
  cases r with
  |ref e=>
   rename_i r a dd;have h':(if r<n then none else(match H[r]? with
    |some (.ad xs)=>(xs.mapM (frz n H d)).map V.ad
    |some (.dct ks)=>(ks.mapM λkv=>(frz n H d kv.2).map λv=>(kv.1,v)).map V.dct
    |some (.inst c fs)=>(fs.mapM λ(o:Option V)=>o.bind (frz n H d)).map (V.obj c)
    |_=>Option.none))=some u:=h
   by_cases hr:r<n
   ·rw [if_pos hr]at h';cases h'
   ·rw [if_neg hr]at h'
    cases ho:H[r]? with
    |none=>rw [ho]at h';cases h'
    |some co=>
     rw [ho]at h';have io:=i.obj _ _ _ e ho;have ca:=xD (I:=I) (n:=n) (h:=s.heap) e (Nat.not_lt.mp hr)
     cases co with
     |dead=>cases h'
     |ad xs=>
      obtain⟨e1,vs,m,h1,h2,h3⟩:=io;simp only at e1;subst e1;obtain⟨us,hu,rfl⟩:=Option.map_eq_some_iff.mp h';exact .ad (ca.trans h1) h3 (ti (λr h n=>ih r h n) h2 hu (by cases nr with|ad n=>exact n))
     |dct xs=>
      obtain⟨e1,kvs,h1,h2,h3,h4⟩:=io;simp only at e1;subst e1;obtain⟨o,ho',hd⟩:=Heap.dictOf_iff.mp h1;obtain⟨us,hu,rfl⟩:=Option.map_eq_some_iff.mp h';exact .dct (ca.trans ho') hd h2 h4 (vM (λr h n=>ih r h n) h3 hu (by cases nr with|dct n=>exact n))
     |inst c fs=>
      obtain⟨e1,es,m,vs,h1,h2,h3,h4,h5⟩:=io;obtain⟨us,hu,rfl⟩:=Option.map_eq_some_iff.mp h';obtain⟨ws,rfl,rr⟩:=vN (λr h n=>ih r h n) h3 h5 hu (by cases nr with|obj n=>exact n);exact .obj (fy i e1) (ca.trans h1) h2 (by simpa using h4) rr
  |ao e l r=>
   have h':(_:Option V)=some u:=h;obtain⟨us,hu,rfl⟩:=Option.map_eq_some_iff.mp h';exact .ao (fy i e) l (ti (λr h n=>ih r h n) r hu (by cases nr with|ao n=>exact n))
  |none=>exact same rfl (Option.some.inj h) .none
  |bool b=>exact same rfl (Option.some.inj h) (.bool b)
  |int j t=>exact same rfl (Option.some.inj h) (.int j t)
  |chr c t=>exact same rfl (Option.some.inj h) (.chr c t)
  |ad e l r=>exact same rfl (Option.some.inj h) (.ad e l r)
  |obj e1 e2 f l r=>exact same rfl (Option.some.inj h) (.obj e1 e2 f l r)
  |dct e dd m l r=>exact same rfl (Option.some.inj h) (.dct e dd m l r)
theorem lD{K:V->Hp->Prop}{H0:Hp}{pure:Bool}{x:V}(i0:aK C I₀ π₀ H0 s₀)(e:bz [] I₀ π₀ s₀ I π s)(i:aK C I π H s)(r:RV C I π v x)(k:pQ pure H0 x H K):PE C I₀ π₀ s₀ K v s:=by
 cases pure with
 |false=>exact⟨I,π,x,H,e,i,r,k⟩
 |true=>
  obtain⟨u,hu,nr,hH,k⟩:=mN.h k;obtain⟨e1,i1⟩:=i0.back e i hH;exact⟨_,π₀,u,H0,e1,i1,zw i H0.length 8 r hu nr,k⟩
end
def vO(C:Cx)(f:Nat):Addr:=match C.T.fn f with
 |some _=>C.N.fa f
 |none=>C.N.ca (f-1000)
def okR(C:Cx)(I:Im)(π:Pi)(s:Shared)(K:V->Hp->Prop):Result->Shared->Prop:=λr s'=>match r with
 |.ok (.ret v)=>PE C I π s K v s'
 |_=>False
def fP(C:Cx)(d:Nat):Prop:=∀(f:Nat) (vs:List V) (H:Hp) (K:V->Hp->Prop) (I:Im) (π:Pi) (s:Shared) (vals:List Value) (A:Around),
 dF A d->aG C.T d f vs H K->aK C I π H s->bx C I π vals vs->codeAny (model C.prog C.w) A (.call (.ref (vO C f)) ⟨vals,[]⟩) (okR C I π s K) s
structure vP(C:Cx)(f:Nat)(g:Fn)(fd:FuncData)(body:List Stmt)(nm:List Str)(dvals:List Value):Prop where
 at_:∃o,C.K.lookup (C.N.fa f)=some o/\o.data= .func fd
 body:fd.body= .stmts body
 glob:fd.globals=mainGlobals
 bltn:fd.builtins=builtinsNs
 clo:fd.closure=[]
 co:fd.scope.isCoroutine=false
 gen:fd.scope.isGenerator=false
 kind:fd.scope.kind= .function
 code:codeIn C.K fd.code fd.qualname=true
 bind:∀(vals:List Value) (s:Shared),C.K.In s.heap->vals.length<=g.np->g.np<=vals.length+g.dfl.length->
  BindsTo s fd ⟨vals,[]⟩ ((nm.take g.np).zip (vals++dvals.drop (g.dfl.length+vals.length-g.np)))
 dv:∀I π,PH C I->bx C I π dvals g.dfl
 nmLen:nm.length=g.nl
 npLe:g.np<=g.nl
 nodup:nm.Nodup
 pars:∀x∈nm.take g.np,fd.scope.names.lookup x=some .local\/fd.scope.names.lookup x=some .cell
 free:∀x,fd.scope.names.lookup x≠some .free
 scn:(fd.scope.names.map (·.1)).Nodup
theorem nk{kindOf:Str->Option NameKind}{x:Str}{v:Value}(hx:kindOf x=some .local):∀{binds:List (Str×Value)} {m:Str->Option Value},(binds.map (·.1)).Nodup->((x,v)∈binds\/(m x=some v/\x∉binds.map (·.1)))->bindL kindOf binds m x=some v
 | [],m,_,h=>by
  rcases h with h|h
  ·cases h
  ·exact h.1
 |(n,u)::r,m,nd,h=>by
  rw [List.map_cons,List.nodup_cons]at nd;unfold bindL;refine nk hx nd.2 ?_;rcases h with h|⟨h1,h2⟩
  ·rcases List.mem_cons.mp h with e|h
   ·cases e;exact .inr ⟨by rw [if_pos hx];simp,nd.1⟩
   ·exact .inl h
  ·rw [List.map_cons,List.mem_cons,not_or]at h2;refine .inr ⟨?_,h2.2⟩;split
   ·show(if x=n then some u else m x)=some v;rw [if_neg h2.1];exact h1
   ·exact h1
theorem nq{kindOf:Str->Option NameKind}{x:Str}{v:Value}(hx:¬kindOf x=some .local):∀{binds:List (Str×Value)} {m:Str->Option Value},(binds.map (·.1)).Nodup->((x,v)∈binds\/(m x=some v/\x∉binds.map (·.1)))->bindC kindOf binds m x=some v
 | [],m,_,h=>by
  rcases h with h|h
  ·cases h
  ·exact h.1
 |(n,u)::r,m,nd,h=>by
  rw [List.map_cons,List.nodup_cons]at nd;unfold bindC;refine nq hx nd.2 ?_;rcases h with h|⟨h1,h2⟩
  ·rcases List.mem_cons.mp h with e|h
   ·cases e;exact .inr ⟨by rw [if_neg hx];simp,nd.1⟩
   ·exact .inl h
  ·rw [List.map_cons,List.mem_cons,not_or]at h2;refine .inr ⟨?_,h2.2⟩;split
   ·exact h1
   ·show(if x=n then some u else m x)=some v;rw [if_neg h2.1];exact h1
theorem ds{x:Str}:∀{names:List (Str×NameKind)} {n:Nat} {acc:List (Str×Addr)},((x,NameKind.cell)∈names\/(acc.lookup x).isSome=true)->((cellsFrom n names acc).lookup x).isSome=true
 | [],n,acc,h=>by
  rcases h with h|h
  ·cases h
  ·exact h
 |(y,k)::r,n,acc,h=>by
  unfold cellsFrom;by_cases hk:(k==NameKind.cell)=true
  ·rw [if_pos hk];refine ds ?_;rcases h with h|h
   ·rcases List.mem_cons.mp h with e|h
    ·cases e;exact .inr (by simp)
    ·exact .inl h
   ·refine .inr ?_;simp only [List.lookup_cons];split<;>simp_all
  ·rw [if_neg hk];refine ds ?_;rcases h with h|h
   ·rcases List.mem_cons.mp h with e|h
    ·cases e;exact absurd rfl hk
    ·exact .inl h
   ·exact .inr h
theorem dS:∀{names:List (Str×NameKind)} {n:Nat} {acc:List (Str×Addr)},(names.map (·.1)).Nodup->(acc.map (·.1)).Nodup->(∀x∈names.map (·.1),x∉acc.map (·.1))->((cellsFrom n names acc).map (·.1)).Nodup
 | [],n,acc,_,h,_=>h
 |(y,k)::r,n,acc,h,g,hd=>by
  rw [List.map_cons,List.nodup_cons]at h;unfold cellsFrom;by_cases hk:(k==NameKind.cell)=true
  ·rw [if_pos hk];refine dS h.2 ?_ λx hx=>?_
   ·rw [List.map_cons,List.nodup_cons];exact⟨hd y (.head _),g⟩
   ·rw [List.map_cons,List.mem_cons,not_or];exact⟨λe=>h.1 (e▸hx),hd x (.tail _ hx)⟩
  ·rw [if_neg hk];exact dS h.2 g λx hx=>hd x (.tail _ hx)
theorem iQ{β:Type}{x:Str}{c:β}:∀{l:List (Str×β)},(l.map (·.1)).Nodup->(x,c)∈l->l.lookup x=some c
 | [],_,h=>by cases h
 |(y,d)::r,nd,h=>by
  rw [List.map_cons,List.nodup_cons]at nd;rcases List.mem_cons.mp h with e|h
  ·cases e;simp
  ·have:x≠y:=λe=>nd.1 (by show y∈_;rw [←e];exact List.mem_map_of_mem (f:=λp:Str×β=>p.1) h);rw [List.lookup_cons];have h3:(x==y)=false:=by simpa using this
   rw [h3];exact iQ nd.2 h
theorem oK{α β:Type}:∀(l:List α) (m:List β),((l.zip m).map (·.1)).Sublist l
 | [],_=>by simp
 |a::l,[]=>by simp
 |a::l,b::m=>by simp only [List.zip_cons_cons,List.map_cons];exact(oK l m).cons_cons a
section
variable {C:Cx}{I I':Im}{π π':Pi}{H:Hp}{s s':Shared}{A:Around}{env:Env}{d:Nat}
theorem dF.deeper(h:dF A (d+1)):dF (A.deeper env) d:=⟨by have:=h.depth;show A.depth+1+10*d+40<_;omega,by have:=h.units;show A.units+3+100*d+400<_;omega,h.handled⟩
theorem xE{α β:Type}{l:List α}{m:List β}{i:Nat}{a:α}{b:β}(h1:l[i]?=some a)(h2:m[i]?=some b):(a,b)∈l.zip m:=by
 have:(l.zip m)[i]?=some (a,b):=by rw [List.getElem?_zip_eq_some];exact⟨h1,h2⟩
 exact List.mem_of_getElem? this
theorem ui{g:Fn}{vs:List V}{i:Nat}{v:V}(h:bE (pR g vs) i=some v):(vs++g.dfl.drop (g.dfl.length+vs.length-g.np))[i]?=some v:=by
 unfold bE pR at h;rw [List.getElem?_append]at h;by_cases hi:i<((vs++g.dfl.drop (g.dfl.length+vs.length-g.np)).map some).length
 ·rw [if_pos hi,List.getElem?_map]at h
  cases e:(vs++g.dfl.drop (g.dfl.length+vs.length-g.np))[i]? with
  |none=>rw [e]at h;cases h
  |some u=>rw [e]at h;simpa using h
 ·rw [if_neg hi,List.getElem?_replicate]at h;split at h
  ·rename_i q;split at q<;>cases q
  ·cases h
theorem vQ{g:Fn}{body:List Stmt}{nm:List Str}{vs:List V}{s1:Shared}(ok:vP C f g fd body nm dvals)(i:aK C I π H s)(r:bx C I π vals vs)
  (h1:vs.length<=g.np) (h2:g.np<=vs.length+g.dfl.length)
  (x:InCallC s (callEnvC fd s.heap.objs.size (C.N.fa f)).locals (bindL (callEnvC fd s.heap.objs.size (C.N.fa f)).kindOf ((nm.take g.np).zip (vals++dvals.drop (g.dfl.length+vals.length-g.np))) λ_=>none) (callEnvC fd s.heap.objs.size (C.N.fa f)).cells
    (bindC (callEnvC fd s.heap.objs.size (C.N.fa f)).kindOf ((nm.take g.np).zip (vals++dvals.drop (g.dfl.length+vals.length-g.np))) λ_=>none) s1):
  bz [] I π s I π s1/\aK C I π H s1/\LR C (callEnvC fd s.heap.objs.size (C.N.fa f)) nm I π (pR g vs) s1:=by
 obtain⟨h',tk,rfl⟩:=x.toInCall.same;have keep:=x.toInCall.keep;obtain⟨e1,i1⟩:=i.grow (t:=tk) (h':=h') [] (λ_ h=>(nomatch h)) (λb o h _=>keep b o h);have rd:bx C I π (vals++dvals.drop (g.dfl.length+vals.length-g.np)) (vs++g.dfl.drop (g.dfl.length+vs.length-g.np)):=by
  rw [r.length];exact r.append ((ok.dv I π i.kin).drop _)
 have nd:(((nm.take g.np).zip (vals++dvals.drop (g.dfl.length+vals.length-g.np))).map (·.1)).Nodup:=by
  exact(ok.nodup.sublist (List.take_sublist _ _)).sublist (oK _ _)
 have look:∀{k:Nat} {y:Str} {v:V},nm[k]?=some y->bE (pR g vs) k=some v->∃u,(y,u)∈(nm.take g.np).zip (vals++dvals.drop (g.dfl.length+vals.length-g.np))/\RV C I π u v:=by
  intro k y v hy hv;have h3:=ui hv;obtain⟨u,hu,ru⟩:=rd.get h3;have hk:k<g.np:=by
   have:=(List.getElem?_eq_some_iff.mp h3).1;rw [List.length_append,List.length_drop]at this;omega
  exact⟨u,xE (by rw [List.getElem?_take,if_pos hk];exact hy) hu,ru⟩
 have kind:∀y,(callEnvC fd s.heap.objs.size (C.N.fa f)).kindOf y=fd.scope.names.lookup y:=λ_=>rfl;have newOf:∀a,s.heap.objs.size<=a->bO I π a:=λa h=>i.fresh (by
  cases q:s.heap.get? a with
  |none=>rfl
  |some o=>exact absurd (Heap.lt_size q) (Nat.not_lt.mpr h))
 refine⟨e1,i1,⟨ok.kind,ok.glob,ok.bltn,⟨_,x.toInCall.ns,λk y v hy hv hk=>?_⟩,λk y hy hk=>?_,λa ha=>?_,⟨λm=>?_,x.apart⟩⟩⟩
 ·obtain⟨u,hm,ru⟩:=look hy hv;exact⟨u,nk hk nd (.inl hm),ru⟩
 ·have hc:fd.scope.names.lookup y=some .cell:=by
   rcases hk with hk|hk
   ·rw [←kind y];exact hk
   ·exact absurd hk (ok.free y)
  obtain⟨c,hc'⟩:=Option.isSome_iff_exists.mp (ds (x:=y) (names:=fd.scope.names) (n:=s.heap.objs.size+1) (acc:=[]) (.inl (mem_of_lookup hc)));refine⟨c,_,hc',x.cell y c hc',λv hv=>?_⟩;obtain⟨u,hm,ru⟩:=look hy hv;exact⟨u,nq (by rw [kind,hc];exactλh=>nomatch h) nd (.inl hm),ru⟩
 ·have hL:s.heap.objs.size<=a/\∃o,h'.get? a=some o:=by
   rcases List.mem_cons.mp ha with rfl|ha
   ·exact⟨Nat.le_refl _,let⟨o,_,_,h,_⟩:=x.toInCall.ns;⟨o,h⟩⟩
   ·obtain⟨⟨y,c⟩,hm,rfl⟩:=List.mem_map.mp ha;refine⟨Nat.le_of_lt (x.above y c hm),?_⟩;have hl:=iQ (dS (n:=s.heap.objs.size+1) (acc:=[]) ok.scn (by simp) (λ_ _ h=>(nomatch h))) hm;obtain⟨o,ho,-⟩:=x.cell y c hl;exact⟨o,ho⟩
  exact⟨hL.2,newOf a hL.1⟩
 ·obtain⟨⟨y,c⟩,hm,e⟩:=List.mem_map.mp m;exact absurd (x.above y c hm) (by simp only at e;rw [e];exact Nat.lt_irrefl _)
def zy(C:Cx)(d:Nat)(A:Around)(env:Env)(nm:List Str)(b:aU)(body:List Stmt):Prop:=
 ∀(I:Im) (π:Pi) (H:Hp) (s:Shared) (ρ:aE) (K:Fl->aE->Hp->Prop),LR C env nm I π ρ s->aK C I π H s->aM C.T (aG C.T d) b ρ H K->Wa C A (execs body env) (PS C env nm I π s K) aH s
theorem xF{g:Fn}{body:List Stmt}{nm:List Str}{vs:List V}{K:V->Hp->Prop}(cok:eF C)(ok:vP C f g fd body nm dvals)(rm:dF A (d+1))
  (bok:∀L,zy C d (A.deeper (callEnvC fd L (C.N.fa f))) (callEnvC fd L (C.N.fa f)) nm g.body body)
  (i:aK C I π H s) (r:bx C I π vals vs) (k:A7 C.T (aG C.T d) g vs H K):
  codeAny (model C.prog C.w) A (.call (.ref (C.N.fa f)) ⟨vals,[]⟩) (okR C I π s K) s:=by
 obtain⟨⟨h1,h2⟩,k⟩:=k;obtain⟨o,ho,hd⟩:=ok.at_;have X:=i.In;refine codeAny_call_function (by have:=rm.depth;omega) (X _ _ ho) hd ok.co ok.gen ok.body (codeRec_of X ok.code) ?_;refine ok.bind vals s X (by rw [r.length];exact h1) (by rw [r.length];exact h2) _ _ _ _ ?_;rw [ok.clo,ok.glob,ok.bltn];refine wpAny_newFunctionEnv_cells ok.kind ?_ λenv he s1 x=>?_
 ·intro y hy;have hy':y.1∈nm.take g.np:=(List.of_mem_zip (show(y.1,y.2)∈_ from hy)).1;rcases ok.pars _ hy' with h|h
  ·exact .inl h
  ·exact .inr ⟨h,ds (.inl (mem_of_lookup h))⟩
 ·have he':env=callEnvC fd s.heap.objs.size (C.N.fa f):=by rw [he];unfold callEnvC;rw [ok.glob,ok.bltn]
  subst he';obtain⟨e1,i1,L1⟩:=vQ ok i r h1 h2 x;refine⟨cok.lim _ i1.In,codeAny_func ?_⟩;refine wpAny_mono (bok s.heap.objs.size I π H s1 _ _ L1 i1 k) (λfl s' h=>?_) λ_ _ h=>h.elim;obtain⟨I',π',H',ρ',fl',e2,i2,L2,fr,k'⟩:=h;have own:∀a∈(callEnvC fd s.heap.objs.size (C.N.fa f)).locals::(callEnvC fd s.heap.objs.size (C.N.fa f)).cells.map (·.2),s.heap.get? a=none\/a∈([]:List Addr):=λa ha=>by
   refine .inl ?_;have:s.heap.objs.size<=a:=by
    rcases List.mem_cons.mp ha with rfl|ha
    ·exact Nat.le_refl _
    ·obtain⟨⟨y,c⟩,hm,rfl⟩:=List.mem_map.mp ha;exact Nat.le_of_lt (x.above y c hm)
   cases q:s.heap.get? a with
   |none=>rfl
   |some o=>exact absurd (Heap.lt_size q) (Nat.not_lt.mpr this)
  have e:=e1.soft e2 own;show okR C I π s K (.ok (.ret _)) s'
  cases fr with
  |next=>exact lD i e i2 .none k'
  |brk=>exact k'.elim
  |cont=>exact k'.elim
  |ret rv=>exact lD i e i2 rv k'
end
section
variable {C:Cx}{I I':Im}{π π':Pi}{H:Hp}{s s':Shared}{A:Around}{env:Env}{d:Nat}
theorem dF.under{C:Addr}{af:List Value}(h:dF A (d+1)):dF (A.under (.builtin "type.__call__" ⟨.ref C::af,[]⟩)) d:=by
 have w:(Code.builtin "type.__call__" ⟨.ref C::af,[]⟩).weight<=1:=by
  have:(Code.builtin "type.__call__" ⟨.ref C::af,[]⟩).weight=1:=by kernel_rfl
  omega
 have u:(Code.builtin "type.__call__" ⟨.ref C::af,[]⟩).cUnits<=10:=by
  have:(Code.builtin "type.__call__" ⟨.ref C::af,[]⟩).cUnits=1:=by kernel_rfl
  omega
 refine⟨?_,?_,h.handled⟩
 ·have:=h.depth;show A.depth+_+10*d+40<_;omega
 ·have:=h.units;show A.units+_+100*d+400<_;omega
theorem oL{c:Nat}{g:Cl}(ok:xx C c g):cR C.T C.N c [] (List.replicate g.nf none):=by
 refine⟨λf k h=>⟨none,?_,rfl⟩,λe h=>(nomatch h),Nat.zero_le _⟩;rw [List.getElem?_replicate,if_pos (ok.slots f k h)]
theorem vR{c:Nat}{g:Cl}{vs:List V}{K:V->Hp->Prop}(ok:xx C c g)(cok:fP C d)(rm:dF A (d+1))
  (i:aK C I π H s) (r:bx C I π vals vs) (k:HM (aG C.T d) g c vs H K):
  codeAny (model C.prog C.w) A (.call (.ref (C.N.ca c)) ⟨vals,[]⟩) (okR C I π s K) s:=by
 obtain⟨hh,gg,dd,t,os⟩:=s;have X:=i.In;refine make_core (makes_of X ok.mks) (looks_findIn X ok.init) (λself=>bind_fn X self ok.fn) (.inl rfl) ?_;obtain⟨e1,i1,f1⟩:=i.push (t:=t) emptyDict rfl;obtain⟨e2,i2,f2⟩:=i1.push (t:=t) (instObj (C.N.ca c) hh.objs.size) rfl;have hx:((hh.push emptyDict).push (instObj (C.N.ca c) hh.objs.size)).get? (hh.objs.size+1)=some (instObj (C.N.ca c) hh.objs.size):=by
  have:=ce (h:=hh.push emptyDict) (o:=instObj (C.N.ca c) hh.objs.size) rfl
  rwa [Heap.size_push]at this
 have hd:((hh.push emptyDict).push (instObj (C.N.ca c) hh.objs.size)).get? hh.objs.size=some (pS [] 0):=Heap.get?_push_of_some _ (ce rfl);have n1:hh.get? (hh.objs.size+1)=none:=by
  cases q:hh.get? (hh.objs.size+1)with
  |none=>rfl
  |some o=>exact absurd (Heap.lt_size q) (Nat.not_lt.mpr (Nat.le_succ _))
 have e3:=e1.trans e2;obtain⟨e4,i4,h4⟩:=e3.adopt i2 (a:=hh.objs.size+1) n1 hx (i.fresh n1);have fd:bO (λb=>if b=hh.objs.size+1 then some (instObj (C.N.ca c) hh.objs.size)else I b) π hh.objs.size:=by
  refine⟨?_,(i.fresh (aX _)).2⟩;show(if hh.objs.size=hh.objs.size+1 then _ else I hh.objs.size)=none;rw [if_neg (Nat.ne_of_lt (Nat.lt_succ_self _))];exact(i.fresh (aX _)).1
 obtain⟨e5,i5⟩:=e4.adoptM (p:=(hh.objs.size+1,hh.objs.size)) (co:=.inst c (List.replicate g.nf none)) i4 (aX _) ⟨_,hd⟩ fd
  ⟨h4,[],0,List.replicate g.nf none,hd,oL ok,by simp,by rw [List.length_replicate];exact ok.few,λk=>by
   rw [List.getElem?_replicate,List.getElem?_replicate];by_cases q:k<g.nf
   ·rw [if_pos q,if_pos q];trivial
   ·rw [if_neg q,if_neg q];trivial⟩
 have hadr:vO C g.init=C.N.fa g.init:=by
  unfold vO;obtain⟨x,hx⟩:=Option.isSome_iff_exists.mp ok.isF;rw [hx]
 have rr:bx C (λb=>if b=hh.objs.size+1 then some (instObj (C.N.ca c) hh.objs.size)else I b) (π++[(hh.objs.size+1,hh.objs.size)]) (.ref (hh.objs.size+1)::vals) (.ref H.length::vs):=
  .cons (.ref (d:=hh.objs.size) (by rw [List.getElem?_append_right (Nat.le_of_eq i.len),i.len];simp)) (e5.rvs r)
 have:=cok g.init (.ref H.length::vs) _ _ _ _ _ (.ref (hh.objs.size+1)::vals) _ (rm.under (C:=C.N.ca c) (af:=vals)) k i5 rr;rw [hadr]at this;refine codeAny_mono this λq s' h=>?_;rcases q with ee|(v|_|_|_)<;>first|exact h.elim|skip
 obtain⟨I',π',x,H',e6,i6,rv,kk⟩:=h
 cases rv with
 |none=>
  refine⟨rfl,?_⟩;have e7:=e5.trans e6;refine lD i e7 i6 (.ref (d:=hh.objs.size) ?_) kk;obtain⟨q,rfl,-⟩:=e6.pre;rw [List.getElem?_append_left (by rw [List.length_append,i.len];simp),List.getElem?_append_right (Nat.le_of_eq i.len),i.len];simp
 |_=>exact kk.elim
end
theorem bJ{i:Nat}{v:V}:bE (ρ.set i (some v)) j=if i=j/\i<ρ.length then some v else bE ρ j:=by
 unfold bE;by_cases h:i=j
 ·subst h;by_cases hl:i<ρ.length
  ·rw [List.getElem?_set_self hl,if_pos ⟨rfl,hl⟩]
  ·rw [if_neg (λh=>hl h.2),List.set_eq_of_length_le (Nat.not_lt.mp hl)]
 ·rw [List.getElem?_set_ne h,if_neg (λq=>h q.1)]
theorem vS{l:List (Str×Addr)}(pw:l.Pairwise λx y=>x.2≠y.2){a b:Str×Addr}(ha:a∈l)(hb:b∈l)(e:a.2=b.2):a=b:=by
 obtain⟨p,hp,ep⟩:=List.getElem_of_mem ha;obtain⟨q,hq,eq⟩:=List.getElem_of_mem hb;rcases Nat.lt_trichotomy p q with h|h|h
 ·have:=List.pairwise_iff_getElem.mp pw p q hp hq h;rw [ep,eq]at this;exact absurd e this
 ·subst h;rw [ep]at eq;exact eq
 ·have:=List.pairwise_iff_getElem.mp pw q p hq hp h;rw [ep,eq]at this;exact absurd e.symm this
section
variable {C:Cx}{I I':Im}{π π':Pi}{H:Hp}{s s':Shared}{A:Around}{env:Env}{d:Nat}{nm:List Str}{ρ ρ':aE}{sc:Scope}
abbrev bT(env:Env):List Addr:=env.locals::env.cells.map (·.2)
theorem vT(nd:nm.Nodup){i:Nat}{x:Str}(h1:nm[i]?=some x)(h2:nm[j]?=some x):i=j:=
 (List.getElem?_inj (List.getElem?_eq_some_iff.mp h1).1 nd).mp (h1.trans h2.symm)
theorem tj{i:Nat}{x:Str}{v:V}{Q:Unit->Shared->Prop}(nd:nm.Nodup)(L:LR C env nm I π ρ s)(S:eE env sc)(i0:aK C I π H s)(hx:nm[i]?=some x)(hl:xw sc x=true)(hf:env.kindOf x≠some .free)(r:RV C I π u v)(pl:env.locals∈P)(pc:env.kindOf x=some .cell->∀c∈env.cells.map (·.2),c∈P)
  (q:∀s',bz P I π s I π s'->aK C I π H s'->LR C env nm I π (ρ.set i (some v)) s'->Q () s'):Wa C A (storeName env x u) Q aH s:=by
 have hs:=S x;have hown:=L.own;have cellCase:env.kindOf x=some .cell->Wa C A (storeName env x u) Q aH s:=by
  intro hk;obtain⟨c,cv,h1,h2,h3⟩:=L.cells i x hx (.inl hk);have hcm:c∈env.cells.map (·.2):=List.mem_map_of_mem (f:=λp:Str×Addr=>p.2) (mem_of_lookup h1);refine wpAny_storeName_cell L.kind hk h1 h2 λh' hc hsb=>?_;obtain⟨o',ho',hd'⟩:=id hc;have hP:∀a∈[c],bO I π a/\∀o,s.heap.get? a=some o->∃o',h'.get? a=some o':=λa ha=>by
   rw [List.mem_singleton.mp ha];exact⟨(hown c (.tail _ hcm)).2,λ_ _=>⟨o',ho'⟩⟩
  obtain⟨e1,i1⟩:=i0.grow (t:=s.toks) (h':=h') [c] hP (λb o h hb=>hsb.extBut b o (λe=>hb (by rw [e];exact .head _)) h);refine q _ (e1.weak λa ha=>by rw [List.mem_singleton.mp ha];exact pc hk _ hcm) i1 ?_;obtain⟨m,hn,hm⟩:=L.ns;have hLc:env.locals≠c:=λe=>L.apart.1 (e▸hcm);refine⟨L.kind,L.glob,L.bltn,⟨m,hn.at' λo h=>hsb.extBut _ o hLc h,λj y w hy hw hk'=>?_⟩,λj y hy hk'=>?_,λa ha=>⟨?_,(hown a ha).2⟩,L.apart⟩
  ·rw [bJ]at hw;by_cases e:i=j/\i<ρ.length
   ·obtain⟨rfl,-⟩:=e;rw [hx]at hy;cases hy;rw [hk]at hk';cases hk'
   ·rw [if_neg e]at hw;exact hm j y w hy hw hk'
  ·obtain⟨c',cv',g1,g2,g3⟩:=L.cells j y hy hk';by_cases e:x=y
   ·subst e;rw [h1]at g1;cases g1;refine⟨c,some u,h1,hc,λw hw=>?_⟩;have:i=j:=vT nd hx hy;subst this;rw [bJ]at hw;by_cases e2:i=i/\i<ρ.length
    ·rw [if_pos e2]at hw;cases hw;exact⟨u,rfl,r⟩
    ·rw [if_neg e2]at hw;exfalso;apply e2;refine⟨rfl,?_⟩;unfold bE at hw;by_cases hlt:i<ρ.length
     ·exact hlt
     ·rw [List.getElem?_eq_none (Nat.not_lt.mp hlt)]at hw;cases hw
   ·have hne:c'≠c:=by
     intro e3;subst e3;have:=vS L.apart.2 (mem_of_lookup h1) (mem_of_lookup g1) rfl;exact e (by cases this;rfl)
    obtain⟨o2,ho2,hd2⟩:=g2;refine⟨c',cv',g1,⟨o2,hsb.extBut _ _ hne ho2,hd2⟩,λw hw=>?_⟩;rw [bJ]at hw;by_cases e2:i=j/\i<ρ.length
    ·obtain⟨rfl,-⟩:=e2;rw [hx]at hy;cases hy;exact absurd rfl e
    ·rw [if_neg e2]at hw;exact g3 w hw
  ·obtain⟨o,ho⟩:=(hown a ha).1;by_cases e:a=c
   ·exact⟨o',by rw [e];exact ho'⟩
   ·exact⟨o,hsb.extBut _ _ e ho⟩
 have locCase:env.kindOf x=some .local->Wa C A (storeName env x u) Q aH s:=by
  intro hk;obtain⟨m,hn,hm⟩:=L.ns;refine wpAny_storeName_local hk hn (λh' hn' hsb=>?_) (by rw [L.kind];rfl);obtain⟨o',es',ep',ho',-⟩:=id hn';have hP:∀a∈[env.locals],bO I π a/\∀o,s.heap.get? a=some o->∃o',h'.get? a=some o':=λa ha=>by
   rw [List.mem_singleton.mp ha];exact⟨(hown _ (.head _)).2,λ_ _=>⟨o',ho'⟩⟩
  obtain⟨e1,i1⟩:=i0.grow (t:=s.toks+1) (h':=h') [env.locals] hP (λb o h hb=>hsb.extBut b o (λe=>hb (by rw [e];exact .head _)) h);refine q _ (e1.weak λa ha=>by rw [List.mem_singleton.mp ha];exact pl) i1 ?_;refine⟨L.kind,L.glob,L.bltn,⟨_,hn',λj y w hy hw hk'=>?_⟩,λj y hy hk'=>?_,λa ha=>⟨?_,(hown a ha).2⟩,L.apart⟩
  ·rw [bJ]at hw;by_cases e:i=j/\i<ρ.length
   ·obtain⟨rfl,hlt⟩:=e;rw [hx]at hy;cases hy;rw [if_pos ⟨rfl,hlt⟩]at hw;cases hw;exact⟨u,if_pos rfl,r⟩
   ·rw [if_neg e]at hw;have hne:¬y=x:=by
     intro e2;subst e2;have:i=j:=vT nd hx hy;subst this;apply e;refine⟨rfl,?_⟩;unfold bE at hw;by_cases hlt:i<ρ.length
     ·exact hlt
     ·rw [List.getElem?_eq_none (Nat.not_lt.mp hlt)]at hw;cases hw
    obtain⟨u',h1,h2⟩:=hm j y w hy hw hk';exact⟨u',by rw [if_neg hne];exact h1,h2⟩
  ·obtain⟨c',cv',g1,⟨o2,ho2,hd2⟩,g3⟩:=L.cells j y hy hk';have hne:c'≠env.locals:=λe=>L.apart.1 (e▸List.mem_map_of_mem (f:=λp:Str×Addr=>p.2) (mem_of_lookup g1));refine⟨c',cv',g1,⟨o2,hsb.extBut _ _ hne ho2,hd2⟩,λw hw=>?_⟩;rw [bJ]at hw;by_cases e:i=j/\i<ρ.length
   ·obtain⟨rfl,-⟩:=e;rw [hx]at hy;cases hy;rcases hk' with h|h<;>rw [hk]at h<;>cases h
   ·rw [if_neg e]at hw;exact g3 w hw
  ·obtain⟨o,ho⟩:=(hown a ha).1;by_cases e:a=env.locals
   ·exact⟨o',by rw [e];exact ho'⟩
   ·exact⟨o,hsb.extBut _ _ e ho⟩
 simp only [xw,Bool.and_eq_true,Bool.not_eq_true']at hl
 cases hk:sc.names.lookup x with
 |none=>rw [hk]at hl;simp at hl
 |some kd=>
  rw [hk]at hs hl
  cases kd with
  | «local» =>exact locCase hs
  |cell=>exact hs.elim cellCase λh=>absurd h hf
  |free=>exact hs.elim cellCase λh=>absurd h hf
  |globalExplicit=>simp at hl
  |globalImplicit=>simp at hl
end
def eh(ρ:aE)(l:List (Nat×V)):aE:=l.foldl (λρ p=>ρ.set p.1 (some p.2)) ρ
theorem nu:∀{is:List Nat} {vs:List V} {ρ ρ':aE},vD ρ is vs=some ρ'->is.length=vs.length/\ρ'=eh ρ (is.zip vs)
 | [],[],_,_,h=>⟨rfl,(Option.some.inj h).symm⟩
 | [],_::_,_,_,h=>by cases h
 |_::_,[],_,_,h=>by cases h
 |i::is,v::vs,ρ,ρ',h=>by
  obtain⟨h1,h2⟩:=nu (is:=is) (vs:=vs) h;exact⟨by simp [h1],h2⟩
theorem p8:∀{l:List (Nat×V)} {ρ:aE},(eh ρ l).length=ρ.length
 | [],_=>rfl
 |p::l,ρ=>by
  show(eh (ρ.set p.1 (some p.2)) l).length=_;rw [p8,List.length_set]
theorem jP:∀{l:List (Nat×V)} {ρ:aE} {j:Nat},(l.map (·.1)).Nodup->bE (eh ρ l) j=(if j<ρ.length then(match l.lookup j with|some v=>some v|none=>bE ρ j)else bE ρ j)
 | [],ρ,j,_=>by show bE ρ j=_;split<;>rfl
 |(i,v)::l,ρ,j,nd=>by
  rw [List.map_cons,List.nodup_cons]at nd;show bE (eh (ρ.set i (some v)) l) j=_;rw [jP nd.2,List.length_set,bJ,List.lookup_cons];by_cases hj:j<ρ.length
  ·rw [if_pos hj,if_pos hj];by_cases e:i=j
   ·subst e;have:l.lookup i=none:=by
     rw [List.lookup_eq_none_iff];intro p hp;have:i≠p.1:=λe=>nd.1 (by show i∈_;rw [e];exact List.mem_map_of_mem (f:=λp:Nat×V=>p.1) hp);simpa using this
    rw [this,if_pos ⟨rfl,hj⟩];simp
   ·have:(j==i)=false:=by simpa usingλq=>e q.symm
    rw [this,if_neg (λq=>e q.1)]
  ·rw [if_neg hj,if_neg hj,if_neg (λq:i=j/\i<ρ.length=>hj (q.1▸q.2))]
theorem p9{l m:List (Nat×V)}(hp:l.Perm m)(nd:(l.map (·.1)).Nodup)(j:Nat):l.lookup j=m.lookup j:=by
 have mem:∀{l:List (Nat×V)} {x:Nat} {c:V},(l.map (·.1)).Nodup->(x,c)∈l->l.lookup x=some c:=by
  intro l;induction l with
  |nil=>intro x c _ h;cases h
  |cons p r ih=>
   obtain⟨y,d⟩:=p;intro x c nd h;rw [List.map_cons,List.nodup_cons]at nd;rcases List.mem_cons.mp h with e|h
   ·cases e;simp
   ·have:x≠y:=λe=>nd.1 (by show y∈_;rw [←e];exact List.mem_map_of_mem (f:=λp:Nat×V=>p.1) h);rw [List.lookup_cons,show(x==y)=false by simpa using this];exact ih nd.2 h
 have out:∀{l:List (Nat×V)} {x:Nat} {c:V},l.lookup x=some c->(x,c)∈l:=by
  intro l;induction l with
  |nil=>intro x c h;cases h
  |cons p r ih=>
   obtain⟨y,d⟩:=p;intro x c h;rw [List.lookup_cons]at h;split at h
   ·rename_i e;cases h;rw [eq_of_beq e];exact .head _
   ·exact .tail _ (ih h)
 have ndm:(m.map (·.1)).Nodup:=(hp.map _).nodup_iff.mp nd
 cases e:l.lookup j with
 |some v=>exact(mem ndm (hp.mem_iff.mp (out e))).symm
 |none=>
  cases e2:m.lookup j with
  |none=>rfl
  |some v=>rw [mem nd (hp.mem_iff.mpr (out e2))]at e;cases e
theorem tm{α β:Type}:∀{l:List α} {m:List β},l.length=m.length->l.reverse.zip m.reverse=(l.zip m).reverse
 | [],[],_=>rfl
 | [],_::_,h=>by simp at h
 |_::_,[],h=>by simp at h
 |a::l,b::m,h=>by
  have h':l.length=m.length:=by simpa using h
  rw [List.reverse_cons,List.reverse_cons,List.zip_append (by simp [h']),tm h'];simp
theorem bx.reverse{I:Im}{vs:List V}(r:bx C I π us vs):bx C I π us.reverse vs.reverse:=by
 induction us generalizing vs with
 |nil=>cases r;exact .nil
 |cons u us ih=>cases r with|cons ru r=>simp only [List.reverse_cons];exact(ih r).append (.cons ru .nil)
section
variable {C:Cx}{I I':Im}{π π':Pi}{H:Hp}{s s':Shared}{A:Around}{env:Env}{d:Nat}{nm:List Str}{ρ ρ':aE}{sc:Scope}{b:Bool}{P:List Addr}
theorem LR.congr(L:LR C env nm I π ρ s)(h:∀j,bE ρ' j=bE ρ j):LR C env nm I π ρ' s:=
 ⟨L.kind,L.glob,L.bltn,let⟨m,a,b⟩:=L.ns;⟨m,a,λj y w h1 h2 h3=>b j y w h1 (by rw [←h j];exact h2) h3⟩,
  λj y h1 h2=>let⟨c,cv,a,b,e⟩:=L.cells j y h1 h2;⟨c,cv,a,b,λv hv=>e v (by rw [←h j];exact hv)⟩,L.own,L.apart⟩
def db(sc:Scope)(nm:List Str)(b:Bool)(i:Nat)(x:Str):Bool:=nm[i]?==some x&&xw sc x&&(!b||sc.names.lookup x==some .local)
def dt(sc:Scope)(nm:List Str)(b:Bool):List Nat->List Xp->Bool
 | [],[]=>true
 |i::is,.Name x _::es=>db sc nm b i x&&dt sc nm b is es
 |_,_=>false
structure cJ(env:Env)(sc:Scope)(nm:List Str)(b:Bool)(P:List Addr):Prop where
 sc:eE env sc
 free:∀x,env.kindOf x≠some .free
 nd:nm.Nodup
 ac:env.locals∈P
 cell:b=false->∀c∈env.cells.map (·.2),c∈P
theorem hO{i:Nat}{x:Str}{v:V}{Q:Unit->Shared->Prop}(eo:cJ env sc nm b P)(L:LR C env nm I π ρ s)(i0:aK C I π H s)(hx:db sc nm b i x=true)(r:RV C I π u v)
  (q:∀s',bz P I π s I π s'->aK C I π H s'->LR C env nm I π (ρ.set i (some v)) s'->Q () s'):Wa C A (bindName env x u) Q aH s:=by
 rw [db,Bool.and_eq_true,Bool.and_eq_true,beq_iff_eq]at hx;refine wpAny_bindName (tj eo.nd L eo.sc i0 hx.1.1 hx.1.2 (eo.free x) r eo.ac (λhk=>?_) q)
 cases b with
 |false=>exact eo.cell rfl
 |true=>
  have h2:=hx.2;have hs:=eo.sc x;simp at h2;rw [h2]at hs;rw [hk]at hs
  cases hs
theorem gG{i:Nat}{x:Str}{v:V}{Q:Unit->Shared->Prop}(eo:cJ env sc nm b P)(L:LR C env nm I π ρ s)(i0:aK C I π H s)(hx:db sc nm b i x=true)(r:RV C I π u v)
  (q:∀s',bz P I π s I π s'->aK C I π H s'->LR C env nm I π (ρ.set i (some v)) s'->Q () s'):Wa C A (assign (.Name x p) env u) Q aH s:=by
 rw [PySem.assign_Name];exact wpAny_bind (wpAny_standAt (hO eo L i0 hx r q))
theorem uj(eo:cJ env sc nm b P):∀(ts:List (Nat×Str)) (us:List Value) (vs:List V) (ρ:aE) (s:Shared) (Q:Unit->Shared->Prop) (f:Str->Value->Sem Unit),
  (∀x u,(f x u=bindName env x u)\/(∃p,f x u=assign (.Name x p) env u))->(∀p∈ts,db sc nm b p.1 p.2=true)->bx C I π us vs->ts.length=us.length->LR C env nm I π ρ s->aK C I π H s->
  (∀s',bz P I π s I π s'->aK C I π H s'->LR C env nm I π (eh ρ ((ts.map (·.1)).zip vs)) s'->Q () s')->Wa C A (assignInOrder (ts.map λp=>f p.2) us) Q aH s:=by
 intro ts;induction ts with
 |nil=>intro us vs ρ s Q f _ _ r hl L i0 q;cases us with
  |nil=>cases r;exact wpAny_assignInOrder_none (q s .refl i0 L)
  |cons=>simp at hl
 |cons t ts ih=>
  intro us vs ρ s Q f hf hok r hl L i0 q
  cases us with
  |nil=>simp at hl
  |cons u us=>
   cases r with
   | @cons _ _ x xs ru r=>
    refine wpAny_assignInOrder_more ?_;have hk:=hok t (.head _);have fin:∀s1,bz P I π s I π s1->aK C I π H s1->LR C env nm I π (ρ.set t.1 (some x)) s1->Wa C A (assignInOrder (ts.map λp=>f p.2) us) Q aH s1:=λs1 e1 i1 L1=>
     ih us xs _ s1 Q f hf (λp hp=>hok p (.tail _ hp)) r (by simpa using hl) L1 i1 λs' e2 i2 L2=>q s' (e1.trans e2) i2 L2
    rcases hf t.2 u with h|⟨p,h⟩
    ·show wpAny _ _ (f t.2 u) _ _ _;rw [h];exact hO eo L i0 hk ru fin
    ·show wpAny _ _ (f t.2 u) _ _ _;rw [h];exact gG eo L i0 hk ru fin
theorem fh:∀{is:List Nat} {es:List Xp},dt sc nm b is es=true->∃ts:List (Nat×Str×Pos),ts.map (·.1)=is/\es=ts.map (λt=>.Name t.2.1 t.2.2)/\∀t∈ts,db sc nm b t.1 t.2.1=true
 | [],[],_=>⟨[],rfl,rfl,λ_ h=>nomatch h⟩
 | [],_::_,h=>by cases h
 |i::is,[],h=>by cases h
 |i::is,e::es,h=>by
  cases e with
  |Name x p=>
   have h':(db sc nm b i x&&dt sc nm b is es)=true:=h;rw [Bool.and_eq_true]at h';obtain⟨ts,h1,h2,h3⟩:=fh h'.2;refine⟨(i,x,p)::ts,by simp [h1],by simp [h2],λt ht=>?_⟩;rcases List.mem_cons.mp ht with rfl|ht
   ·exact h'.1
   ·exact h3 t ht
  |_=>cases h
theorem cF:∀(ts:List (Nat×Str×Pos)),assignEach (ts.map (λt=>PySem.Expr.Name t.2.1 t.2.2)) env=ts.map λt=>(false,assign (.Name t.2.1 t.2.2) env)
 | []=>rfl
 |t::ts=>by
  show(false,assign (.Name t.2.1 t.2.2) env)::assignEach (ts.map _) env=_;rw [cF ts];rfl
theorem uk(eo:cJ env sc nm b P):∀(ts:List (Nat×Str×Pos)) (us:List Value) (vs:List V) (ρ:aE) (s:Shared) (Q:Unit->Shared->Prop),
  (∀p∈ts,db sc nm b p.1 p.2.1=true)->bx C I π us vs->ts.length=us.length->LR C env nm I π ρ s->aK C I π H s->
  (∀s',bz P I π s I π s'->aK C I π H s'->LR C env nm I π (eh ρ ((ts.map (·.1)).zip vs)) s'->Q () s')->Wa C A (assignInOrder (ts.map λp=>assign (.Name p.2.1 p.2.2) env) us) Q aH s:=by
 intro ts;induction ts with
 |nil=>intro us vs ρ s Q _ r hl L i0 q;cases us with
  |nil=>cases r;exact wpAny_assignInOrder_none (q s .refl i0 L)
  |cons=>simp at hl
 |cons t ts ih=>
  intro us vs ρ s Q hok r hl L i0 q
  cases us with
  |nil=>simp at hl
  |cons u us=>
   cases r with
   | @cons _ _ x xs ru r=>
    refine wpAny_assignInOrder_more (gG eo L i0 (hok t (.head _)) ru λs1 e1 i1 L1=>?_);exact ih us xs _ s1 Q (λp hp=>hok p (.tail _ hp)) r (by simpa using hl) L1 i1 λs' e2 i2 L2=>q s' (e1.trans e2) i2 L2
theorem kq(i:aK C I π H s)(he:Heap.ExtBut s.heap.objs.size s.heap h'):bz [] I π s I π {s with heap:=h'}/\aK C I π H {s with heap:=h'}:=
 i.grow (t:=s.toks) (h':=h') [] (λ_ h=>(nomatch h)) λb o h _=>he b o (λe=>absurd (Heap.lt_size h) (by rw [e];exact Nat.lt_irrefl _)) h
theorem oM{es:List Xp}{vs:List V}{Q:Unit->Shared->Prop}(hA:A.handled=none)(eo:cJ env sc nm b P)(L:LR C env nm I π ρ s)(i0:aK C I π H s)
  (hx:dt sc nm b is es=true) (ht:IsTup s.heap a us.toArray) (r:bx C I π us vs) (hl:is.length=vs.length)
  (q:∀s',bz P I π s I π s'->aK C I π H s'->LR C env nm I π (eh ρ (is.zip vs)) s'->Q () s'):Wa C A (assign (.Tuple es k p) env (.ref a)) Q aH s:=by
 obtain⟨ts,rfl,rfl,hok⟩:=fh hx;have hts:ts.length=us.length:=by rw [List.length_map]at hl;rw [hl,r.length]
 refine assign_Tuple_tuple hA ht (by rw [cF];simp [hts]) (by rw [cF,List.findIdx?_eq_none_iff];intro x hx;obtain⟨t,-,rfl⟩:=List.mem_map.mp hx;rfl) λh' he=>?_;obtain⟨e1,i1⟩:=kq i0 he;rw [cF,List.map_map];exact uk eo ts us vs ρ _ Q hok r hts (L.ext e1) i1 λs' e2 i2 L2=>q s' ((e1.weak λ_ h=>(nomatch h)).trans e2) i2 L2
theorem qa{es:List Xp}{names:List Str}{vs:List V}{Q:Unit->Shared->Prop}(hA:A.handled=none)(eo:cJ env sc nm b P)(L:LR C env nm I π ρ s)(i0:aK C I π H s)
  (hx:dt sc nm b is es=true) (hn:names=es.filterMap λe=>match e with|.Name x _=>some x|_=>none) (ht:IsTup s.heap a us.toArray) (r:bx C I π us vs) (hl:is.length=vs.length) (nd:is.Nodup)
  (q:∀s',bz P I π s I π s'->aK C I π H s'->LR C env nm I π (eh ρ (is.zip vs)) s'->Q () s'):
  Wa C A (unpackItems (.ref a) names.length none) (λitems s2=>Wa C A (assignInOrder (names.reverse.map λn=>bindName env n) items.reverse) Q aH s2) aH s:=by
 obtain⟨ts,rfl,rfl,hok⟩:=fh hx;have hts:ts.length=us.length:=by rw [List.length_map]at hl;rw [hl,r.length]
 have hn':names=ts.map (·.2.1):=by
  rw [hn,List.filterMap_map];clear hn hok hl hts hx nd q;induction ts with
  |nil=>rfl
  |cons t ts ih=>simp;exact ih
 have e0:names.length=us.toArray.size:=by rw [hn'];simp [hts]
 rw [e0];refine unpackItems_tuple hA ht λh' he=>?_;obtain⟨e1,i1⟩:=kq i0 he;have er:names.reverse.map (λn=>bindName env n)=(ts.reverse.map λt=>(t.1,t.2.1)).map λp:Nat×Str=>(λx u=>bindName env x u) p.2:=by
  rw [hn',←List.map_reverse,List.map_map,List.map_map];rfl
 rw [er];have rr:=r.reverse;refine uj eo (ts.reverse.map λt=>(t.1,t.2.1)) us.toArray.toList.reverse vs.reverse ρ _ Q (λx u=>bindName env x u) (λ_ _=>.inl rfl) (λp hp=>?_) (by simpa using rr) (by simp [hts]) (L.ext e1) i1 λs' e2 i2 L2=>?_
 ·obtain⟨t,ht',rfl⟩:=List.mem_map.mp hp;exact hok t (List.mem_reverse.mp ht')
 ·refine q s' ((e1.weak λ_ h=>(nomatch h)).trans e2) i2 (L2.congr λj=>?_);have hz:((ts.reverse.map λt=>(t.1,t.2.1)).map (·.1)).zip vs.reverse=((ts.map (·.1)).zip vs).reverse:=by
   rw [List.map_map,List.map_reverse];exact tm hl
  rw [hz];have ndz:(((ts.map (·.1)).zip vs).map (·.1)).Nodup:=nd.sublist (oK _ _);rw [jP ndz,jP (by rw [List.map_reverse];exact(List.Perm.nodup_iff (List.reverse_perm _)).mpr ndz),p9 (List.reverse_perm _).symm ndz]
end
section
variable {C:Cx}{I I' I₀:Im}{π π' π₀:Pi}{H:Hp}{s s' s₀:Shared}{A:Around}{env:Env}{d:Nat}{nm:List Str}{ρ ρ':aE}{sc:Scope}{P:List Addr}{b:Bool}
theorem bz.skip{own:List Addr}(e:bz P I₀ π₀ s₀ I π s)(i:aK C I π H s)(fr:∀a∈own,s₀.heap.get? a=none/\bO I π a)(k:∀b o,b∉own->s.heap.get? b=some o->h'.get? b=some o):
  bz P I₀ π₀ s₀ I π {s with heap:=h',toks:=tk}/\aK C I π H {s with heap:=h',toks:=tk}:=by
 have no:∀{b o},s₀.heap.get? b=some o->b∉own:=λh m=>by rw [(fr _ m).1]at h;cases h
 refine⟨⟨e.imm,e.pre,λb o h h1 h2=>k b o (no h) (e.stay b o h h1 h2),λb o h=>let⟨o',h'⟩:=e.has b o h;⟨o',k b o' (no h) h'⟩,e.inew⟩,
  ⟨λa o h=>k a o (λm=>by rw [(fr _ m).2.1]at h;cases h) (i.imm a o h),i.kin,i.len,λj p co hp hc=>(i.obj j p co hp hc).mono (λ_ _ h=>h) ⟨[],by simp⟩ λo ho=>k _ o (λm=>(fr _ m).2.2 (List.mem_map_of_mem (List.mem_of_getElem? hp))) ho,i.apart,λp hp=>⟨(i.sep p hp).1,let⟨o,h⟩:=(i.sep p hp).2;⟨o,k _ o (λm=>(fr _ m).2.2 (List.mem_map_of_mem hp)) h⟩⟩,i.gens,i.os⟩⟩
theorem LR.keep(L:LR C env nm I π ρ s)(k:∀a∈bT env,∀o,s.heap.get? a=some o->h'.get? a=some o):LR C env nm I π ρ {s with heap:=h',toks:=tk}:=by
 refine⟨L.kind,L.glob,L.bltn,?_,λi x hx hk=>?_,λa ha=>?_,L.apart⟩
 ·obtain⟨m,⟨o,es,ep,ho,r⟩,h⟩:=L.ns;exact⟨m,⟨o,es,ep,k _ (.head _) _ ho,r⟩,h⟩
 ·obtain⟨c,cv,h1,⟨o,ho,hd⟩,h3⟩:=L.cells i x hx hk;exact⟨c,cv,h1,⟨o,k c (.tail _ (List.mem_map_of_mem (f:=λx:Str×Addr=>x.2) (mem_of_lookup h1))) o ho,hd⟩,h3⟩
 ·obtain⟨⟨o,ho⟩,f⟩:=L.own a ha;exact⟨⟨o,k a ha o ho⟩,f⟩
theorem LR.imm'(L:LR C env nm I π ρ s)(hI:∀b o,I b=some o->I' b=some o)(hf:∀b,(∃o,s.heap.get? b=some o)->I b=none->I' b=none):LR C env nm I' π ρ s:=
 ⟨L.kind,L.glob,L.bltn,let⟨m,a,b⟩:=L.ns;⟨m,a,λj y w h1 h2 h3=>let⟨u,x,r⟩:=b j y w h1 h2 h3;⟨u,x,r.mono hI ⟨[],by simp⟩⟩⟩,
  λj y h1 h2=>let⟨c,cv,a,b,e⟩:=L.cells j y h1 h2;⟨c,cv,a,b,λv hv=>let⟨u,x,r⟩:=e v hv;⟨u,x,r.mono hI ⟨[],by simp⟩⟩⟩,
  λa ha=>⟨(L.own a ha).1,hf a (L.own a ha).1 (L.own a ha).2.1,(L.own a ha).2.2⟩,L.apart⟩
theorem tn{own:List Addr}{x:V}(e:bz P I₀ π₀ s₀ I π s)(i:aK C I π H s)(fr:∀a∈own,s₀.heap.get? a=none/\bO I π a)(k:∀b o,b∉own->s.heap.get? b=some o->h'.get? b=some o)
  (n:vI C I π own s h' v x):
  ∃I',bz P I₀ π₀ s₀ I' π {s with heap:=h',toks:=tk}/\aK C I' π H {s with heap:=h',toks:=tk}/\RV C I' π v x/\(∀a∈own,s₀.heap.get? a=none/\bO I' π a)/\(∀b o,I b=some o->I' b=some o)/\(∀b,(∃o,s.heap.get? b=some o)->I b=none->I' b=none):=by
 obtain⟨e1,i1⟩:=e.skip (tk:=tk) i fr k;rcases n with r|⟨a,u1,u2,x1,x2,rfl,hn,ho,ha,rfl,r1,r2⟩
 ·exact⟨I,e1,i1,r,fr,λ_ _ h=>h,λ_ _ h=>h⟩
 ·have fa:=i.fresh hn;obtain⟨e2,i2,h2⟩:=e1.adopt i1 (e.new hn) ha fa;have hI:∀b o,I b=some o->(if b=a then some (kR [u1,u2] 0)else I b)=some o:=λb o h=>by
   rw [if_neg]
   ·exact h
   ·rintro rfl;rw [fa.1]at h;cases h
  have rr:bx C (λb=>if b=a then some (kR [u1,u2] 0)else I b) π [u1,u2] [x1,x2]:=.cons (r1.mono hI ⟨[],by simp⟩) (.cons (r2.mono hI ⟨[],by simp⟩) .nil);refine⟨_,e2,i2,.ao h2 (by simp) rr,λb hb=>⟨(fr b hb).1,?_,(fr b hb).2.2⟩,hI,λb hb h=>?_⟩
  ·show(if b=a then _ else I b)=none;rw [if_neg (λq:b=a=>ho (q▸hb))];exact(fr b hb).2.1
  ·show(if b=a then _ else I b)=none;rw [if_neg]
   ·exact h
   ·rintro rfl
    obtain⟨o,hb⟩:=hb;rw [hn]at hb;cases hb
def tt(C:Cx)(A:Around)(env:Env)(nm:List Str)(P:List Addr)(tgt:Xp)(bd:aE->V->(aE->Prop)->Prop):Prop:=
 ∀(I:Im) (π:Pi) (H:Hp) (s:Shared) (ρ:aE) (v:Value) (x:V) (K:aE->Prop),LR C env nm I π ρ s->aK C I π H s->RV C I π v x->bd ρ x K->
  Wa C A (assign tgt env v) (λ_ s'=>∃ρ',bz P I π s I π s'/\aK C I π H s'/\LR C env nm I π ρ' s'/\K ρ') aH s
theorem xG{i:Nat}{x:Str}(eo:cJ env sc nm b P)(hx:db sc nm b i x=true):tt C A env nm P (.Name x p) λρ=>ec ρ (.one i):=
 λI π H s ρ v y K L i0 r hP=>gG eo L i0 hx r λs' e i' L'=>⟨_,e,i',L',hP⟩
theorem xH{i:Nat}{es:List Xp}(hA:A.handled=none)(eo:cJ env sc nm b P)(hx:dt sc nm b [i,j] es=true):tt C A env nm P (.Tuple es k p) λρ=>ec ρ (.two i j):=by
 intro I π H s ρ v y K L i0 r hP
 cases r with
 | @ao a vs n xs e l r=>
  match xs,hP with
  | [a,b],hP=>
   refine oM hA eo L i0 hx ⟨_,i0.imm _ _ e,rfl,_,rfl⟩ r rfl λs' e i' L'=>⟨_,e,i',L',hP⟩
 |_=>exact hP.elim
theorem qb{α:Type}{l:List α}{i:Nat}{x:α}(h:l[i]?=some x):l.drop i=x::l.drop (i+1):=by
 obtain⟨hi,e⟩:=List.getElem?_eq_some_iff.mp h;rw [List.drop_eq_getElem_cons hi,e]
theorem PS.trans{K:Fl->aE->Hp->Prop}{f:Flow}(e:bz (bT env) I₀ π₀ s₀ I π s)(h:PS C env nm I π s K f s'):PS C env nm I₀ π₀ s₀ K f s':=
 let⟨I',π',H',ρ',fl,e',r⟩:=h;⟨I',π',H',ρ',fl,e.trans e',r⟩
theorem vU{body:List Stmt}{own:List Addr}{xs:List V}{St:Nat->Im->Pi->Heap->Prop}{bd:aE->V->(aE->Prop)->Prop}{bo:aE->Hp->(Fl->aE->Hp->Prop)->Prop}{K:Fl->aE->Hp->Prop}
  (W:Wk C A tgt it own ck xs St) (ht:tt C A env nm (bT env) tgt bd)
  (hb:∀(I:Im) (π:Pi) (H:Hp) (s:Shared) (ρ:aE) (K:Fl->aE->Hp->Prop),LR C env nm I π ρ s->aK C I π H s->bo ρ H K->Wa C A (execs body env) (PS C env nm I π s K) aH s)
  (hown:∀a∈bT env,∃o,s₀.heap.get? a=some o)
  (e:bz (bT env) I₀ π₀ s₀ I π s) (i:aK C I π H s) (L:LR C env nm I π ρ s) (fr:∀a∈own,s₀.heap.get? a=none/\bO I π a) (st:St 0 I π s.heap) (k:ba bd bo ck xs ρ H K):
  codeAny (model C.prog C.w) A (.forLoop tgt it body [] env) (λr s'=>match r with|.ok f=>PS C env nm I₀ π₀ s₀ K f s'|.error _=>False) s:=by
 refine codeAny_forLoop_any (λn s'=>∃I π H ρ i,bz (bT env) I₀ π₀ s₀ I π s'/\aK C I π H s'/\LR C env nm I π ρ s'/\(∀a∈own,s₀.heap.get? a=none/\bO I π a)/\St i I π s'.heap/\i<=xs.length/\n=xs.length-i/\ba bd bo ck (xs.drop i) ρ H K)
  ?_ xs.length ⟨I,π,H,ρ,0,e,i,L,fr,st,Nat.zero_le _,rfl,k⟩
 rintro n s1 ⟨I1,π1,H1,ρ1,j,e1,i1,L1,f1,cK,hj,rfl,k1⟩
 have disj:∀{a},a∈own->a∉bT env:=λha hm=>by
  obtain⟨o,h⟩:=hown _ hm;rw [(f1 _ ha).1]at h;cases h
 by_cases hlt:j<xs.length
 ·obtain⟨x,hx⟩:∃x,xs[j]?=some x:=⟨xs[j],List.getElem?_eq_getElem hlt⟩
  rw [qb hx]at k1;obtain⟨hck,k1⟩:=k1;refine wpAny_mono (W.item (Q:=λv s2=>∃h' tk,s2={s1 with heap:=h',toks:=tk}/\(∀b o,b∉own->s1.heap.get? b=some o->h'.get? b=some o)/\vI C I1 π1 own s1 h' v x/\St (j+1) I1 π1 h') cK i1 (λa ha=>(f1 a ha).2) hck hx λv h' tk a1 a2 a3=>⟨h',tk,rfl,a1,a2,a3⟩)
   (λr s2 h=>?_) (λx s' h=>h.elim)
  obtain⟨v,rfl,h⟩:=h;refine wpAny_mono h (λ_ s3 h=>?_) (λx s' h=>h.elim);obtain⟨h',tk,rfl,hk,hv,hst⟩:=h;obtain⟨I2,e2,i2,rv,f2,hI,hf⟩:=tn (tk:=tk) e1 i1 f1 hk hv;have L2:LR C env nm I2 π1 ρ1 {s1 with heap:=h',toks:=tk}:=(L1.imm' hI hf).keep λa ha o ho=>hk a o (λm=>disj m ha) ho;refine wpAny_mono (ht I2 π1 H1 _ ρ1 v x _ L2 i2 rv k1) (λ_ s4 h=>?_) (λx s' h=>h.elim);obtain⟨ρ3,e3,i3,L3,k3⟩:=h;have f3:∀a∈own,s₀.heap.get? a=none/\bO I2 π1 a:=f2;have st3:St (j+1) I2 π1 s4.heap:=W.frame (s:={s1 with heap:=h',toks:=tk}) (W.mono hst hI) e3 λa ha=>⟨disj ha,(f2 a ha).2⟩
  refine wpAny_mono (hb I2 π1 H1 s4 ρ3 _ L3 i3 k3) (λf s5 h=>?_) (λx s' h=>h.elim);obtain⟨I5,π5,H5,ρ5,fl,e5,i5,L5,hfl,k5⟩:=h;have e6:=(e2.trans e3).trans e5;have again:ba bd bo ck (xs.drop (j+1)) ρ5 H5 K->∃m,m<xs.length-j/\∃I π H ρ i,bz (bT env) I₀ π₀ s₀ I π s5/\aK C I π H s5/\LR C env nm I π ρ s5/\(∀a∈own,s₀.heap.get? a=none/\bO I π a)/\St i I π s5.heap/\i<=xs.length/\m=xs.length-i/\ba bd bo ck (xs.drop i) ρ H K:=by
   intro kk;refine⟨xs.length-(j+1),by omega,I5,π5,H5,ρ5,j+1,e6,i5,L5,λa ha=>⟨(f3 a ha).1,?_⟩,W.frame st3 e5 λa ha=>⟨disj ha,(f3 a ha).2⟩,hlt,rfl,kk⟩;exact(eW e5 ⟨W.live st3 a ha,(f3 a ha).2⟩).2
  cases hfl with
  |next=>exact again k5
  |cont=>exact again k5
  |brk=>exact⟨I5,π5,H5,ρ5,.next,e6,i5,L5,.next,k5⟩
  |ret rv=>exact⟨I5,π5,H5,ρ5,.ret _,e6,i5,L5,.ret rv,k5⟩
 ·have hj':j=xs.length:=Nat.le_antisymm hj (Nat.not_lt.mp hlt);subst hj';rw [List.drop_length]at k1;obtain⟨hck,k1⟩:=k1;refine wpAny_mono (W.done (Q:=λs2=>∃h' tk,s2={s1 with heap:=h',toks:=tk}/\(∀b o,b∉own->s1.heap.get? b=some o->h'.get? b=some o)) cK i1 (λa ha=>(f1 a ha).2) hck λh' tk a1=>⟨h',tk,rfl,a1⟩) (λr s2 h=>?_) (λx s' h=>h.elim);obtain⟨rfl,h',tk,rfl,hk⟩:=h;obtain⟨e2,i2⟩:=e1.skip (tk:=tk) i1 f1 hk;exact wpAny_execs_nil ⟨I1,π1,H1,ρ1,.next,e2,i2,L1.keep λa ha o ho=>hk a o (λm=>disj m ha) ho,.next,k1⟩
end
theorem LR.sub{nm:List Str}{I:Im}{ρ':aE}(L:LR C env nm I π ρ s)(h:∀j v,bE ρ' j=some v->bE ρ j=some v):LR C env nm I π ρ' s:=
 ⟨L.kind,L.glob,L.bltn,let⟨m,a,b⟩:=L.ns;⟨m,a,λj y w h1 h2 h3=>b j y w h1 (h j w h2) h3⟩,
  λj y h1 h2=>let⟨c,cv,a,b,e⟩:=L.cells j y h1 h2;⟨c,cv,a,b,λv hv=>e v (h j v hv)⟩,L.own,L.apart⟩
section
variable {prog:Program}{w:World}{A:Around}{R:Result->Shared->Prop}{s:Shared}
theorem oN{target:Xp}{acc:Value}(I:Nat->Shared->Prop)
  (turn:∀n s,I n s->wpAny (model prog w) A (pyNext it) (λr s₁=>match r with
   |none=>R (.ok .next) s₁
   |some v=>wpAny (model prog w) A (letOwnedTupleGo target it v) (λ_ s₁'=>wpAny (model prog w) A (assign target env v) (λ_ s₂=>
     wpAny (model prog w) A (forIn ifs true λc r=>if r=true then do let ok←isTrue c env (PySem.eval c env);pure (ForInStep.yield ok)else pure (ForInStep.yield r)) (λok s₃=>
      if ok=true then wpAny (model prog w) A (PySem.eval elt env) (λx s₄=>
       wpAny (model prog w) A (call (.builtin "list.append") [acc,x]) (λ_ s₅=>∃m,m<n/\I m s₅) aH s₄) aH s₃
      else∃m,m<n/\I m s₃) aH s₂) aH s₁') aH s₁) aH s)
  (n:Nat) (h:I n s):
  codeAny (model prog w) A (.compLoop (.ListComp elt [⟨target,iter,ifs,0⟩] scope pos) 0 it acc env) R s:=by
 refine codeAny_loop rfl I (λn s hI=>?_) n h;show wpAny _ A ((compTurn (.ListComp elt [⟨target,iter,ifs,0⟩] scope pos) 0 it acc env).onRaise (λx=>do noteFrame x env;theTreesLotGoes x)) _ _ s;refine wpAny_noted ?_;rw [compTurn_list];refine wpAny_bind (wpAny_standAt (wpAny_bind (wpAny_mono (turn n s hI) (λr s₁ h₁=>?_) λ_ _ h'=>h'.elim)))
 cases r with
 |none=>exact wpAny_pure h₁
 |some v=>
  refine wpAny_bind (wpAny_mono h₁ (λ_ s₁' h₁'=>?_) λ_ _ h'=>h'.elim);refine wpAny_bind (wpAny_mono h₁' (λ_ s₂ h₂=>wpAny_bind (wpAny_mono h₂ (λok s₃ h₃=>?_) λ_ _ h'=>h'.elim)) λ_ _ h'=>h'.elim)
  cases ok with
  |false=>exact wpAny_pure ⟨rfl,h₃⟩
  |true=>
   exact wpAny_bind (wpAny_bind (wpAny_mono h₃ (λx s₄ h₄=>wpAny_bind (wpAny_mono h₄ (λ_ s₅ h₅=>wpAny_pure (wpAny_pure ⟨rfl,h₅⟩)) λ_ _ h'=>h'.elim)) λ_ _ h'=>h'.elim))
end
section
variable {C:Cx}{I I' I₀:Im}{π π' π₀:Pi}{H:Hp}{s s' s₀:Shared}{A:Around}{env cenv:Env}{d:Nat}{nm:List Str}{ρ ρ':aE}{sc:Scope}{P:List Addr}{b:Bool}
def ax(C:Cx)(A:Around)(env:Env)(nm:List Str)(x:Xp)(w:aE->Hp->(V->Hp->Prop)->Prop):Prop:=
 ∀(I:Im) (π:Pi) (H:Hp) (s:Shared) (ρ:aE) (K:V->Hp->Prop),LR C env nm I π ρ s->aK C I π H s->w ρ H K->Wa C A (PySem.eval x env) (PE C I π s K) aH s
def lE(C:Cx)(A:Around)(env:Env)(nm:List Str)(ifs:List Xp)(w:aE->Hp->(Bool->Hp->Prop)->Prop):Prop:=
 ∀(I:Im) (π:Pi) (H:Hp) (s:Shared) (ρ:aE) (K:Bool->Hp->Prop),LR C env nm I π ρ s->aK C I π H s->w ρ H K->
  Wa C A (forIn ifs true λc r=>if r=true then do let ok←isTrue c env (PySem.eval c env);pure (ForInStep.yield ok)else pure (ForInStep.yield r)) (PB C I π s K) aH s
theorem ul{D:Addr}{own:List Addr}{xs:List V}{St:Nat->Im->Pi->Heap->Prop}{bd:V->(aE->Prop)->Prop}{K:List V->Hp->Prop}{ρ0:aE}
  (W:Wk C A tgt it own ck xs St)
  (ht:∀(I:Im) (π:Pi) (H:Hp) (s:Shared) (v:Value) (x:V) (K:aE->Prop),LR C env nm I π ρ0 s->aK C I π H s->RV C I π v x->bd x K->
   Wa C A (assign tgt env v) (λ_ s'=>∃ρ',bz [env.locals] I π s I π s'/\aK C I π H s'/\LR C env nm I π ρ' s'/\K ρ'/\∀j v,bE ρ0 j=some v->bE ρ' j=some v) aH s)
  (he:ax C A env nm elt el) (hts:lE C A env nm ifs ts) (hz:xs.length<=10000000)
  (hloc:s₀.heap.get? env.locals=none) (hcell:∀a∈env.cells.map (·.2),∃o,s₀.heap.get? a=some o) (hD:s₀.heap.get? D=none) (hDL:D≠env.locals) (hown:D∉own/\env.locals∉own)
  (e:bz [] I₀ π₀ s₀ I π s) (i:aK C I π H s) (L:LR C env nm I π ρ0 s) (fr:∀a∈own,s₀.heap.get? a=none/\bO I π a) (st:St 0 I π s.heap)
  (hacc:s.heap.get? D=some (fM [] 0)) (hDf:bO I π D) (k:bN bd el ts ck xs [] H K):
  codeAny (model C.prog C.w) A (.compLoop (.ListComp elt [⟨tgt,iter,ifs,0⟩] scope pos) 0 it (.ref D) env)
   (λr s'=>match r with|.ok _=>∃I π H ys us n m,bz [] I₀ π₀ s₀ I π s'/\aK C I π H s'/\s'.heap.get? D=some (fM us n)/\bO I π D/\bx C I π us ys/\us.length<=10000000/\s'.heap.Ns env.locals m/\bO I π env.locals/\K ys H|.error _=>False) s:=by
 refine oN (λn s'=>∃I π H i ys us c,bz [] I₀ π₀ s₀ I π s'/\aK C I π H s'/\LR C env nm I π ρ0 s'/\(∀a∈own,s₀.heap.get? a=none/\bO I π a)/\St i I π s'.heap/\i<=xs.length/\n=xs.length-i/\
   s'.heap.get? D=some (fM us c)/\bO I π D/\bx C I π us ys/\us.length<=i/\bN bd el ts ck (xs.drop i) ys H K)
  ?_ xs.length ⟨I,π,H,0,[],[],0,e,i,L,fr,st,Nat.zero_le _,rfl,hacc,hDf,.nil,Nat.le_refl _,k⟩
 rintro n s1 ⟨I1,π1,H1,j,ys,us,c,e1,i1,L1,f1,cK,hj,rfl,hD1,hDf1,hus,hul,k1⟩
 have disj:∀{a},a∈own->a∉bT env:=λha hm=>by
  rcases List.mem_cons.mp hm with rfl|hm
  ·exact hown.2 ha
  ·obtain⟨o,h⟩:=hcell _ hm;rw [(f1 _ ha).1]at h;cases h
 have hDo:D∉bT env:=λhm=>by
  rcases List.mem_cons.mp hm with h|hm
  ·exact hDL h
  ·obtain⟨o,h⟩:=hcell _ hm;rw [hD]at h;cases h
 by_cases hlt:j<xs.length
 ·obtain⟨x,hx⟩:∃x,xs[j]?=some x:=⟨xs[j],List.getElem?_eq_getElem hlt⟩
  rw [qb hx]at k1;obtain⟨hck,k1⟩:=k1;refine wpAny_mono (W.item (Q:=λv s2=>∃h' tk,s2={s1 with heap:=h',toks:=tk}/\(∀b o,b∉own->s1.heap.get? b=some o->h'.get? b=some o)/\vI C I1 π1 own s1 h' v x/\St (j+1) I1 π1 h') cK i1 (λa ha=>(f1 a ha).2) hck hx λv h' tk a1 a2 a3=>⟨h',tk,rfl,a1,a2,a3⟩)
   (λr s2 h=>?_) (λx s' h=>h)
  obtain⟨v,rfl,h⟩:=h;refine wpAny_mono h (λ_ s3 h=>?_) (λx s' h=>h);obtain⟨h',tk,rfl,hk,hv,hst⟩:=h;obtain⟨I2,e2,i2,rv,f2,hI,hf⟩:=tn (tk:=tk) e1 i1 f1 hk hv;have L2:LR C env nm I2 π1 ρ0 {s1 with heap:=h',toks:=tk}:=(L1.imm' hI hf).keep λa ha o ho=>hk a o (λm=>disj m ha) ho;have hD2:h'.get? D=some (fM us c):=hk D _ hown.1 hD1;have hDf2:bO I2 π1 D:=⟨hf D ⟨_,hD1⟩ hDf1.1,hDf1.2⟩
  have hus2:bx C I2 π1 us ys:=hus.mono hI ⟨[],by simp⟩;refine wpAny_mono (ht I2 π1 H1 _ v x _ L2 i2 rv k1) (λ_ s4 h=>?_) (λx s' h=>h);obtain⟨ρ3,e3,i3,L3,k3,sub3⟩:=h;have st3:St (j+1) I2 π1 s4.heap:=W.frame (s:={s1 with heap:=h',toks:=tk}) (W.mono hst hI) e3 λa ha=>⟨λm=>disj ha (by rw [List.mem_singleton.mp m];exact .head _),(f2 a ha).2⟩
  have hD3:s4.heap.get? D=some (fM us c):=e3.stay D _ hD2 hDf2.2 (λm=>hDL (List.mem_singleton.mp m));have e4:bz [] I₀ π₀ s₀ I2 π1 s4:=e2.soft e3 λa ha=>.inl (by rw [List.mem_singleton.mp ha];exact hloc);refine wpAny_mono (hts I2 π1 H1 s4 ρ3 _ L3 i3 k3) (λok s5 h=>?_) (λx s' h=>h);obtain⟨I5,π5,H5,e5,i5,k5⟩:=h;have L5:=L3.ext e5;have st5:St (j+1) I5 π5 s5.heap:=W.frame st3 e5 λa ha=>⟨λm=>(nomatch m),(f2 a ha).2⟩
  have f5:∀a∈own,s₀.heap.get? a=none/\bO I5 π5 a:=λa ha=>⟨(f2 a ha).1,(eW e5 ⟨W.live st3 a ha,(f2 a ha).2⟩).2⟩
  have hD5:=e5.stay D _ hD3 hDf2.2 (λm=>(nomatch m));have hDf5:=(eW e5 ⟨⟨_,hD3⟩,hDf2⟩).2;have hus5:=e5.rvs hus2
  cases ok with
  |false=>
   show∃m,m<xs.length-j/\_;exact⟨xs.length-(j+1),by omega,I5,π5,H5,j+1,ys,us,c,e4.trans e5,i5,L5.sub sub3,f5,st5,hlt,rfl,hD5,hDf5,hus5,Nat.le_succ_of_le hul,k5.f rfl⟩
  |true=>
   show wpAny _ _ _ _ _ _;refine wpAny_mono (he I5 π5 H5 s5 ρ3 _ L5 i5 (k5.t rfl)) (λu s6 h=>?_) (λx s' h=>h);obtain⟨I6,π6,y,H6,e6,i6,r6,k6⟩:=h;have hD6:=e6.stay D _ hD5 hDf5.2 (λm=>(nomatch m));have hDf6:=(eW e6 ⟨⟨_,hD5⟩,hDf5⟩).2;have hus6:=e6.rvs hus5;have L6:=(L5.ext e6).sub sub3;have st6:=W.frame st5 e6 λa ha=>⟨λm=>(nomatch m),(f5 a ha).2⟩
   refine call_meets F.slot_list_append ⟨_,hD6,rfl⟩ F.entry_list_append (F.args_list_append_2 _ _) (list_append D us.toArray c u (by rw [List.size_toArray];exact dq (by omega))) ⟨hD6,?_⟩;have hget:=get?_update_seq (c:="list") (xs:=us.toArray) (n:=c) hD6 (λxs=>xs.push u);have hP:∀a∈[D],bO I6 π6 a/\∀o,s6.heap.get? a=some o->∃o',(s6.heap.update D (Obj.mapSeq λxs=>xs.push u)).get? a=some o':=λa ha=>by
    rw [List.mem_singleton.mp ha];exact⟨hDf6,λ_ _=>⟨_,hget⟩⟩
   obtain⟨e7,i7⟩:=i6.grow (t:=s6.toks) (h':=s6.heap.update D (Obj.mapSeq λxs=>xs.push u)) [D] hP (λb o h hb=>(Heap.get?_update_ne _ _ _ _ (λe=>hb (by rw [e];exact .head _))).trans h);refine⟨xs.length-(j+1),by omega,I6,π6,H6,j+1,ys++[y],us++[u],(if(us.toArray.push u).size==us.toArray.size then c else c+1),((e4.trans e5).trans e6).soft e7 (λa ha=>.inl (by rw [List.mem_singleton.mp ha];exact hD)),i7,
    L6.keep (tk:=s6.toks) (h':=s6.heap.update D (Obj.mapSeq λxs=>xs.push u)) (λa ha o ho=>(Heap.get?_update_ne _ _ _ _ (λq:a=D=>hDo (by rw [←q];exact ha))).trans ho),λa ha=>⟨(f5 a ha).1,(eW e6 ⟨W.live st5 a ha,(f5 a ha).2⟩).2⟩,
    W.frame st6 e7 (λa ha=>⟨λm=>hown.1 (by rw [←List.mem_singleton.mp m];exact ha),(eW e6 ⟨W.live st5 a ha,(f5 a ha).2⟩).2⟩),hlt,rfl,?_,hDf6,hus6.append (.cons r6 .nil),by rw [List.length_append];simp;omega,k6⟩
   have e8:us.toArray.push u=(us++[u]).toArray:=by simp
   show _=some (seqObj "list" (us++[u]).toArray _);rw [←e8];exact hget
 ·have hj':j=xs.length:=Nat.le_antisymm hj (Nat.not_lt.mp hlt);subst hj';rw [List.drop_length]at k1;obtain⟨hck,k1⟩:=k1;refine wpAny_mono (W.done (Q:=λs2=>∃h' tk,s2={s1 with heap:=h',toks:=tk}/\(∀b o,b∉own->s1.heap.get? b=some o->h'.get? b=some o)) cK i1 (λa ha=>(f1 a ha).2) hck λh' tk a1=>⟨h',tk,rfl,a1⟩) (λr s2 h=>?_) (λx s' h=>h);obtain⟨rfl,h',tk,rfl,hk⟩:=h;obtain⟨e2,i2⟩:=e1.skip (tk:=tk) i1 f1 hk;obtain⟨m,hm,-⟩:=(L1.keep (h':=h') (tk:=tk) λa ha o ho=>hk a o (λm=>disj m ha) ho).ns;exact⟨I1,π1,H1,ys,us,c,m,e2,i2,hk D _ hown.1 hD1,hDf1,hus,Nat.le_trans hul hz,hm,(L1.own _ (.head _)).2,k1⟩
end
theorem lF{f:Str->NameKind->NameKind}{x:Str}:∀{l:List (Str×NameKind)},(l.map λp=>(p.1,f p.1 p.2)).lookup x=(l.lookup x).map (f x)
 | []=>rfl
 |(y,k)::l=>by
  rw [List.map_cons,List.lookup_cons,List.lookup_cons]
  cases h:x==y with
  |true=>simp [eq_of_beq h]
  |false=>exact lF
theorem lG{x:Str}:(relabel scope env).names.lookup x=(scope.names.lookup x).map λk=>if(k== .free&&env.scope.kind== .function&&env.kindOf x==some .cell)then .cell else k:=by
 unfold relabel;have:=lF (f:=λn k=>if(k== .free&&env.scope.kind== .function&&env.kindOf n==some .cell)then NameKind.cell else k) (x:=x) (l:=scope.names);rw [←this]
 congr 1
 apply List.map_congr_left;rintro ⟨n,k⟩-
 simp only;split<;>rfl
structure gH(scope:Scope)(env:Env)(nm:List Str)(tis:List Nat):Prop where
 kind:scope.kind= .function
 nocell:∀x∈scope.names,x.2≠.cell
 nodup:(scope.names.map (·.1)).Nodup
 free:∀x,(x,NameKind.free)∈scope.names->x∈nm/\env.kindOf x=some .cell
 ac:∀x,scope.names.lookup x=some .local->∀i:Nat,nm[i]?=some x->i∈tis
section
variable {C:Cx}{I I' I₀:Im}{π π' π₀:Pi}{H:Hp}{s s' s₀:Shared}{A:Around}{env cenv:Env}{d:Nat}{nm:List Str}{ρ ρ':aE}{sc scope:Scope}{P:List Addr}{b:Bool}{tis:List Nat}
theorem iR(L:LR C env nm I π ρ s):∀(names:List (Str×NameKind)) (acc:List (Str×Addr)),(∀x,(x,NameKind.free)∈names->x∈nm/\env.kindOf x=some .cell)->
  (∀p∈acc,env.cells.lookup p.1=some p.2)->(names.map (·.1)).Nodup->(acc.map (·.1)).Nodup->(∀x∈names.map (·.1),x∉acc.map (·.1))->
  ∃cl,(forIn names acc λ(x:Str×NameKind) r=>(if x.2== .free then do let a←cellOf env x.1;pure (ForInStep.yield ((x.1,a)::r))else pure (ForInStep.yield r):Sem (ForInStep (List (Str×Addr)))))=pure cl/\(∀p∈cl,env.cells.lookup p.1=some p.2)/\(∀x,(x,NameKind.free)∈names->x∈cl.map (·.1))/\(∀p∈acc,p∈cl)/\(cl.map (·.1)).Nodup
 | [],acc,_,h,_,n2,_=>⟨acc,rfl,h,λ_ h=>(nomatch h),λ_ h=>h,n2⟩
 |(y,k)::r,acc,hf,h,n1,n2,n3=>by
  rw [List.map_cons,List.nodup_cons]at n1;rw [List.forIn_cons];by_cases hk:(k==NameKind.free)=true
  ·have hk':k= .free:=eq_of_beq hk;obtain⟨hm,hc⟩:=hf y (by rw [hk'];exact .head _);obtain⟨i,hi⟩:=List.getElem?_of_mem hm;obtain⟨c,cv,h1,-,-⟩:=L.cells i y hi (.inl hc);obtain⟨cl,g1,g2,g3,g4,g5⟩:=iR L r ((y,c)::acc) (λx hx=>hf x (.tail _ hx)) (λp hp=>by
    rcases List.mem_cons.mp hp with rfl|hp
    ·exact h1
    ·exact h p hp) n1.2 (by rw [List.map_cons,List.nodup_cons];exact⟨n3 y (.head _),n2⟩) (λx hx=>by
     rw [List.map_cons,List.mem_cons,not_or];exact⟨λe=>n1.1 (e▸hx),n3 x (.tail _ hx)⟩)
   refine⟨cl,?_,g2,λx hx=>?_,λp hp=>g4 p (.tail _ hp),g5⟩
   ·simp only [hk,if_true];rw [show cellOf env y=pure c by unfold cellOf;rw [h1]];exact g1
   ·rcases List.mem_cons.mp hx with e|hx
    ·cases e;exact List.mem_map_of_mem (f:=λp:Str×Addr=>p.1) (g4 (y,c) (.head _))
    ·exact g3 x hx
  ·obtain⟨cl,g1,g2,g3,g4,g5⟩:=iR L r acc (λx hx=>hf x (.tail _ hx)) h n1.2 n2 (λx hx=>n3 x (.tail _ hx));refine⟨cl,?_,g2,λx hx=>?_,g4,g5⟩
   ·simp only [hk];exact g1
   ·rcases List.mem_cons.mp hx with e|hx
    ·cases e;exact absurd rfl hk
    ·exact g3 x hx
def um:List Nat->aE->aE
 | [],ρ=>ρ
 |i::is,ρ=>um is (ρ.set i Option.none)
theorem un{i:Nat}:bE (ρ.set i Option.none) j=if i=j then Option.none else bE ρ j:=by
 unfold bE;by_cases h:i=j
 ·subst h;rw [if_pos rfl];by_cases hl:i<ρ.length
  ·rw [List.getElem?_set_self hl]
  ·rw [List.set_eq_of_length_le (Nat.not_lt.mp hl),List.getElem?_eq_none (Nat.not_lt.mp hl)]
 ·rw [List.getElem?_set_ne h,if_neg h]
theorem eH:∀{tis:List Nat} {ρ:aE} {j:Nat},bE (um tis ρ) j=if j∈tis then Option.none else bE ρ j
 | [],ρ,j=>by simp [um]
 |i::is,ρ,j=>by
  show bE (um is (ρ.set i Option.none)) j=_;rw [eH,un];by_cases h:j∈is
  ·simp [h]
  ·by_cases h2:i=j
   ·simp [h2]
   ·have:¬j=i:=λe=>h2 e.symm;simp [h,h2,this]
theorem xI{cl:List (Str×Addr)}{L':Addr}{s4:Shared}{I2:Im}{π2:Pi}(ok:gH scope env nm tis)(L:LR C env nm I2 π2 ρ s4)
  (h1:∀p∈cl,env.cells.lookup p.1=some p.2) (h2:∀x,(x,NameKind.free)∈scope.names->x∈cl.map (·.1)) (h3:cl.Pairwise λx y=>x.2≠y.2)
  (hn:s4.heap.Ns L' λ_=>none) (hf:bO I2 π2 L') (hL:∀a∈bT env,a≠L'):
  LR C (compEnvC scope cl L' env) nm I2 π2 (um tis ρ) s4/\eE (compEnvC scope cl L' env) scope/\∀x,(compEnvC scope cl L' env).kindOf x≠some .free:=by
 have kd:∀x,(compEnvC scope cl L' env).kindOf x=(scope.names.lookup x).map λk=>if(k== .free&&env.scope.kind== .function&&env.kindOf x==some .cell)then .cell else k:=λx=>lG
 have isF:(env.scope.kind==ScopeKind.function)=true:=by rw [L.kind];rfl
 have nf:∀x,(compEnvC scope cl L' env).kindOf x≠some .free:=by
  intro x hx;rw [kd]at hx
  cases h:scope.names.lookup x with
  |none=>rw [h]at hx;cases hx
  |some k=>
   rw [h]at hx;simp only [Option.map_some,Option.some.injEq]at hx;split at hx
   ·cases hx
   ·rename_i q;subst hx;apply q;rw [isF,(ok.free x (mem_of_lookup h)).2];rfl
 refine⟨⟨ok.kind,L.glob,L.bltn,⟨_,hn,λi x v hx hv hk=>?_⟩,λi x hx hk=>?_,λa ha=>?_,λm=>?_,h3⟩,λx=>?_,nf⟩
 ·have:scope.names.lookup x=some .local:=by
   rw [kd]at hk
   cases h:scope.names.lookup x with
   |none=>rw [h]at hk;cases hk
   |some k=>
    rw [h]at hk;simp only [Option.map_some,Option.some.injEq]at hk;split at hk
    ·cases hk
    ·rw [hk]
  rw [eH,if_pos (ok.ac x this i hx)]at hv
  cases hv
 ·have hc:(compEnvC scope cl L' env).kindOf x=some .cell:=by
   rcases hk with h|h
   ·exact h
   ·exact absurd h (nf x)
  have hfr:(x,NameKind.free)∈scope.names:=by
   rw [kd]at hc
   cases h:scope.names.lookup x with
   |none=>rw [h]at hc;cases hc
   |some k=>
    rw [h]at hc;simp only [Option.map_some,Option.some.injEq]at hc;split at hc
    ·rename_i q;have:k= .free:=by
      simp only [Bool.and_eq_true]at q;exact eq_of_beq q.1.1
     rw [←this];exact mem_of_lookup h
    ·subst hc;exact absurd rfl (ok.nocell _ (mem_of_lookup h))
  obtain⟨c,cv,g1,g2,g3⟩:=L.cells i x hx (.inl (ok.free x hfr).2);refine⟨c,cv,?_,g2,λv hv=>g3 v ?_⟩
  ·show cl.lookup x=some c;obtain⟨⟨y,c'⟩,hp,rfl⟩:=List.mem_map.mp (h2 x hfr);obtain⟨c2,hc2⟩:∃c2,cl.lookup y=some c2:=by
    cases q:cl.lookup y with
    |some c2=>exact⟨c2,rfl⟩
    |none=>
     rw [List.lookup_eq_none_iff]at q;have:=q _ hp;simp at this
   have:=h1 _ (mem_of_lookup hc2);simp only at this g1;rw [this]at g1
   cases g1;exact hc2
  ·rw [eH]at hv;by_cases q:i∈tis
   ·rw [if_pos q]at hv;cases hv
   ·rw [if_neg q]at hv;exact hv
 ·rcases List.mem_cons.mp ha with rfl|ha
  ·obtain⟨o,es,ep,ho,-⟩:=hn;exact⟨⟨o,ho⟩,hf⟩
  ·obtain⟨p,hp,rfl⟩:=List.mem_map.mp ha;exact L.own _ (.tail _ (List.mem_map_of_mem (f:=λx:Str×Addr=>x.2) (mem_of_lookup (h1 p hp))))
 ·obtain⟨p,hp,e⟩:=List.mem_map.mp m;exact hL _ (.tail _ (List.mem_map_of_mem (f:=λx:Str×Addr=>x.2) (mem_of_lookup (h1 p hp)))) e
 ·cases h:scope.names.lookup x with
  |none=>trivial
  |some k=>
   have:=kd x;rw [h]at this
   cases k with
   | «local» =>exact this
   |cell=>exact absurd rfl (ok.nocell _ (mem_of_lookup h))
   |free=>
    simp only [Option.map_some]at this;split at this
    ·exact .inl this
    ·exact .inr this
   |globalExplicit=>trivial
   |globalImplicit=>exact this
end
theorem mP(scope:Scope)(env:Env):closureFor scope env=((forIn scope.names ([]:List (Str×Addr)) λ(x:Str×NameKind) r=>(if x.2== .free then do let a←cellOf env x.1;pure (ForInStep.yield ((x.1,a)::r))else pure (ForInStep.yield r):Sem (ForInStep (List (Str×Addr)))))>>=λcs=>pure cs):=by
 unfold closureFor
 congr 1
section
variable {C:Cx}{I I' I₀:Im}{π π' π₀:Pi}{H:Hp}{s s' s₀:Shared}{A:Around}{env cenv:Env}{d:Nat}{nm:List Str}{ρ ρ':aE}{sc scope:Scope}{P:List Addr}{b:Bool}{tis:List Nat}
theorem rK(ok:gH scope env nm tis)(L:LR C env nm I π ρ s):∃cl,closureFor scope env=pure cl/\(∀p∈cl,env.cells.lookup p.1=some p.2)/\(∀x,(x,NameKind.free)∈scope.names->x∈cl.map (·.1))/\cl.Pairwise λx y=>x.2≠y.2:=by
 obtain⟨cl,g1,g2,g3,g4,g5⟩:=iR L scope.names [] ok.free (λ_ h=>nomatch h) ok.nodup (by simp) (λ_ _ h=>nomatch h);refine⟨cl,by rw [mP,g1];rfl,g2,g3,?_⟩;rw [List.pairwise_iff_getElem];intro p q hp hq hlt e;have h1:=g2 _ (List.getElem_mem hp);have h2:=g2 _ (List.getElem_mem hq);have:=vS L.apart.2 (mem_of_lookup h1) (mem_of_lookup h2) e;have hk:cl[p].1=cl[q].1:=congrArg (λx:Str×Addr=>x.1) this;have hp':(cl.map (·.1))[p]?=some cl[p].1:=by rw [List.getElem?_map,List.getElem?_eq_getElem hp];rfl
 have hq':(cl.map (·.1))[q]?=some cl[p].1:=by rw [List.getElem?_map,List.getElem?_eq_getElem hq,hk];rfl
 have:=(List.getElem?_inj (List.getElem?_eq_some_iff.mp hp').1 g5).mp (hp'.trans hq'.symm);omega
def HN:Xp->Option (List (Str×Pos))
 |.Name x p=>some [(x,p)]
 |.Tuple [.Name x p,.Name y q] _ _=>some [(x,p),(y,q)]
 |_=>none
def lH(sc:Scope)(nm:List Str)(b:Bool):Tg->Xp->Bool
 |.one i,.Name x _=>db sc nm b i x
 |.two i j,.Tuple es _ _=>dt sc nm b [i,j] es&& !(i==j)
 |_,_=>false
def oO:Tg->List Nat
 |.one i=>[i]
 |.two i j=>[i,j]
theorem vV(hA:A.handled=none)(eo:cJ cenv scope nm true [cenv.locals])(ht:lH scope nm true tg tgt=true)
  {v:Value} {x:V} {K:aE->Prop} (L:LR C cenv nm I π (um (oO tg) ρ) s) (i:aK C I π H s) (r:RV C I π v x) (k:ec ρ tg x K):
  Wa C A (assign tgt cenv v) (λ_ s'=>∃ρ',bz [cenv.locals] I π s I π s'/\aK C I π H s'/\LR C cenv nm I π ρ' s'/\K ρ'/\∀j v,bE (um (oO tg) ρ) j=some v->bE ρ' j=some v) aH s:=by
 cases tg with
 |one j=>
  cases tgt with
  |Name y p=>
   refine gG eo L i ht r λs' e i' L'=>⟨ρ.set j (some x),e,i',L'.congr λm=>?_,k,λm w h=>?_⟩
   ·show bE (ρ.set j (some x)) m=bE ((um [j] ρ).set j (some x)) m;rw [bJ,bJ,eH];have:(um [j] ρ).length=ρ.length:=by simp [um]
    rw [this];by_cases q:j=m/\j<ρ.length
    ·rw [if_pos q,if_pos q]
    ·rw [if_neg q,if_neg q];by_cases q2:m∈[j]
     ·rw [if_pos q2];have e:m=j:=by simpa using q2
      have hl:¬j<ρ.length:=λh=>q ⟨e.symm,h⟩;unfold bE;rw [e,List.getElem?_eq_none (Nat.not_lt.mp hl)]
     ·rw [if_neg q2]
   ·rw [eH]at h;by_cases q2:m∈[j]
    ·have h':(if m∈[j]then none else bE ρ m)=some w:=h;rw [if_pos q2]at h';cases h'
    ·have h':(if m∈[j]then none else bE ρ m)=some w:=h;rw [if_neg q2]at h';rw [bJ,if_neg (λq=>q2 (by rw [q.1];exact .head _))];exact h'
  |_=>cases ht
 |two j l=>
  cases tgt with
  |Tuple es kk p=>
   have ht':(dt scope nm true [j,l] es&& !(j==l))=true:=ht;rw [Bool.and_eq_true]at ht'
   cases r with
   | @ao a vs n xs e hl r=>
    match xs,k with
    | [y,z],k=>
     refine oM hA eo L i ht'.1 ⟨_,i.imm _ _ e,rfl,_,rfl⟩ r rfl λs' e i' L'=>⟨(ρ.set j (some y)).set l (some z),e,i',L'.congr λm=>?_,k,λm w h=>?_⟩
     ·show bE ((ρ.set j (some y)).set l (some z)) m=bE (((um [j,l] ρ).set j (some y)).set l (some z)) m;have len:(um [j,l] ρ).length=ρ.length:=by simp [um]
      rw [bJ,bJ,bJ,bJ,eH,List.length_set,List.length_set,len];by_cases q:l=m/\l<ρ.length
      ·rw [if_pos q,if_pos q]
      ·rw [if_neg q,if_neg q];by_cases q1:j=m/\j<ρ.length
       ·rw [if_pos q1,if_pos q1]
       ·rw [if_neg q1,if_neg q1];by_cases q2:m∈[j,l]
        ·rw [if_pos q2];have hm:¬m<ρ.length:=λh=>by
          simp only [List.mem_cons,List.not_mem_nil,or_false]at q2;rcases q2 with rfl|rfl
          ·exact q1 ⟨rfl,h⟩
          ·exact q ⟨rfl,h⟩
         unfold bE;rw [List.getElem?_eq_none (Nat.not_lt.mp hm)]
        ·rw [if_neg q2]
     ·have h':(if m∈[j,l]then none else bE ρ m)=some w:=by rw [←eH];exact h
      by_cases q2:m∈[j,l]
      ·rw [if_pos q2]at h';cases h'
      ·rw [if_neg q2]at h';rw [bJ,if_neg (λq=>q2 (by rw [←q.1];simp)),bJ,if_neg (λq=>q2 (by rw [←q.1];simp))];exact h'
   |_=>exact k.elim
  |_=>cases ht
theorem qc{use:Option (Value->Sem Unit)}{K:V->Hp->Prop}
  (hA:A.handled=none) (ok:gH scope env nm (oO tg)) (nd:nm.Nodup) (ht:lH scope nm true tg tgt=true) (hs:∀x,foldedSetIterable iter env x=pure x)
  (inner:∀cenv,eE cenv scope->ax C A cenv nm elt el/\lE C A cenv nm ifs ts)
  (i:aK C I π H s) (L:LR C env nm I π ρ s)
  (h:Wa C A (PySem.eval iter env) (λv s1=>Wa C A (pyIter v) (PI C A tgt I π s λxs ck H1=>bY (ec ρ tg) el ts ck xs H1 λys H2=>dE fr ys H2 K) aH s1) aH s)
  (fin:∀(I':Im) (π':Pi) (H':Hp) (s':Shared) (v:Value) (x:V) (L':Addr) (m:Str->Option Value),bz [] I π s I' π' s'->aK C I' π' H' s'->RV C I' π' v x->K x H'->s'.heap.Ns L' m->bO I' π' L'->s.heap.get? L'=none->
   compPost (model C.prog C.w) A aH use Q v L' (.ok .next) s'):
  Wa C A (comprehension (.ListComp elt [⟨tgt,iter,ifs,0⟩] scope pos) scope env (firstIterPos [⟨tgt,iter,ifs,0⟩] pos) (newList []) false (PySem.eval iter env) use) Q aH s:=by
 obtain⟨cl,g1,g2,g3,g4⟩:=rK ok L;refine wpAny_comprehension_free (use:=use) rfl hs g1 ok.kind (λx hx hl=>iQ ok.nodup (show(x.1,NameKind.local)∈_ by rw [←hl];exact hx)) (wpAny_mono h (λv s1 h1=>wpAny_mono h1 (λit s2 h2=>?_) λ_ _ x=>x) λ_ _ x=>x);obtain⟨I2,π2,H2,xs,ck,own,St,e2,i2,fr2,W,st2,hck,hz,k⟩:=h2;refine wpAny_newObj_type (wpAny_newFunctionEnv ok.nocell (λy hy=>(nomatch hy)) (λh4 hn4 hs4=>?_) ok.kind) (Nat.zero_le _);have hD0:s2.heap.get? s2.heap.objs.size=none:=aX _;have hpush:(s2.heap.push (fM [] 0)).objs.size=s2.heap.objs.size+1:=Heap.size_push ..;have hL0:s2.heap.get? (s2.heap.objs.size+1)=none:=by
  cases q:s2.heap.get? (s2.heap.objs.size+1)with
  |none=>rfl
  |some o=>exact absurd (Heap.lt_size q) (Nat.not_lt.mpr (Nat.le_succ _))
 have hLe:(s2.heap.push {cls:=.type "list",data:=.seq ([]:List Value).toArray}).objs.size=s2.heap.objs.size+1:=Heap.size_push ..;have keep:∀b o,s2.heap.get? b=some o->h4.get? b=some o:=λb o hb=>by
  have hlt:=Heap.lt_size hb;exact hs4.extBut b o (by show b≠(s2.heap.push _).objs.size;rw [hLe];exact Nat.ne_of_lt (Nat.lt_succ_of_lt hlt)) (Heap.get?_push_of_some _ (Heap.get?_push_of_some _ hb))
 have hD4:h4.get? s2.heap.objs.size=some (fM [] 0):=
  hs4.extBut _ _ (by show s2.heap.objs.size≠(s2.heap.push _).objs.size;rw [hLe];exact Nat.ne_of_lt (Nat.lt_succ_self _)) (Heap.get?_push_of_some _ (ce rfl))
 obtain⟨e4,i4⟩:=i2.grow (t:=s2.toks+([]:List (Str×Value)).length) (h':=h4) [] (λ_ h=>(nomatch h)) (λb o h _=>keep b o h);have e5:=e2.trans e4;have hn4':h4.Ns (s2.heap.objs.size+1) λ_=>none:=by
  have:=hn4;rw [show(({s2 with heap:=s2.heap.push {cls:=.type "list",data:=.seq ([]:List Value).toArray}}:Shared).heap.objs.size)=s2.heap.objs.size+1 from hLe]at this;exact this
 have nL:∀a∈bT env,a≠s2.heap.objs.size+1/\a≠s2.heap.objs.size:=λa ha=>by
  obtain⟨o,ho⟩:=((L.ext e2).own a ha).1;exact⟨λq=>(by rw [q,hL0]at ho;cases ho),λq=>(by rw [q,hD0]at ho;cases ho)⟩
 obtain⟨LC,sC,fC⟩:=xI (cl:=cl) (L':=s2.heap.objs.size+1) (s4:={s2 with heap:=h4,toks:=s2.toks+([]:List (Str×Value)).length}) ok (L.ext e5) g2 g3 g4 hn4' (i2.fresh hL0) λa ha=>(nL a ha).1;obtain⟨ex,tsk⟩:=inner (compEnvC scope cl (s2.heap.objs.size+1) env) sC;have eo:cJ (compEnvC scope cl (s2.heap.objs.size+1) env) scope nm true [(compEnvC scope cl (s2.heap.objs.size+1) env).locals]:=⟨sC,fC,nd,.head _,λh=>(nomatch h)⟩
 have ownlive:∀a∈own,∃o,s2.heap.get? a=some o:=λa ha=>W.live st2 a ha;have loop:=ul (D:=s2.heap.objs.size) (scope:=scope) (pos:=pos) (iter:=iter) (env:=compEnvC scope cl (s2.heap.objs.size+1) env) W (λI π H s v x K=>vV (ρ:=ρ) hA eo ht) ex tsk hz
  (e2.new hL0) (λa ha=>by
   obtain⟨p,hp,rfl⟩:=List.mem_map.mp ha;exact(L.own _ (.tail _ (List.mem_map_of_mem (f:=λx:Str×Addr=>x.2) (mem_of_lookup (g2 p hp))))).1)
  (e2.new hD0) (Nat.ne_of_lt (Nat.lt_succ_self _)) ⟨λm=>(by obtain⟨o,ho⟩:=ownlive _ m;rw [hD0]at ho;cases ho),λm=>(by obtain⟨o,ho⟩:=ownlive (s2.heap.objs.size+1) m;rw [hL0]at ho;cases ho)⟩
  e5 i4 LC (λa ha=>⟨(fr2 a ha).1,(fr2 a ha).2⟩) (W.frame st2 e4 λa ha=>⟨λm=>(nomatch m),(fr2 a ha).2⟩) hD4 (i2.fresh hD0) k.h
 have loop':codeAny (model C.prog C.w) A (.compLoop (.ListComp elt [⟨tgt,iter,ifs,0⟩] scope pos) 0 it (.ref s2.heap.objs.size) (compEnvC scope cl (s2.heap.objs.size+1) env)) (compPost (model C.prog C.w) A aH use Q (.ref s2.heap.objs.size) (s2.heap.objs.size+1)) {s2 with heap:=h4,toks:=s2.toks+([]:List (Str×Value)).length}:=by
  refine codeAny_mono loop λr s' hr=>?_
  cases r with
  |error x=>exact hr.elim
  |ok f=>
   obtain⟨I6,π6,H6,ys,us,n,m,e6,i6,hD6,hDf6,hus,hul,hn6,hLf6,k6⟩:=hr;obtain⟨I7,π7,x7,H7,e7,i7,r7,k7,f7⟩:=pT e6 i6 (e2.new hD0) hD6 hDf6 hus hul k6;have:=fin I7 π7 H7 s' _ x7 _ m e7 i7 r7 k7 hn6 (f7 _ (Nat.ne_of_gt (Nat.lt_succ_self _)) hLf6) (e2.new hL0)
   cases use<;>exact this
 show codeAny _ _ (.compStart (.ListComp elt [⟨tgt,iter,ifs,0⟩] scope pos) 0 it (.ref s2.heap.objs.size) _) _ _;rw [show(({s2 with heap:=s2.heap.push {cls:=.type "list",data:=.seq ([]:List Value).toArray}}:Shared).heap.objs.size)=s2.heap.objs.size+1 from hLe];exact codeAny_compStart_list loop' (wpAny_mono (W.self (I:=I2) (π:=π2) (i:=0) (W.frame st2 e4 λa ha=>⟨λm=>(nomatch m),(fr2 a ha).2⟩) loop') (λ_ _ x=>x) λ_ _ x=>x.elim)
theorem vW{K:V->Hp->Prop}
  (hA:A.handled=none) (ok:gH scope env nm (oO tg)) (nd:nm.Nodup) (ht:lH scope nm true tg tgt=true) (hs:∀x,foldedSetIterable iter env x=pure x)
  (inner:∀cenv,eE cenv scope->ax C A cenv nm elt el/\lE C A cenv nm ifs ts)
  (i:aK C I π H s) (L:LR C env nm I π ρ s)
  (h:Wa C A (PySem.eval iter env) (λv s1=>Wa C A (pyIter v) (PI C A tgt I π s λxs ck H1=>bY (ec ρ tg) el ts ck xs H1 λys H2=>dE fr ys H2 K) aH s1) aH s):
  Wa C A (PySem.eval (.ListComp elt [⟨tgt,iter,ifs,0⟩] scope pos) env) (PE C I π s K) aH s:=by
 rw [eval_ListComp];refine qc (use:=none) hA ok nd ht hs inner i L h λI' π' H' s' v x L' m e i' r k hn hf h0=>⟨m,hn,λh7 hs7=>?_⟩
 obtain⟨e8,i8⟩:=e.skip (own:=[L']) (h':=h7) (tk:=s'.toks) i' (λa ha=>by rw [List.mem_singleton.mp ha];exact⟨h0,hf⟩) (λb o hb hg=>hs7.extBut b o (λq=>hb (by rw [q];exact .head _)) hg);exact⟨I',π',x,H',e8,i8,r,k⟩
end
def dG:Xp->Bool
 |.ListComp .. =>true
 |.SetComp .. =>true
 |.DictComp .. =>true
 |_=>false
theorem jp{t:Option Xp}{l:Nat}(h:dG value=false):swapsWith value t l env=pure false:=by
 cases value<;>first|rfl|cases h
section
variable {C:Cx}{I I' I₀:Im}{π π' π₀:Pi}{H:Hp}{s s' s₀:Shared}{A:Around}{env cenv:Env}{d:Nat}{nm:List Str}{ρ ρ':aE}{sc scope:Scope}{P:List Addr}{b:Bool}{tis:List Nat}{K:Fl->aE->Hp->Prop}
theorem PS.of{H':Hp}{f:Flow}{fl:Fl}(e:bz (bT env) I π s I' π' s')(i:aK C I' π' H' s')(L:LR C env nm I' π' ρ' s')(fr:AQ C I' π' f fl)(k:K fl ρ' H'):PS C env nm I π s K f s':=⟨I',π',H',ρ',fl,e,i,L,fr,k⟩
theorem bz.any(e:bz [] I π s I' π' s'):bz P I π s I' π' s':=e.weak λ_ h=>nomatch h
theorem BF{i:Nat}{x:Str}(eo:cJ env sc nm false (bT env))(L:LR C env nm I π ρ s)(hx:db sc nm false i x=true)(hc:dG value=false)
  (h:Wa C A (PySem.eval value env) (PE C I π s λv H1=>K .next (ρ.set i (some v)) H1) aH s):Wa C A (exec (.Assign [.Name x p] value pos) env) (PS C env nm I π s K) aH s:=by
 rw [exec_Assign_Name env x p value pos (jp hc)];refine wpAny_bind (wpAny_standAt (wpAny_bind (PE.next h λI1 π1 v y H1 s1 e i1 r k=>?_)));refine wpAny_bind (wpAny_standAt (wpAny_bind (hO eo (L.ext e) i1 hx r λs2 e2 i2 L2=>?_)));exact wpAny_pure (.of (e.any.trans e2) i2 L2 .next k)
theorem zz{i:Nat}{x:Str}{cpos:Pos}
  (eo:cJ env sc nm false (bT env)) (hx:db sc nm false i x=true)
  (hA:A.handled=none) (ok:gH scope env nm (oO tg)) (ht:lH scope nm true tg tgt=true) (hs:∀x,foldedSetIterable iter env x=pure x)
  (inner:∀cenv,eE cenv scope->ax C A cenv nm elt el/\lE C A cenv nm ifs ts) (i0:aK C I π H s) (L:LR C env nm I π ρ s)
  (h:Wa C A (PySem.eval iter env) (λv s1=>Wa C A (pyIter v) (PI C A tgt I π s λxs ck H1=>bY (ec ρ tg) el ts ck xs H1 λys H2=>dE fr ys H2 λv H1=>K .next (ρ.set i (some v)) H1) aH s1) aH s):
  Wa C A (exec (.Assign [.Name x p] (.ListComp elt [⟨tgt,iter,ifs,0⟩] scope cpos) pos) env) (PS C env nm I π s K) aH s:=by
 obtain⟨bb,hb⟩:∃bb,swapsWith (.ListComp elt [⟨tgt,iter,ifs,0⟩] scope cpos) (some (.Name x p)) pos.line env=pure bb:=⟨_,rfl⟩
 cases bb with
 |false=>
  rw [exec_Assign_Name env x p _ pos hb];refine wpAny_bind (wpAny_standAt (wpAny_bind (PE.next (vW hA ok eo.nd ht hs inner i0 L h) λI1 π1 v y H1 s1 e i1 r k=>?_)));refine wpAny_bind (wpAny_standAt (wpAny_bind (hO eo (L.ext e) i1 hx r λs2 e2 i2 L2=>?_)));exact wpAny_pure (.of (e.any.trans e2) i2 L2 .next k)
 |true=>
  rw [exec_Assign_Name_used x p _ pos hb];refine wpAny_bind (wpAny_standAt (wpAny_bind ?_));show wpAny _ _ (do let _←comprehension _ scope env _ (newList []) false (PySem.eval iter env) (some (assign (.Name x p) env))) _ _ _;have key:Wa C A (comprehension (.ListComp elt [⟨tgt,iter,ifs,0⟩] scope cpos) scope env (firstIterPos [⟨tgt,iter,ifs,0⟩] cpos) (newList []) false (PySem.eval iter env) (some (assign (.Name x p) env))) (λ_ s2=>PS C env nm I π s K .next s2) aH s:=by
   refine qc (pos:=cpos) (use:=some (assign (.Name x p) env)) (Q:=λ_ s2=>PS C env nm I π s K .next s2) hA ok eo.nd ht hs inner i0 L h λI' π' H' s' v y L' m e i' r k hn hf h0=>?_;show wpAny _ _ (assign (.Name x p) env v) _ _ _;refine gG eo (L.ext e) i' hx r λs2 e2 i2 L2=>?_;have hne:∀a∈bT env,a≠L':=λa ha q=>by
    obtain⟨o,ho⟩:=(L.own a ha).1;rw [q,h0]at ho;cases ho
   have hm2:s2.heap.Ns L' m:=by
    obtain⟨o,es,ep,ho,rr⟩:=hn;exact⟨o,es,ep,e2.stay _ _ ho hf.2 (λm=>hne _ m rfl),rr⟩
   refine⟨m,hm2,λh7 hs7=>?_⟩;have e3:=e.any.trans e2;obtain⟨e8,i8⟩:=e3.skip (own:=[L']) (h':=h7) (tk:=s2.toks) i2 (λa ha=>by
    rw [List.mem_singleton.mp ha];exact⟨h0,hf⟩) (λb o hb hg=>hs7.extBut b o (λq=>hb (by rw [q];exact .head _)) hg)
   exact .of e8 i8 (L2.keep (tk:=s2.toks) λa ha o ho=>hs7.extBut a o (hne a ha) ho) .next k
  exact wpAny_bind (wpAny_mono key (λ_ s2 h=>wpAny_pure (wpAny_pure h)) λ_ _ x=>x)
theorem BG{e:Xp}(L:LR C env nm I π ρ s)(h:Wa C A (PySem.eval e env) (PE C I π s λv H1=>K (.ret v) ρ H1) aH s):
  Wa C A (exec (.Return (some e) pos) env) (PS C env nm I π s K) aH s:=
 wpAny_Return_some (PE.next h λI1 π1 v y H1 s1 e i1 r k=>.of e.any i1 (L.ext e) (.ret r) k)
theorem zA{e:Xp}(hc:dG e=false)(L:LR C env nm I π ρ s)(h:Wa C A (PySem.eval e env) (PE C I π s λ_ H1=>K .next ρ H1) aH s):
  Wa C A (exec (.Expr e pos) env) (PS C env nm I π s K) aH s:=by
 have hi:interactive env=false:=by unfold interactive;rw [L.kind];rfl
 rw [exec_Expr env e pos hi (jp hc)];refine wpAny_bind (wpAny_standAt (wpAny_bind (PE.next h λI1 π1 v y H1 s1 e i1 r k=>?_)));unfold dropValue;split
 ·exact wpAny_pure (.of e.any i1 (L.ext e) .next k)
 ·exact wpAny_bind (wpAny_standAt (wpAny_bind (wpAny_runValue (codeAny_builtin entry_let_go (show wpAny _ _ (ret .none) _ _ _ from wpAny_pure (wpAny_pure (.of e.any i1 (L.ext e) .next k)))))))
 ·exact wpAny_pure (.of e.any i1 (L.ext e) .next k)
theorem BH{o:Xp}(ok:eF C)(hc:dG value=false)(L:LR C env nm I π ρ s)
  (h:Wa C A (PySem.eval value env) (PE C I π s K1) aH s)
  (g:∀I1 π1 v x H1 s1,bz [] I π s I1 π1 s1->aK C I1 π1 H1 s1->LR C env nm I1 π1 ρ s1->RV C I1 π1 v x->K1 x H1->Wa C A (PySem.eval o env) (PE C I1 π1 s1 λy H2=>lp C.T H2 f x y λH3=>K .next ρ H3) aH s1):
  Wa C A (exec (.Assign [.Attribute o (C.N.anm f) p] value pos) env) (PS C env nm I π s K) aH s:=by
 refine plainObj_wpAny_Assign_Attribute (PE.next h λI1 π1 v x H1 s1 e i1 r k=>PE.next (g I1 π1 v x H1 s1 e i1 (L.ext e) r k) λI2 π2 w y H2 s2 e2 i2 r2 k2=>?_) (jp hc);exact te ok i2 r2 (e2.rv r) k2 λs3 H3 e3 i3 k3=>.of ((e.trans e2).trans e3).any i3 (((L.ext e).ext e2).ext e3) .next k3
theorem BI{o ix:Xp}(hc:dG value=false)(L:LR C env nm I π ρ s){K2:V->V->Hp->Prop}
  (h:Wa C A (PySem.eval value env) (PE C I π s K1) aH s)
  (g:∀I1 π1 v x H1 s1,bz [] I π s I1 π1 s1->aK C I1 π1 H1 s1->LR C env nm I1 π1 ρ s1->RV C I1 π1 v x->K1 x H1->Wa C A (PySem.eval o env) (PE C I1 π1 s1 (K2 x)) aH s1)
  (g2:∀I1 π1 x y H1 s1,aK C I1 π1 H1 s1->LR C env nm I1 π1 ρ s1->K2 x y H1->Wa C A (PySem.eval ix env) (PE C I1 π1 s1 λz H2=>kl H2 z x y λH3=>K .next ρ H3) aH s1):
  Wa C A (exec (.Assign [.Subscript o ix p] value pos) env) (PS C env nm I π s K) aH s:=by
 refine wpAny_Assign_Subscript (PE.next h λI1 π1 v x H1 s1 e i1 r k=>PE.next (g I1 π1 v x H1 s1 e i1 (L.ext e) r k) λI2 π2 w y H2 s2 e2 i2 r2 k2=>PE.next (g2 I2 π2 x y H2 s2 i2 ((L.ext e).ext e2) k2) λI3 π3 u z H3 s3 e3 i3 r3 k3=>?_) (jp hc);exact tf i3 (e3.rv r2) r3 (e3.rv (e2.rv r)) k3 λs4 H4 e4 i4 k4=>.of (((e.trans e2).trans e3).trans e4).any i4 ((((L.ext e).ext e2).ext e3).ext e4) .next k4
end
def xJ:Xp->Bool
 |.Tuple vs _ _=>vs.all (foldedForSure 8)|| !(vs.all (constantsAlone 8))
 |_=>true
def nameOf?:Xp->Option Str
 |.Name x _=>some x
 |_=>none
section
variable {C:Cx}{I I' I₀:Im}{π π' π₀:Pi}{H:Hp}{s s' s₀:Shared}{A:Around}{env cenv:Env}{d:Nat}{nm:List Str}{ρ ρ':aE}{sc scope:Scope}{P:List Addr}{b:Bool}{tis:List Nat}{K:Fl->aE->Hp->Prop}
theorem lI{α β:Type}{f:α->Option β}:∀{l:List α},(l.filterMap f).length=l.length->∀x∈l,(f x).isSome=true
 | [],_,_,h=>by cases h
 |a::l,h,x,hx=>by
  cases e:f a with
  |none=>
   rw [List.filterMap_cons,e]at h;have:=List.length_filterMap_le f l;simp at h;omega
  |some b=>
   rw [List.filterMap_cons,e]at h;rcases List.mem_cons.mp hx with rfl|hx
   ·rw [e];rfl
   ·exact lI (by simpa using h) x hx
theorem rL{es:List Xp}{tp:Pos}{Q:Option (List Str)->Shared->Prop}(hv:xJ value=true)
  (h1:Q none s) (h2:Q (some (es.filterMap nameOf?)) s):Wa C A (swappedStores [.Tuple es k tp] value env) Q aH s:=by
 unfold swappedStores
 cases value with
 |Tuple vs kk p=>
  have hv':(vs.all (foldedForSure 8)|| !(vs.all (constantsAlone 8)))=true:=hv;dsimp only;split
  ·exact wpAny_pure h1
  ·split
   ·exact wpAny_pure h1
   ·split
    ·exact wpAny_pure h1
    ·rename_i hn;split
     ·exact wpAny_pure h1
     ·rename_i hf;split
      ·rename_i hc;rw [Bool.or_eq_true]at hv';rcases hv' with h|h
       ·exact absurd h hf
       ·rw [hc]at h;cases h
      ·refine wpAny_pure ?_;have e:∀(l:List Xp) (f:Xp->Option Str),(∀x,f x=none\/f x=nameOf? x)->(l.filterMap f).length=l.length->l.filterMap f=l.filterMap nameOf?:=by
        intro l f hf;induction l with
        |nil=>intro _;rfl
        |cons a l ih=>
         intro hl;have ha:=lI hl a (.head _);obtain⟨y,hy⟩:=Option.isSome_iff_exists.mp ha;rw [List.filterMap_cons,hy,List.filterMap_cons];rw [List.filterMap_cons,hy]at hl;rcases hf a with h|h
         ·rw [h]at hy;cases hy
         ·rw [←h,hy];simp only;rw [ih (by simpa using hl)]
       simp only [Bool.or_eq_true,not_or]at hn;have hlen:=hn.1;rw [e _ _ (λx=>?_) (Classical.byContradiction λh=>hlen (by rw [bne_iff_ne];exact h))]
       ·exact h2
       ·cases x<;>first|exact .inl rfl|skip
        simp only [nameOf?];split<;>first|exact .inl rfl|exact .inr rfl
 |_=>exact wpAny_pure h1
theorem oP{es:List Xp}:es.filterMap nameOf?=es.filterMap λe=>match e with|.Name x _=>some x|_=>none:=by
 congr 1
theorem zB{es:List Xp}{kk:Nat}{tp:Pos}(hA:A.handled=none)(eo:cJ env sc nm false (bT env))(L:LR C env nm I π ρ s)(hx:dt sc nm false is es=true)(nd:is.Nodup)(hv:xJ value=true)
  (h:Wa C A (PySem.eval value env) (PE C I π s λv H1=>match v with
   |.ao vs=>aS (vD ρ is vs) λρ1=>K .next ρ1 H1
   |_=>False) aH s):Wa C A (exec (.Assign [.Tuple es kk tp] value pos) env) (PS C env nm I π s K) aH s:=by
 rw [exec_Assign];refine wpAny_bind (wpAny_standAt ?_);have hsw:swapsWithSole [.Tuple es kk tp] value pos.line env=pure false:=by cases value<;>rfl
 rw [hsw];refine wpAny_bind (wpAny_pure ?_);rw [if_neg (by decide)];refine wpAny_bind (PE.next h λI1 π1 v y H1 s1 e i1 r k=>?_)
 cases r with
 | @ao a vs n xs e0 l r=>
  obtain⟨ρ1,hb,k⟩:=aS.h k;obtain⟨hlen,rfl⟩:=nu hb;have ht:IsTup s1.heap a vs.toArray:=⟨_,i1.imm _ _ e0,rfl,_,rfl⟩
  refine wpAny_bind (rL hv ?_ ?_)
  ·show wpAny _ _ (assignAll (.ref a) [_]>>=λ_=>pure Flow.next) _ _ _;exact wpAny_bind (oM (k:=kk) (p:=tp) hA eo (L.ext e) i1 hx ht r hlen λs2 e2 i2 L2=>wpAny_pure (.of (e.any.trans e2) i2 L2 .next k))
  ·show wpAny _ _ (do
    rule "assign.swapped-stores"
    let items←unpackItems (.ref a) (es.filterMap nameOf?).length none
    assignInOrder ((es.filterMap nameOf?).reverse.map λn=>bindName env n) items.reverse
    pure Flow.next) _ _ _
   refine wpAny_bind (wpAny_rule (wpAny_bind (wpAny_mono (qa (Q:=λ_ s2=>PS C env nm I π s K .next s2) hA eo (L.ext e) i1 hx oP ht r hlen nd λs2 e2 i2 L2=>.of (e.any.trans e2) i2 L2 .next k) (λitems s2 h=>?_) λ_ _ x=>x)));exact wpAny_bind (wpAny_mono h (λ_ s3 h=>wpAny_pure h) λ_ _ x=>x)
 |_=>exact k.elim
theorem lJ{o:BO}{x y:Int}{P:V->Prop}{H:Hp}(h:jf o x y P):jf o x y λz=>H=H/\P z:=by
 cases o with
 |add=>exact⟨rfl,h⟩
 |sub=>exact⟨rfl,h⟩
 |mul=>exact⟨h.p,rfl,h.k⟩
 |fdv=>exact⟨h.p,rfl,h.k⟩
 |mod=>exact⟨h.p,rfl,h.k⟩
 |pow=>exact⟨h.p,rfl,h.k⟩
theorem zC{i:Nat}{x:Str}{v:V}(L:LR C env nm I π ρ s)(S:eE env sc)(hx:nm[i]?=some x)(hl:xw sc x=true)(hv:bE ρ i=some v)(q:∀u,RV C I π u v->Q u s):
  Wa C A (loadName env x) Q aH s:=by
 simp only [xw,Bool.and_eq_true,Bool.not_eq_true']at hl;have hs:=S x;have cellCase:(env.kindOf x=some .cell\/env.kindOf x=some .free)->Wa C A (loadName env x) Q aH s:=by
  intro h;obtain⟨c,cv,h1,h2,h3⟩:=L.cells i x hx h;obtain⟨u,rfl,hr⟩:=h3 v hv;rcases h with h|h
  ·exact wpAny_loadName_cell L.kind h h1 h2 (q u hr)
  ·exact wpAny_loadName_free L.kind h h1 h2 (q u hr) hl.2
 cases hk:sc.names.lookup x with
 |none=>rw [hk]at hl;simp at hl
 |some kd=>
  rw [hk]at hs hl
  cases kd with
  | «local» =>
   obtain⟨m,hn,hm⟩:=L.ns;obtain⟨u,hu,hr⟩:=hm i x v hx hv hs;exact wpAny_loadName_local L.kind hs hn hu (q u hr)
  |cell=>exact cellCase hs
  |free=>exact cellCase hs
  |globalExplicit=>simp at hl
  |globalImplicit=>simp at hl
theorem BJ{i:Nat}{x:Str}{o:BO}{op:Operator}{u:V}(eo:cJ env sc nm false (bT env))(L:LR C env nm I π ρ s)(i0:aK C I π H s)(hx:db sc nm false i x=true)(ho:lr o op=true)(hu:bE ρ i=some u)
  (h:Wa C A (PySem.eval value env) (PE C I π s λv H1=>bS u v λx y=>jf o x y λz=>K .next (ρ.set i (some z)) H1) aH s):
  Wa C A (exec (.AugAssign (.Name x p) op value pos) env) (PS C env nm I π s K) aH s:=by
 have hx':=hx;rw [db,Bool.and_eq_true,Bool.and_eq_true,beq_iff_eq]at hx';refine wpAny_AugAssign_Name (zC L eo.sc hx'.1.1 hx'.1.2 hu λw rw'=>?_);refine PE.next h λI2 π2 v2 y2 H2 s2 e2 i2 r2 k2=>?_;have rw2:=e2.rv rw'
 cases u with
 |int a=>
  cases y2 with
  |int b=>
   refine PE.next (rF (K:=λz H3=>H3=H2/\K .next (ρ.set i (some z)) H2) i2 ho rw2 r2 (lJ k2)) λI3 π3 v3 y3 H3 s3 e3 i3 r3 k3=>?_;obtain⟨rfl,k3⟩:=k3;exact tj eo.nd ((L.ext e2).ext e3) eo.sc i3 hx'.1.1 hx'.1.2 (eo.free x) r3 eo.ac (λ_=>eo.cell rfl) λs4 e4 i4 L4=>.of ((e2.trans e3).any.trans e4) i4 L4 .next k3
  |_=>exact k2.elim
 |_=>exact k2.elim
end
section
variable {C:Cx}{I I' I₀:Im}{π π' π₀:Pi}{H:Hp}{s s' s₀:Shared}{A:Around}{env cenv:Env}{d:Nat}{nm:List Str}{ρ ρ':aE}{sc scope:Scope}{P:List Addr}{b:Bool}{tis:List Nat}{K:V->Hp->Prop}
theorem PE.lift(e:bz [] I π s I' π' s')(h:Wa C A t (PE C I' π' s' K) aH s'):Wa C A t (PE C I π s K) aH s':=
 wpAny_mono h (λ_ _ x=>x.trans e) λ_ _ x=>x
theorem vX{l:Xp}{G:V->Hp->Prop}{f:Value->Sem Value}(hl:ax C A env nm l wl)(L:LR C env nm I π ρ s)(i:aK C I π H s)(k:wl ρ H G)
  (fin:∀(I:Im) (π:Pi) (H:Hp) (s:Shared) (va:Value) (x:V),LR C env nm I π ρ s->aK C I π H s->RV C I π va x->G x H->Wa C A (f va) (PE C I π s K) aH s):
  Wa C A (PySem.eval l env) (λa s1=>Wa C A (f a) (PE C I π s K) aH s1) aH s:=
 PE.next (hl I π H s ρ G L i k) λI1 π1 v x H1 s1 e i1 r k1=>PE.lift e (fin I1 π1 H1 s1 v x (L.ext e) i1 r k1)
theorem tu{l r:Xp}{G:V->V->Hp->Prop}{f:Value->Value->Sem Value}(hl:ax C A env nm l wl)(hr:ax C A env nm r wr)(L:LR C env nm I π ρ s)(i:aK C I π H s)(k:wl ρ H λx H1=>wr ρ H1 λy H2=>G x y H2)
  (fin:∀(I:Im) (π:Pi) (H:Hp) (s:Shared) (va vb:Value) (x y:V),LR C env nm I π ρ s->aK C I π H s->RV C I π va x->RV C I π vb y->G x y H->Wa C A (f va vb) (PE C I π s K) aH s):
  Wa C A (PySem.eval l env) (λa s1=>Wa C A (PySem.eval r env) (λb s2=>Wa C A (f a b) (PE C I π s K) aH s2) aH s1) aH s:=
 PE.next (hl I π H s ρ _ L i k) λI1 π1 v x H1 s1 e i1 r1 k1=>PE.next (hr I1 π1 H1 s1 ρ _ (L.ext e) i1 k1) λI2 π2 u y H2 s2 e2 i2 r2 k2=>
  PE.lift (e.trans e2) (fin I2 π2 H2 s2 v u x y ((L.ext e).ext e2) i2 (e2.rv r1) r2 k2)
theorem BK{l r:Xp}{o:BO}{op:Operator}(ho:lr o op=true)(hl:ax C A env nm l wl)(hr:ax C A env nm r wr):
  ax C A env nm (.BinOp l op r pos) λρ H K=>wl ρ H λva H1=>wr ρ H1 λvb H2=>bS va vb λx y=>jf o x y λv=>K v H2:=λI π H s ρ K L i k=>by
 refine wpAny_BinOp (tu (f:=binaryOp op) (G:=λva vb H2=>bS va vb λx y=>jf o x y λv=>K v H2) hl hr L i k λI π H s va vb x y L i ra rb k=>?_)
 cases x with
 |int a=>cases y with
  |int b=>exact Bb i ho ra rb k
  |_=>exact k.elim
 |_=>exact k.elim
theorem BL{l r:Xp}(hl:ax C A env nm l wl)(hr:ax C A env nm r wr):
  ax C A env nm (.BinOp l .Add r pos) λρ H K=>wl ρ H λva H1=>wr ρ H1 λvb H2=>mM va (mM vb (aY H2 va λxs=>aY H2 vb λys=>av (sizeOk (xs.length+ys.length)) (dE fr (xs++ys) H2 K))):=λI π H s ρ K L i k=>by
 refine wpAny_BinOp (tu (f:=binaryOp .Add) (G:=λva vb H2=>mM va (mM vb (aY H2 va λxs=>aY H2 vb λys=>av (sizeOk (xs.length+ys.length)) (dE fr (xs++ys) H2 K)))) hl hr L i k λI π H s va vb x y L i ra rb k=>?_);have h1:∀ys,x≠.ao ys:=λys e=>by subst e;exact k
 have k1:=oB k;have h2:∀ys,y≠.ao ys:=λys e=>by subst e;exact k1
 exact Be i ra rb h1 h2 (oB k1)
theorem BM{l r:Xp}(hl:ax C A env nm l wl)(hr:ax C A env nm r wr):
  ax C A env nm (.BinOp l .Add r pos) λρ H K=>wl ρ H λva H1=>wr ρ H1 λvb H2=>match va,vb with
   |.ao xs,.ao ys=>av (sizeOk (xs.length+ys.length)) (K (.ao (xs++ys)) H2)
   |_,_=>False:=λI π H s ρ K L i k=>by
 refine wpAny_BinOp (tu (f:=binaryOp .Add) (G:=λva vb H2=>match va,vb with
   |.ao xs,.ao ys=>av (sizeOk (xs.length+ys.length)) (K (.ao (xs++ys)) H2)
   |_,_=>False) hl hr L i k λI π H s va vb x y L i ra rb k=>?_)
 cases x with
 |ao a=>cases y with
  |ao b=>exact Bf i ra rb k
  |_=>exact k.elim
 |_=>exact k.elim
theorem BN{l:Xp}(hl:ax C A env nm l wl):
  ax C A env nm (.UnaryOp .USub l pos) λρ H K=>wl ρ H λv H1=>match v with
   |.int x=>K (.int (-x)) H1
   |_=>False:=λI π H s ρ K L i k=>by
 refine wpAny_UnaryOp (vX (f:=unaryOp .USub) (G:=λv H1=>match v with
   |.int x=>K (.int (-x)) H1
   |_=>False) hl L i k λI π H s va x L i ra k=>?_)
 cases x with
 |int a=>exact Bk i ra k
 |_=>exact k.elim
theorem BP{l:Xp}(hl:ax C A env nm l wl):
  ax C A env nm (.UnaryOp .Not l pos) λρ H K=>wl ρ H λv H1=>gh v λb=>K (.bool (!b)) H1:=λI π H s ρ K L i k=>by
 refine wpAny_UnaryOp (vX (f:=unaryOp .Not) (G:=λv H1=>gh v λb=>K (.bool (!b)) H1) hl L i k λI π H s va x L i ra k=>?_)
 cases x with
 |bool a=>exact Bl i ra k
 |_=>exact k.elim
theorem lK{l r:Xp}{op:CmpOp}{G:(V->Hp->Prop)->V->V->Hp->Prop}(hm:behindInMarks op r=false)(hl:ax C A env nm l wl)(hr:ax C A env nm r wr)
  (hf:∀(K:V->Hp->Prop) (I:Im) (π:Pi) (H:Hp) (s:Shared) (va vb:Value) (x y:V),aK C I π H s->RV C I π va x->RV C I π vb y->G K x y H->Wa C A (compareOp op va vb) (PE C I π s K) aH s):
  ax C A env nm (.Compare l [op] [r] pos) λρ H K=>wl ρ H λva H1=>wr ρ H1 λvb H2=>G K va vb H2:=λI π H s ρ K L i k=>
 wpAny_Compare1 (tu (f:=compareOp op) (G:=G K) hl hr L i k λI π H s va vb x y L i ra rb k=>hf K I π H s va vb x y i ra rb k) hm
theorem BQ{l:Xp}(ok:eF C)(hb:bl l=true)(hl:ax C A env nm l wl):
  ax C A env nm (.Attribute l (C.N.anm f) pos) λρ H K=>wl ρ H λv H1=>m8 C.T H1 f v λu=>K u H1:=λI π H s ρ K L i k=>by
 refine Attribute_any_ (vX (f:=λo=>getAttr o (C.N.anm f) true) (G:=λv H1=>m8 C.T H1 f v λu=>K u H1) hl L i k λI π H s va x L i ra k=>?_) (by rw [arm_eval_Attribute,th hb]);exact yM ok i ra k λv y r hk=>.tok _ i r hk
theorem BR{l r:Xp}(hl:ax C A env nm l wl)(hr:ax C A env nm r wr):
  ax C A env nm (.Subscript l r pos) λρ H K=>wl ρ H λva H1=>wr ρ H1 λvi H2=>m7 H2 va vi λu=>K u H2:=λI π H s ρ K L i k=>by
 refine lz (PE.next (hl I π H s ρ _ L i k) λI1 π1 v x H1 s1 e i1 r1 k1=>PE.next (hr I1 π1 H1 s1 ρ _ (L.ext e) i1 k1) λI2 π2 u y H2 s2 e2 i2 r2 k2=>?_);obtain⟨T,id,h1,h2⟩:=vF i2 (e2.rv r1) k2;exact⟨T,id,h1,h2,yL i2 (e2.rv r1) r2 k2 λw z t rw' hz=>((PE.tok t i2 rw' hz).trans e2).trans e⟩
theorem BU{t x y:Xp}{wy:aE->Hp->(V->Hp->Prop)->Prop}
  (ht:∀(I:Im) (π:Pi) (H:Hp) (s:Shared) (ρ:aE) (K:Bool->Hp->Prop),LR C env nm I π ρ s->aK C I π H s->wt ρ H K->Wa C A (isTrue t env (PySem.eval t env)) (PB C I π s K) aH s)
  (hx:ax C A env nm x wx) (hy:ax C A env nm y wy):ax C A env nm (.IfExp t x y pos) λρ H K=>wt ρ H λb H1=>gf b (wx ρ H1 K) (wy ρ H1 K):=λI π H s ρ K L i k=>by
 refine IfExp_ (PB.next (ht I π H s ρ _ L i k) λI1 π1 b H1 s1 e i1 k1=>?_)
 cases b with
 |true=>exact PE.lift e (hx I1 π1 H1 s1 ρ K (L.ext e) i1 (k1.t rfl))
 |false=>exact PE.lift e (hy I1 π1 H1 s1 ρ K (L.ext e) i1 (k1.f rfl))
end
section
variable {C:Cx}{I I' I₀:Im}{π π' π₀:Pi}{H:Hp}{s s' s₀:Shared}{A:Around}{env cenv:Env}{d:Nat}{nm:List Str}{ρ ρ':aE}{sc scope:Scope}{P:List Addr}{b:Bool}{tis:List Nat}{K:V->Hp->Prop}
def iS(C:Cx)(A:Around)(env:Env)(nm:List Str)(xs:List Xp)(w:aE->Hp->(List V->Hp->Prop)->Prop):Prop:=
 ∀(I:Im) (π:Pi) (H:Hp) (s:Shared) (ρ:aE) (pos:Pos) (K:List V->Hp->Prop),LR C env nm I π ρ s->aK C I π H s->w ρ H K->
  Wa C A (spliced (backTo pos (starEach xs env))) (λvs s'=>xp C I π s K vs s'/\vs.length=xs.length) aH s
theorem vY:iS C A env nm [] λ_ H K=>K [] H:=λI π H s ρ pos K L i k=>wpAny_items_nil ⟨⟨I,π,[],H,.refl,i,.nil,k⟩,rfl⟩
theorem oQ{x:Xp}{xs:List Xp}{w:aE->Hp->(V->Hp->Prop)->Prop}(hs:au x=true)(h:ax C A env nm x w)(hs':iS C A env nm xs ws):
  iS C A env nm (x::xs) λρ H K=>w ρ H λv H1=>ws ρ H1 λvs H2=>K (v::vs) H2:=λI π H s ρ pos K L i k=>
 wpAny_items_cons (PE.next (h I π H s ρ _ L i k) λI1 π1 v x H1 s1 e i1 r k1=>wpAny_mono (hs' I1 π1 H1 s1 ρ pos _ (L.ext e) i1 k1) (λvs s2 h2=>by
  obtain⟨⟨I2,π2,xs,H2,e2,i2,r2,k2⟩,hl⟩:=h2;exact⟨⟨I2,π2,_,H2,e.trans e2,i2,.cons (e2.rv r) r2,k2⟩,by simp [hl]⟩) λ_ _ x=>x) (cj hs)
theorem dT{x:Xp}{w:aE->Hp->(V->Hp->Prop)->Prop}(hs:au x=true)(h:ax C A env nm x w):iS C A env nm [x] λρ H K=>w ρ H λv H1=>K [v] H1:=oQ hs h vY
theorem rM{x y:Xp}{w:aE->Hp->(V->Hp->Prop)->Prop}(hs:au x=true)(h:ax C A env nm x w)(hs':au y=true)(h':ax C A env nm y w'):iS C A env nm [x,y] λρ H K=>w ρ H λv H1=>w' ρ H1 λu H2=>K [v,u] H2:=oQ hs h (dT hs' h')
theorem BV{xs:List Xp}(hn:xs.length<=1000)(h:iS C A env nm xs ws):ax C A env nm (.Tuple xs k' pos) λρ H K=>ws ρ H λvs H1=>K (.ao vs) H1:=λI π H s ρ K L i k=>by
 refine Tuple_ (wpAny_mono (h I π H s ρ pos _ L i k) (λvs s' h=>?_) λ_ _ x=>x);obtain⟨⟨I2,π2,xs',H2,e2,i2,r2,k2⟩,hl⟩:=h;exact wpAny_newObj_type ((fv (t:=s'.toks) i2 r2 (by omega) k2).trans e2) (by show vs.toArray.size<=sizeLine;rw [List.size_toArray];exact dq (by omega))
theorem BW{xs:List Xp}(hn:xs.length<=1000)(h:iS C A env nm xs ws):ax C A env nm (.List xs pos) λρ H K=>ws ρ H λvs H1=>dE fr vs H1 K:=λI π H s ρ K L i k=>by
 refine List_ (wpAny_mono (h I π H s ρ pos _ L i k) (λvs s' h=>?_) λ_ _ x=>x);obtain⟨⟨I2,π2,xs',H2,e2,i2,r2,k2⟩,hl⟩:=h;exact wpAny_newObj_type ((gX (t:=s'.toks) i2 r2 (by omega) k2).trans e2) (by show vs.toArray.size<=sizeLine;rw [List.size_toArray];exact dq (by omega))
theorem iT{x:Str}{xs:List Xp}(ok:eF C)(S:eE env sc)(hg:jk sc x=true)(hb:(x,Value.builtin id)∈bB)(hs:xs.all au=true)(h:iS C A env nm xs ws)
  (hf:∀(K:V->Hp->Prop) (I:Im) (π:Pi) (H:Hp) (s:Shared) (vals:List Value) (vs:List V),aK C I π H s->bx C I π vals vs->G K vs H->Wa C A (call (.builtin id) vals) (PE C I π s K) aH s):
  ax C A env nm (.Call (.Name x p) xs [] pos) λρ H K=>ws ρ H λvs H1=>G K vs H1:=λI π H s ρ K L i k=>by
 refine da rfl (fN L S i hg (ok.blt _ hb).1 (ok.blt _ hb).2 ?_);refine jN hs (wpAny_mono (h I π H s ρ pos _ L i k) (λvs s' h=>?_) λ_ _ x=>x);obtain⟨⟨I2,π2,xs',H2,e2,i2,r2,k2⟩,-⟩:=h;exact PE.lift e2 (hf K I2 π2 H2 s' vs xs' i2 r2 k2)
theorem rN{x:Str}{xs:List Xp}(ok:eF C)(S:eE env sc)(hg:jk sc x=true)(hb:(x,Value.type id)∈bB)(hs:xs.all au=true)(h:iS C A env nm xs ws)
  (hf:∀(K:V->Hp->Prop) (I:Im) (π:Pi) (H:Hp) (s:Shared) (vals:List Value) (vs:List V),aK C I π H s->bx C I π vals vs->G K vs H->Wa C A (call (.type id) vals) (PE C I π s K) aH s):
  ax C A env nm (.Call (.Name x p) xs [] pos) λρ H K=>ws ρ H λvs H1=>G K vs H1:=λI π H s ρ K L i k=>by
 refine da rfl (fN L S i hg (ok.blt _ hb).1 (ok.blt _ hb).2 ?_);refine hJ hs (wpAny_mono (h I π H s ρ pos _ L i k) (λvs s' h=>?_) λ_ _ x=>x);obtain⟨⟨I2,π2,xs',H2,e2,i2,r2,k2⟩,-⟩:=h;exact PE.lift e2 (hf K I2 π2 H2 s' vs xs' i2 r2 k2)
theorem lL{vs:List V}(cok:fP C d)(rm:dF A d)(i:aK C I π H s)(r:bx C I π vals vs)(k:aG C.T d f vs H K):Wa C A (call (.ref (vO C f)) vals) (PE C I π s K) aH s:=
 wpAny_call (codeAny_mono (cok f vs H K I π s vals A rm k i r) λq s' h=>by
  rcases q with e|(v|_|_|_)<;>first|exact h|exact h.elim)
theorem Ii{x:Str}{xs:List Xp}(ok:eF C)(cok:fP C d)(rm:dF A d)(S:eE env sc)(hg:jk sc x=true)(hn:x=C.N.fnm f)(hne:x≠Str.empty)(hfn:(C.T.fn f).isSome=true)(hs:xs.all au=true)(h:iS C A env nm xs ws):
  ax C A env nm (.Call (.Name x p) xs [] pos) λρ H K=>ws ρ H λvs H1=>aG C.T d f vs H1 K:=λI π H s ρ K L i k=>by
 subst hn;obtain⟨h1,h2⟩:=ok.fns f hfn hne;have ha:vO C f=C.N.fa f:=by unfold vO;obtain⟨y,hy⟩:=Option.isSome_iff_exists.mp hfn;rw [hy]
 refine da rfl (oF L S i hg h1 ?_);refine jO h2 hs (wpAny_mono (h I π H s ρ pos _ L i k) (λvs s' h=>?_) λ_ _ x=>x);obtain⟨⟨I2,π2,xs',H2,e2,i2,r2,k2⟩,-⟩:=h;refine⟨i2.In,?_⟩;rw [←ha];exact PE.lift e2 (lL cok rm i2 r2 k2)
theorem BX{c:Nat}{x:Str}{xs:List Xp}(ok:eF C)(cok:fP C d)(rm:dF A d)(S:eE env sc)(hg:jk sc x=true)(hn:x=C.N.cnm c)(hcl:(C.T.cl c).isSome=true)(hfn:C.T.fn (1000+c)=none)(hs:xs.all au=true)(h:iS C A env nm xs ws):
  ax C A env nm (.Call (.Name x p) xs [] pos) λρ H K=>ws ρ H λvs H1=>aG C.T d (1000+c) vs H1 K:=λI π H s ρ K L i k=>by
 subst hn;obtain⟨h1,h2⟩:=ok.cla c hcl;have ha:vO C (1000+c)=C.N.ca c:=by unfold vO;rw [hfn];show C.N.ca (1000+c-1000)=_;rw [Nat.add_sub_cancel_left]
 refine da rfl (oF L S i hg h1 ?_);refine jO h2 hs (wpAny_mono (h I π H s ρ pos _ L i k) (λvs s' h=>?_) λ_ _ x=>x);obtain⟨⟨I2,π2,xs',H2,e2,i2,r2,k2⟩,-⟩:=h;refine⟨i2.In,?_⟩;rw [←ha];exact PE.lift e2 (lL cok rm i2 r2 k2)
end
def Ij(K:V->Hp->Prop)(va:V):List V->Hp->Prop
 | [.int 0],H1=>cY H1 va λr xs=>match xs with
  |x::xs=>K x (H1.set r (.ad xs))
  | []=>False
 |_,_=>False
def Ik(K:V->Hp->Prop)(va:V):List V->Hp->Prop
 | [.int 0,v],H2=>cY H2 va λr xs=>av (sizeOk (xs.length+1)) (K .none (H2.set r (.ad (v::xs))))
 |_,_=>False
def Il(K:V->Hp->Prop)(va:V):List V->Hp->Prop
 | [v],H2=>match v with
  |.int x=>Mine.dictOf H2 va λks=>K ((aW x ks).getD .none) H2
  |_=>False
 |_,_=>False
section
variable {C:Cx}{I I' I₀:Im}{π π' π₀:Pi}{H:Hp}{s s' s₀:Shared}{A:Around}{env cenv:Env}{d:Nat}{nm:List Str}{ρ ρ':aE}{sc scope:Scope}{P:List Addr}{b:Bool}{tis:List Nat}{K:V->Hp->Prop}
theorem vZ{x:V}{m:Nat}{P:Nat->Prop}{pl:Sem Bool}{Q:Value×List Value->Shared->Prop}(ok:eF C)(i:aK C I π H s)(ra:RV C I π va x)(k:vA H x λc=>aS (C.T.meth c m) P)
  (q:∀f,P f->(C.T.fn f).isSome=true->keepIn C.K (.ref (C.N.fa f))=true->Q (.ref (C.N.fa f),[va]) s):Wa C A (getMethod va (C.N.mnm m) pl) Q aH s:=by
 have go:∀{a d c es n vs},va= .ref a->s.heap.get? a=some (instObj (C.N.ca c) d)->s.heap.get? d=some (pS es n)->cR C.T C.N c es vs->aS (C.T.meth c m) P->Wa C A (getMethod va (C.N.mnm m) pl) Q aH s:=by
  rintro a d c es n vs rfl h1 h2 F ⟨f,hf,hP⟩
  obtain⟨g1,g2,g3,g4,g5,g6⟩:=ok.mth c m f hf;have I0:PySem.W.InstAt s.heap a (instObj (C.N.ca c) d) (C.N.ca c) (some (pS es n)):=⟨h1,rfl,rfl,h2⟩
  refine method_fn i.In I0 (plainGet_of g2).1 (plainGet_of g2).2 g3 g4 ?_ (q f hP g1 g5);show(lookIn (C.N.mnm m) (PySem.W.dictOf es n)).map _=_;rw [lookIn_dict,nb F g6];rfl
 cases ra with
 |obj h1 h2 F hz r=>exact go rfl (i.imm _ _ h1) (i.imm _ _ h2) F k
 |ref e=>
  obtain⟨o,ho,hk⟩:=bL.h k
  cases o with
  |inst c fs=>
   obtain⟨h1,es,n,vs,h2,F,hl,hz,h5⟩:=i.obj _ _ _ e ho;exact go rfl (i.imm _ _ h1) h2 F hk
  |_=>exact hk.elim
 |_=>exact k.elim
theorem BY{o:Xp}{m:Nat}{xs:List Xp}(ok:eF C)(cok:fP C d)(rm:dF A d)(hn:name=C.N.mnm m)
  (hb:bl o=true) (hs:xs.all au=true) (hl:xs.length<30) (hp:(apos.endLine==pos.line)=true) (ho:ax C A env nm o wo) (h:iS C A env nm xs ws):
  ax C A env nm (.Call (.Attribute o name apos) xs [] pos) λρ H K=>wo ρ H λva H1=>vA H1 va λc=>aS (C.T.meth c m) λf=>ws ρ H1 λvs H2=>aG C.T d f (va::vs) H2 K:=λI π H s ρ K L i k=>by
 subst hn;refine p7 hb hs hl hp (PE.next (ho I π H s ρ _ L i k) λI1 π1 v x H1 s1 e i1 r k1 pl=>vZ ok i1 r k1 λf hP hf hk=>?_);have ha:vO C f=C.N.fa f:=by unfold vO;obtain⟨y,hy⟩:=Option.isSome_iff_exists.mp hf;rw [hy]
 refine jO hk hs (wpAny_mono (h I1 π1 H1 s1 ρ pos _ (L.ext e) i1 hP) (λvs s' h=>?_) λ_ _ x=>x);obtain⟨⟨I2,π2,xs',H2,e2,i2,r2,k2⟩,-⟩:=h;refine⟨i2.In,?_⟩;rw [←ha];exact PE.lift (e.trans e2) (lL cok rm i2 (.cons (e2.rv r) r2) k2)
theorem jq{o:Xp}{T:String}{xs:List Xp}{D:V->Hp->Prop->Prop}{G:(V->Hp->Prop)->V->List V->Hp->Prop}
  (pa:PlainAttrs T) (slot:Slot T name id) (hty:typeOf (.builtin id)=pure (.type "method_descriptor"))
  (hT:∀(I:Im) (π:Pi) (H:Hp) (s:Shared) (va:Value) (x:V) (Q:Prop),aK C I π H s->RV C I π va x->D x H Q->s.TypeIs va T/\(∀a,va= .ref a->∃ob,s.heap.get? a=some ob/\ob.dict=none)/\Q)
  (hb:bl o=true) (hs:xs.all au=true) (hl:xs.length<30) (hp:(apos.endLine==pos.line)=true) (ho:ax C A env nm o wo) (h:iS C A env nm xs ws)
  (hf:∀(K:V->Hp->Prop) (I:Im) (π:Pi) (H:Hp) (s:Shared) (va:Value) (x:V) (vals:List Value) (vs:List V),aK C I π H s->RV C I π va x->bx C I π vals vs->G K x vs H->Wa C A (call (.builtin id) (va::vals)) (PE C I π s K) aH s):
  ax C A env nm (.Call (.Attribute o name apos) xs [] pos) λρ H K=>wo ρ H λva H1=>D va H1 (ws ρ H1 λvs H2=>G K va vs H2):=λI π H s ρ K L i k=>by
 refine p7 hb hs hl hp (PE.next (ho I π H s ρ _ L i k) λI1 π1 v x H1 s1 e i1 r k1 pl=>?_);obtain⟨h1,h2,k1⟩:=hT _ _ _ _ _ _ _ i1 r k1;refine getMethod_builtin h1 pa slot hty h2 ?_;refine jN hs (wpAny_mono (h I1 π1 H1 s1 ρ pos _ (L.ext e) i1 k1) (λvs s' h=>?_) λ_ _ x=>x);obtain⟨⟨I2,π2,xs',H2,e2,i2,r2,k2⟩,-⟩:=h;exact PE.lift (e.trans e2) (hf K I2 π2 H2 s' v x vs xs' i2 (e2.rv r) r2 k2)
theorem tw{I:Im}{H:Hp}{x:V}{Q:Prop}(i:aK C I π H s)(r:RV C I π va x)(h:dY H x Q):s.TypeIs va "list"/\(∀a,va= .ref a->∃ob,s.heap.get? a=some ob/\ob.dict=none)/\Q:=by
 obtain⟨_,a,vs,n,-,rfl,hl,q⟩:=ud i r h;exact⟨⟨_,hl,rfl⟩,λb e=>by cases e;exact⟨_,hl,rfl⟩,q⟩
theorem BZ{I:Im}{H:Hp}{x:V}{Q:Prop}(i:aK C I π H s)(r:RV C I π va x)(h:Mine.dictOf H x λ_=>Q):s.TypeIs va "dict"/\(∀a,va= .ref a->∃ob,s.heap.get? a=some ob/\ob.dict=none)/\Q:=by
 obtain⟨a,kvs,ks,rfl,hd,-,-,-,q⟩:=fO i r h;exact⟨hd.typeIs,hd.mapOf.noDict,q⟩
theorem B0{o x:Xp}(hb:bl o=true)(hs:au x=true)(hp:(apos.endLine==pos.line)=true)(ho:ax C A env nm o wo)(h:ax C A env nm x wx):
  ax C A env nm (.Call (.Attribute o "append" apos) [x] [] pos) λρ H K=>wo ρ H λva H1=>dY H1 va (wx ρ H1 λv H2=>cY H2 va λr xs=>av (sizeOk (xs.length+1)) (K .none (H2.set r (.ad (xs++[v]))))):=
 jq (D:=λx H Q=>dY H x Q) (G:=λK va vs H2=>match vs with| [v]=>cY H2 va λr xs=>av (sizeOk (xs.length+1)) (K .none (H2.set r (.ad (xs++[v]))))|_=>False)
  PySem.F.plainAttrs_list F.slot_list_append PySem.F.type_list_append (λ_ _ _ _ _ _ _ i r h=>tw i r h) hb (by simp [hs]) (by simp) hp ho (dT hs h)
  λK I π H s va x vals vs i r rs k=>by
   match vs,rs,k with
   | [v],.cons r1 .nil,k=>exact BB i r r1 k
theorem B7{o x:Xp}(hb:bl o=true)(hs:au x=true)(hp:(apos.endLine==pos.line)=true)(ho:ax C A env nm o wo)(h:ax C A env nm x wx):
  ax C A env nm (.Call (.Attribute o "extend" apos) [x] [] pos) λρ H K=>wo ρ H λva H1=>dY H1 va (wx ρ H1 λv H2=>cY H2 va λr xs=>match v with
   |.ad ys=>av (sizeOk (xs.length+ys.length)) (K .none (H2.set r (.ad (xs++ys))))
   |_=>False):=
 jq (D:=λx H Q=>dY H x Q) (G:=Bz)
  PySem.F.plainAttrs_list F.slot_list_extend PySem.F.type_list_extend (λ_ _ _ _ _ _ _ i r h=>tw i r h) hb (by simp [hs]) (by simp) hp ho (dT hs h)
  λK I π H s va x vals vs i r rs k=>by
   match vs,rs,k with
   | [v],.cons r1 .nil,k=>exact BC i r r1 k
theorem B8{o x:Xp}{wx:aE->Hp->(V->Hp->Prop)->Prop}(hb:bl o=true)(hs:au x=true)(hp:(apos.endLine==pos.line)=true)(ho:ax C A env nm o wo)
  (h:ax C A env nm x λ_ H K=>K (.int 0) H):
  ax C A env nm (.Call (.Attribute o "pop" apos) [x] [] pos) λρ H K=>wo ρ H λva H1=>dY H1 va (cY H1 va λr xs=>match xs with
   |x::xs=>K x (H1.set r (.ad xs))
   | []=>False):=
 jq (D:=λx H Q=>dY H x Q) (G:=Ij)
  PySem.F.plainAttrs_list F.slot_list_pop PySem.F.type_list_pop (λ_ _ _ _ _ _ _ i r h=>tw i r h) hb (by simp [hs]) (by simp) hp ho (dT hs h)
  λK I π H s va x vals vs i r rs k=>by
   match vs,rs,k with
   | [.int 0],.cons r1 .nil,k=>exact BD i r r1 k
theorem B9{o y x:Xp}(hb:bl o=true)(hs:au x=true)(hs':au y=true)(hp:(apos.endLine==pos.line)=true)(ho:ax C A env nm o wo)
  (h0:ax C A env nm y λ_ H K=>K (.int 0) H) (h:ax C A env nm x wx):
  ax C A env nm (.Call (.Attribute o "insert" apos) [y,x] [] pos) λρ H K=>wo ρ H λva H1=>dY H1 va (wx ρ H1 λv H2=>cY H2 va λr xs=>av (sizeOk (xs.length+1)) (K .none (H2.set r (.ad (v::xs))))):=
 jq (D:=λx H Q=>dY H x Q) (G:=Ik)
  PySem.F.plainAttrs_list F.slot_list_insert PySem.F.type_list_insert (λ_ _ _ _ _ _ _ i r h=>tw i r h) hb (by simp [hs,hs']) (by simp) hp ho (rM hs' h0 hs h)
  λK I π H s va x vals vs i r rs k=>by
   match vs,rs,k with
   | [.int 0,v],.cons r1 (.cons r2 .nil),k=>exact BE i r r1 r2 k
theorem Cb{o x:Xp}(hb:bl o=true)(hs:au x=true)(hp:(apos.endLine==pos.line)=true)(ho:ax C A env nm o wo)(h:ax C A env nm x wx):
  ax C A env nm (.Call (.Attribute o "get" apos) [x] [] pos) λρ H K=>wo ρ H λva H1=>Mine.dictOf H1 va λ_=>wx ρ H1 λv H2=>match v with
   |.int x=>Mine.dictOf H2 va λks=>K ((aW x ks).getD .none) H2
   |_=>False:=
 jq (D:=λx H Q=>Mine.dictOf H x λ_=>Q) (G:=Il)
  PySem.F.plainAttrs_dict PySem.F.slot_dict_get PySem.F.type_dict_get (λ_ _ _ _ _ _ _ i r h=>BZ i r h) hb (by simp [hs]) (by simp) hp ho (dT hs h)
  λK I π H s va x vals vs i r rs k=>by
   match vs,rs,k with
   | [v],.cons r1 .nil,k=>
    cases v with
    |int m=>exact Bi i r r1 k
    |_=>exact k.elim
end
section
variable {C:Cx}{I I' I₀:Im}{π π' π₀:Pi}{H:Hp}{s s' s₀:Shared}{A:Around}{env cenv:Env}{d:Nat}{nm:List Str}{ρ ρ':aE}{sc scope:Scope}{P:List Addr}{b:Bool}{tis:List Nat}{K:V->Hp->Prop}
variable {l r:Xp}{wl wr:aE->Hp->(V->Hp->Prop)->Prop}{op:CmpOp}{pos:Pos}
theorem zD{o:CP}(ho:ls o op=true)(hm:behindInMarks op r=false)(hl:ax C A env nm l wl)(hr:ax C A env nm r wr):
  ax C A env nm (.Compare l [op] [r] pos) λρ H K=>wl ρ H λva H1=>wr ρ H1 λvb H2=>bS va vb λx y=>K (.bool (iz o x y)) H2:=
 lK (G:=λK va vb H2=>bS va vb λx y=>K (.bool (iz o x y)) H2) hm hl hr λK I π H s va vb x y i ra rb k=>by
  cases x with
  |int a=>cases y with
   |int b=>exact pV i ho ra rb k
   |_=>exact k.elim
  |_=>exact k.elim
theorem Cc{n:Bool}(ho:oG n op=true)(hm:behindInMarks op r=false)(hl:ax C A env nm l wl)(hr:ax C A env nm r wr):
  ax C A env nm (.Compare l [op] [r] pos) λρ H K=>wl ρ H λva H1=>wr ρ H1 λvb H2=>match va,vb with
   |.chr x,.chr y=>K (.bool (b0 n (decide (x=y)))) H2
   |_,_=>False:=
 lK (G:=λK va vb H2=>match va,vb with
   |.chr x,.chr y=>K (.bool (b0 n (decide (x=y)))) H2
   |_,_=>False) hm hl hr λK I π H s va vb x y i ra rb k=>by
  cases x with
  |chr a=>cases y with
   |chr b=>exact Bc i ho ra rb k
   |_=>exact k.elim
  |_=>exact k.elim
theorem Ce{n:Bool}(ho:oG n op=true)(hm:behindInMarks op r=false)(hl:ax C A env nm l wl)(hr:ax C A env nm r wr):
  ax C A env nm (.Compare l [op] [r] pos) λρ H K=>wl ρ H λva H1=>wr ρ H1 λvb H2=>match va,vb with
   |.bool x,.bool y=>K (.bool (b0 n (x==y))) H2
   |_,_=>False:=
 lK (G:=λK va vb H2=>match va,vb with
   |.bool x,.bool y=>K (.bool (b0 n (x==y))) H2
   |_,_=>False) hm hl hr λK I π H s va vb x y i ra rb k=>by
  cases x with
  |bool a=>cases y with
   |bool b=>exact Bw i ho ra rb k
   |_=>exact k.elim
  |_=>exact k.elim
theorem Cg{n:Bool}(rm:dF A d)(ho:oG n op=true)(hm:behindInMarks op r=false)(hl:ax C A env nm l wl)(hr:ax C A env nm r wr):
  ax C A env nm (.Compare l [op] [r] pos) λρ H K=>wl ρ H λva H1=>wr ρ H1 λvb H2=>xv H2 va λx=>xv H2 vb λy=>av (vz x y) (K (.bool (b0 n (kX x y))) H2):=
 lK (G:=λK va vb H2=>xv H2 va λx=>xv H2 vb λy=>av (vz x y) (K (.bool (b0 n (kX x y))) H2)) hm hl hr λK I π H s va vb x y i ra rb k=>
  Bx (by have:=rm.units;omega) i ho ra rb k
def Ch(n:Bool)(p:CmpOp):Bool:=match n,p with
 |true,.IsNot=>true|false,.Is=>true|_,_=>false
theorem Ci{n:Bool}(ho:Ch n op=true)(hm:behindInMarks op r=false)(hl:ax C A env nm l wl)(hr:ax C A env nm r λ_ H K=>K .none H):
  ax C A env nm (.Compare l [op] [r] pos) λρ H K=>wl ρ H λv H1=>K (.bool (b0 n (isNone v))) H1:=
 lK (G:=λK va vb H2=>match vb with
   |.none=>K (.bool (b0 n (isNone va))) H2
   |_=>False) hm hl hr λK I π H s va vb x y i ra rb k=>by
  cases y with
  |none=>cases rb;exact Bd i ho ra k
  |_=>exact k.elim
theorem Cj{n:Bool}(ho:pY n op=true)(hm:behindInMarks op r=false)(hl:ax C A env nm l wl)(hr:ax C A env nm r wr):
  ax C A env nm (.Compare l [op] [r] pos) λρ H K=>wl ρ H λva H1=>wr ρ H1 λvb H2=>match va,vb with
   |.int x,.ao ys=>aS (ji ys) λis=>K (.bool (b0 n (is.contains x))) H2
   |.chr x,.ao ys=>aS (ln ys) λis=>K (.bool (b0 n (is.contains x))) H2
   |_,_=>False:=
 lK (G:=λK va vb H2=>match va,vb with
   |.int x,.ao ys=>aS (ji ys) λis=>K (.bool (b0 n (is.contains x))) H2
   |.chr x,.ao ys=>aS (ln ys) λis=>K (.bool (b0 n (is.contains x))) H2
   |_,_=>False) hm hl hr λK I π H s va vb x y i ra rb k=>by
  cases x with
  |int a=>cases y with
   |ao b=>exact zl i ho ra rb k
   |_=>exact k.elim
  |chr a=>cases y with
   |ao b=>exact zm i ho ra rb k
   |_=>exact k.elim
  |_=>exact k.elim
theorem Ck{n:Bool}(ho:pY n op=true)(hm:behindInMarks op r=false)(hl:ax C A env nm l wl)(hr:ax C A env nm r wr):
  ax C A env nm (.Compare l [op] [r] pos) λρ H K=>wl ρ H λva H1=>wr ρ H1 λvb H2=>match va with
   |.int x=>Mine.dictOf H2 vb λks=>K (.bool (b0 n (aW x ks).isSome)) H2
   |_=>False:=
 lK (G:=λK va vb H2=>match va with
   |.int x=>Mine.dictOf H2 vb λks=>K (.bool (b0 n (aW x ks).isSome)) H2
   |_=>False) hm hl hr λK I π H s va vb x y i ra rb k=>by
  cases x with
  |int a=>exact Bh i ho ra rb k
  |_=>exact k.elim
end
def zE:Bool->Str
 |true=>"bool"
 |false=>"int"
def Cn:Bool->String
 |true=>"bool"
 |false=>"int"
section
variable {C:Cx}{I I' I₀:Im}{π π' π₀:Pi}{H:Hp}{s s' s₀:Shared}{A:Around}{env cenv:Env}{d:Nat}{nm:List Str}{ρ ρ':aE}{sc scope:Scope}{P:List Addr}{b:Bool}{tis:List Nat}{K:V->Hp->Prop}
variable {l r:Xp}{wl wr:aE->Hp->(V->Hp->Prop)->Prop}{p pos:Pos}{ws:aE->Hp->(List V->Hp->Prop)->Prop}{xs:List Xp}
theorem yN{i:Int}:ax C A env nm (.Constant (.int i) k pos) λ_ H K=>K (.int i) H:=λI π H s ρ K L i0 k0=>
 wpAny_Constant_int (.tok _ i0 (.int _ _) k0)
theorem Co{c:Nat}:ax C A env nm (.Constant (.str ⟨#[c]⟩) k pos) λ_ H K=>K (.chr c) H:=λI π H s ρ K L i0 k0=>
 Constant_str (.tok _ i0 (.chr _ _) k0)
theorem yO:ax C A env nm (.Constant .none k pos) λ_ H K=>K .none H:=λI π H s ρ K L i0 k0=>
 PyProof.Rows.Constant_none (.here i0 .none k0)
theorem Cp{b:Bool}:ax C A env nm (.Constant (.bool b) k pos) λ_ H K=>K (.bool b) H:=λI π H s ρ K L i0 k0=>
 PyProof.Rows.Constant_bool (.here i0 (.bool _) k0)
theorem Cq{i:Nat}{x:Str}(S:eE env sc)(hx:nm[i]?=some x)(hl:xw sc x=true):ax C A env nm (.Name x p) λρ H K=>match bE ρ i with
  |some v=>K v H
  |none=>False:=λI π H s ρ K L i0 k=>by
 cases h:bE ρ i with
 |none=>simp only [h]at k
 |some v=>simp only [h]at k;exact A9 L S i0 hx hl h k
theorem Io{x:Str}(ok:eF C)(S:eE env sc)(hg:jk sc x=true)(hk:C.N.gok n=true)(hn:x=C.N.gnm n):ax C A env nm (.Name x p) λ_ H K=>K (C.T.gv n) H:=λI π H s ρ K L i0 k=>by
 subst hn;obtain⟨u,h1,h2⟩:=ok.glo n hk;exact oF L S i0 hg h1 (.here i0 (h2 I π i0.kin) k)
variable (ok:eF C)(S:eE env sc)
include ok S
theorem Cr(hg:jk sc "len"=true)(hs:au l=true)(hl:ax C A env nm l wl):
  ax C A env nm (.Call (.Name "len" p) [l] [] pos) λρ H K=>wl ρ H λv H1=>aY H1 v λxs=>K (.int xs.length) H1:=
 iT (G:=λK vs H1=>match vs with
   | [v]=>aY H1 v λxs=>K (.int xs.length) H1
   |_=>False) ok S hg (id:="len") (by simp [bB]) (by simp [hs]) (dT hs hl) λK I π H s vals vs i r k=>by
  match vs,r,k with
  | [v],.cons r1 .nil,k=>exact Bg i r1 k
theorem Cs(hg:jk sc "abs"=true)(hs:au l=true)(hl:ax C A env nm l wl):
  ax C A env nm (.Call (.Name "abs" p) [l] [] pos) λρ H K=>wl ρ H λv H1=>match v with
   |.int x=>K (.int x.natAbs) H1
   |_=>False:=
 iT (G:=λK vs H1=>match vs with
   | [v]=>(match v with
   |.int x=>K (.int x.natAbs) H1
   |_=>False)
   |_=>False) ok S hg (id:="abs") (by simp [bB]) (by simp [hs]) (dT hs hl) λK I π H s vals vs i r k=>by
  match vs,r,k with
  | [v],.cons r1 .nil,k=>
   cases v with
   |int x=>exact Bm i r1 k
   |_=>exact k.elim
theorem Ct(hg:jk sc "int"=true)(hs:au l=true)(hl:ax C A env nm l wl):
  ax C A env nm (.Call (.Name "int" p) [l] [] pos) λρ H K=>wl ρ H λv H1=>match v with
   |.int x=>K (.int x) H1
   |_=>False:=
 rN (G:=λK vs H1=>match vs with
   | [v]=>(match v with
   |.int x=>K (.int x) H1
   |_=>False)
   |_=>False) ok S hg (id:="int") (by simp [bB]) (by simp [hs]) (dT hs hl) λK I π H s vals vs i r k=>by
  match vs,r,k with
  | [v],.cons r1 .nil,k=>
   cases v with
   |int x=>exact Bn i r1 k
   |_=>exact k.elim
theorem Cu(rm:dF A d)(hg:jk sc "sum"=true)(hs:au l=true)(hl:ax C A env nm l wl):
  ax C A env nm (.Call (.Name "sum" p) [l] [] pos) λρ H K=>wl ρ H λv H1=>mM v (aY H1 v λxs=>aS (oD xs) λn=>K (.int n) H1):=
 iT (G:=λK vs H1=>match vs with
   | [v]=>mM v (aY H1 v λxs=>aS (oD xs) λn=>K (.int n) H1)
   |_=>False) ok S hg (id:="sum") (by simp [bB]) (by simp [hs]) (dT hs hl) λK I π H s vals vs i r k=>by
  match vs,r,k with
  | [v],.cons r1 .nil,k=>exact Bs rm.handled i r1 (λys e=>by subst e;exact k) (oB k)
theorem Cv(hg:jk sc "list"=true)(hs:au l=true)(hl:ax C A env nm l wl):
  ax C A env nm (.Call (.Name "list" p) [l] [] pos) λρ H K=>wl ρ H λv H1=>aY H1 v λxs=>dE fr xs H1 K:=
 rN (G:=λK vs H1=>match vs with
   | [v]=>aY H1 v λxs=>dE fr xs H1 K
   |_=>False) ok S hg (id:="list") (by simp [bB]) (by simp [hs]) (dT hs hl) λK I π H s vals vs i r k=>by
  match vs,r,k with
  | [v],.cons r1 .nil,k=>exact Bt i r1 k
theorem Cw(hg:jk sc "tuple"=true)(hs:au l=true)(hl:ax C A env nm l wl):
  ax C A env nm (.Call (.Name "tuple" p) [l] [] pos) λρ H K=>wl ρ H λv H1=>aY H1 v λxs=>K (.ao xs) H1:=
 rN (G:=λK vs H1=>match vs with
   | [v]=>aY H1 v λxs=>K (.ao xs) H1
   |_=>False) ok S hg (id:="tuple") (by simp [bB]) (by simp [hs]) (dT hs hl) λK I π H s vals vs i r k=>by
  match vs,r,k with
  | [v],.cons r1 .nil,k=>exact Bu i r1 k
theorem Cy(rm:dF A d)(hg:jk sc "sorted"=true)(hs:au l=true)(hl:ax C A env nm l wl):
  ax C A env nm (.Call (.Name "sorted" p) [l] [] pos) λρ H K=>wl ρ H λv H1=>Mine.dictOf H1 v λks=>aS (mO (ks.map (·.1))) λis=>K (.ad (is.map .int)) H1:=
 iT (G:=λK vs H1=>match vs with
   | [v]=>Mine.dictOf H1 v λks=>aS (mO (ks.map (·.1))) λis=>K (.ad (is.map .int)) H1
   |_=>False) ok S hg (id:="sorted") (by simp [bB]) (by simp [hs]) (dT hs hl) λK I π H s vals vs i r k=>by
  match vs,r,k with
  | [v],.cons r1 .nil,k=>exact Bv rm.handled i r1 k
theorem Cz(hg:jk sc "divmod"=true)(hs:au l=true)(hs':au r=true)(hl:ax C A env nm l wl)(hr:ax C A env nm r wr):
  ax C A env nm (.Call (.Name "divmod" p) [l,r] [] pos) λρ H K=>wl ρ H λva H1=>wr ρ H1 λvb H2=>bS va vb λx y=>av (y≠0/\y.natAbs<1073741824) (K (.ao [.int (x.fdiv y),.int (x.fmod y)]) H2):=
 iT (G:=λK vs H2=>match vs with
   | [va,vb]=>bS va vb λx y=>av (y≠0/\y.natAbs<1073741824) (K (.ao [.int (x.fdiv y),.int (x.fmod y)]) H2)
   |_=>False) ok S hg (id:="divmod") (by simp [bB]) (by simp [hs,hs']) (rM hs hl hs' hr) λK I π H s vals vs i r k=>by
  match vs,r,k with
  | [va,vb],.cons r1 (.cons r2 .nil),k=>
   cases va with
   |int x=>cases vb with
    |int y=>exact Bo i r1 r2 k
    |_=>exact k.elim
   |_=>exact k.elim
theorem Ip(rm:dF A d)(hg:jk sc "max"=true)(hs:au l=true)(hs':au r=true)(hl:ax C A env nm l wl)(hr:ax C A env nm r wr):
  ax C A env nm (.Call (.Name "max" p) [l,r] [] pos) λρ H K=>wl ρ H λva H1=>wr ρ H1 λvb H2=>bS va vb λx y=>K (.int (max x y)) H2:=
 iT (G:=λK vs H2=>match vs with
   | [va,vb]=>bS va vb λx y=>K (.int (max x y)) H2
   |_=>False) ok S hg (id:="max") (by simp [bB]) (by simp [hs,hs']) (rM hs hl hs' hr) λK I π H s vals vs i r k=>by
  match vs,r,k with
  | [va,vb],.cons r1 (.cons r2 .nil),k=>
   cases va with
   |int x=>cases vb with
    |int y=>exact Ih rm.handled i r1 r2 k
    |_=>exact k.elim
   |_=>exact k.elim
theorem Iq(rm:dF A d)(hg:jk sc "min"=true)(hs:xs.all au=true)(h:iS C A env nm xs ws):
  ax C A env nm (.Call (.Name "min" p) xs [] pos) λρ H K=>ws ρ H λvs H1=>zk vs λx=>K (.int x) H1:=
 iT (G:=λK vs H1=>zk vs λx=>K (.int x) H1) ok S hg (id:="min") (by simp [bB]) hs h λK I π H s vals vs i r k=>by
  match vs,r,k with
  | [.int a,.int b],.cons r1 (.cons r2 .nil),k=>exact Bp rm.handled i r1 r2 k
  | [.int a,.int b,.int c],.cons r1 (.cons r2 (.cons r3 .nil)),k=>exact Bq rm.handled i r1 r2 r3 k
omit ok S in
theorem v0(hs:au l=true)(hs':au r=true): [l,r].all au=true:=by rw [List.all_cons,hs,List.all_cons,hs'];rfl
theorem CA{b:Bool}{x:Str}{q:Pos}(hg:jk sc "isinstance"=true)(hg':jk sc x=true)(hx:x=zE b)(hs:au l=true)(hl:ax C A env nm l wl):
  ax C A env nm (.Call (.Name "isinstance" p) [l,.Name x q] [] pos) λρ H K=>wl ρ H λv H1=>match v with
   |.int _=>K (.bool (!b)) H1
   |_=>False:=λI π H s ρ K L i k=>by
 refine da rfl (fN L S i hg (ok.blt ("isinstance",.builtin "isinstance") (by simp [bB])).1 (ok.blt ("isinstance",.builtin "isinstance") (by simp [bB])).2 ?_);refine jN (v0 hs rfl) ?_;refine wpAny_items_cons (PE.next (hl I π H s ρ _ L i k) λI1 π1 v y H1 s1 e i1 r k1=>?_) (cj hs);have hb:(x,Value.type (Cn b))∈bB:=by subst hx;cases b<;>simp [bB,zE,Cn]
 refine wpAny_items_cons (fN (L.ext e) S i1 hg' (ok.blt _ hb).1 (ok.blt _ hb).2 (wpAny_items_nil ?_)) (cj rfl);refine PE.lift e ?_
 cases y with
 |int m=>cases b<;>exact Br i1 r k1
 |_=>exact k1.elim
end
def xK(fr:Bool)(K:V->Hp->Prop)(H:Hp)(lo hi:Option Int):V->Prop
 |.ao xs=>K (.ao ((xs.drop (lo.elim 0 (aC xs.length))).take (hi.elim xs.length (aC xs.length)-lo.elim 0 (aC xs.length)))) H
 |x=>Mine.aY H x λxs=>dE fr ((xs.drop (lo.elim 0 (aC xs.length))).take (hi.elim xs.length (aC xs.length)-lo.elim 0 (aC xs.length))) H K
section
variable {C:Cx}{I I' I₀:Im}{π π' π₀:Pi}{H:Hp}{s s' s₀:Shared}{A:Around}{env cenv:Env}{d:Nat}{nm:List Str}{ρ ρ':aE}{sc scope:Scope}{P:List Addr}{b:Bool}{tis:List Nat}{K:V->Hp->Prop}
variable {l r:Xp}{wl wr:aE->Hp->(V->Hp->Prop)->Prop}{p pos:Pos}{ws:aE->Hp->(List V->Hp->Prop)->Prop}{xs:List Xp}
theorem xL(lo:Int):(λxs:List V=>(xs.drop ((some lo).elim 0 (aC xs.length))).take ((none:Option Int).elim xs.length (aC xs.length)-(some lo).elim 0 (aC xs.length)))=λxs=>xs.drop (aC xs.length lo):=
 funext λxs=>by
  show(xs.drop (aC xs.length lo)).take (xs.length-aC xs.length lo)=_;exact List.take_of_length_le (by rw [List.length_drop];exact Nat.le_refl _)
theorem v6{x:V}
  (i:aK C I π H s) (ra:RV C I π va x) (pl:IsPart vl lo) (pu:IsPart vu hi) (k:xK fr K H lo hi x):
  ∃T id,typeLookup (.type T) "__getitem__"=pure (some (.builtin id))/\({s with heap:=s.heap.push {cls:=.type "slice",data:=.fields #[vl,vu,.none]}}:Shared).TypeIs va T/\
   Wa C A (getItem va (.ref s.heap.objs.size)) (PE C I π s K) aH {s with heap:=s.heap.push {cls:=.type "slice",data:=.fields #[vl,vu,.none]}}:=
 Bj (fr:=fr) i ra pl pu (by cases x<;>exact k)
theorem CB(hl:ax C A env nm l wl)(hr:ax C A env nm r wr):
  ax C A env nm (.Subscript l (.Slice none (some r) none p) pos) λρ H K=>wl ρ H λva H1=>wr ρ H1 λve H2=>match va,ve with
   |.ao xs,.int i=>K (.ao (xs.take (aC xs.length i))) H2
   |va,.int i=>Mine.aY H2 va λxs=>dE fr (xs.take (aC xs.length i)) H2 K
   |_,_=>False:=λI π H s ρ K L i k=>by
 refine lz (PE.next (hl I π H s ρ _ L i k) λI1 π1 v x H1 s1 e i1 r1 k1=>?_);refine wpAny_Slice (wpAny_evalPart_none (wpAny_evalPart_some (PE.next (hr I1 π1 H1 s1 ρ _ (L.ext e) i1 k1) λI2 π2 u y H2 s2 e2 i2 r2 k2=>wpAny_evalPart_none ?_)))
 cases y with
 |int m=>
  cases r2 with|int _ t=>
  have k3:xK fr K H2 none (some m) x:=by cases x<;>exact k2
  obtain⟨T,id,h1,h2,h3⟩:=v6 i2 (e2.rv r1) (.none) (.int m t) k3;exact⟨T,id,h1,h2,wpAny_mono h3 (λ_ _ x=>x.trans (e.trans e2)) λ_ _ x=>x⟩
 |_=>cases x<;>exact k2.elim
theorem CC(hl:ax C A env nm l wl)(hr:ax C A env nm r wr):
  ax C A env nm (.Subscript l (.Slice (some r) none none p) pos) λρ H K=>wl ρ H λva H1=>wr ρ H1 λve H2=>match va,ve with
   |.ao xs,.int i=>K (.ao (xs.drop (aC xs.length i))) H2
   |va,.int i=>Mine.aY H2 va λxs=>dE fr (xs.drop (aC xs.length i)) H2 K
   |_,_=>False:=λI π H s ρ K L i k=>by
 refine lz (PE.next (hl I π H s ρ _ L i k) λI1 π1 v x H1 s1 e i1 r1 k1=>?_);refine wpAny_Slice (wpAny_evalPart_some (PE.next (hr I1 π1 H1 s1 ρ _ (L.ext e) i1 k1) λI2 π2 u y H2 s2 e2 i2 r2 k2=>wpAny_evalPart_none (wpAny_evalPart_none ?_)))
 cases y with
 |int m=>
  cases r2 with|int _ t=>
  have k3:xK fr K H2 (some m) none x:=by
   have q:∀xs:List V,(xs.drop ((some m).elim 0 (aC xs.length))).take ((none:Option Int).elim xs.length (aC xs.length)-(some m).elim 0 (aC xs.length))=xs.drop (aC xs.length m):=λxs=>congrFun (xL m) xs
   cases x<;>(unfold xK;simp only [q];exact k2)
  obtain⟨T,id,h1,h2,h3⟩:=v6 i2 (e2.rv r1) (.int m t) (.none) k3;exact⟨T,id,h1,h2,wpAny_mono h3 (λ_ _ x=>x.trans (e.trans e2)) λ_ _ x=>x⟩
 |_=>cases x<;>exact k2.elim
end
def tx:Xp->Bool
 |.UnaryOp _ _ _=>false|.BoolOp _ _ _=>false|.IfExp _ _ _ _=>false|.Compare _ _ _ _=>false
 |_=>true
section
variable {C:Cx}{I I' I₀:Im}{π π' π₀:Pi}{H:Hp}{s s' s₀:Shared}{A:Around}{env cenv:Env}{d:Nat}{nm:List Str}{ρ ρ':aE}{sc scope:Scope}{P:List Addr}{b:Bool}{tis:List Nat}{K:V->Hp->Prop}
variable {l r:Xp}{wl wr:aE->Hp->(V->Hp->Prop)->Prop}{p pos:Pos}{ws:aE->Hp->(List V->Hp->Prop)->Prop}{xs:List Xp}
theorem PB.lift{t:Sem Bool}{K:Bool->Hp->Prop}(e:bz [] I π s I' π' s')(h:Wa C A t (PB C I' π' s' K) aH s'):Wa C A t (PB C I π s K) aH s':=
 wpAny_mono h (λ_ _ x=>x.trans e) λ_ _ x=>x
theorem lM{v:V}{P:Bool->Prop}{Q:Bool->Shared->Prop}(ra:RV C I π va v)(k:gh v P)(q:∀b,v= .bool b->P b->Q b s):Wa C A (truthy va) Q aH s:=by
 cases v with
 |bool b=>exact dL ra (q b rfl k)
 |_=>exact k.elim
def uo(C:Cx)(A:Around)(env:Env)(nm:List Str)(t:Xp)(w:aE->Hp->(Bool->Hp->Prop)->Prop):Prop:=
 ∀(I:Im) (π:Pi) (H:Hp) (s:Shared) (ρ:aE) (K:Bool->Hp->Prop),LR C env nm I π ρ s->aK C I π H s->w ρ H K->
  Wa C A (isTrue t env (PySem.eval t env)) (PB C I π s K) aH s
theorem v7{K:Bool->Hp->Prop}(h:Wa C A t (PE C I π s λv H1=>gh v λb=>K b H1) aH s):
  Wa C A t (λv s1=>Wa C A (truthy v) (PB C I π s K) aH s1) aH s:=
 PE.next h λI1 π1 v x H1 s1 e i r k=>lM r k λb _ kb=>⟨I1,π1,H1,e,i,kb⟩
theorem Ir(hp:tx l=true)(hl:ax C A env nm l wl):uo C A env nm l λρ H K=>wl ρ H λv H1=>gh v λb=>K b H1:=λI π H s ρ K L i k=>
 isTrue_plain (v7 (hl I π H s ρ _ L i k)) (by cases l<;>first|rfl|cases hp)
theorem CD{op:CmpOp}(hl:ax C A env nm (.Compare l [op] [r] pos) wl):uo C A env nm (.Compare l [op] [r] pos) λρ H K=>wl ρ H λv H1=>gh v λb=>K b H1:=λI π H s ρ K L i k=>by
 have e:isTrue (.Compare l [op] [r] pos) env (PySem.eval (.Compare l [op] [r] pos) env)=(PySem.eval (.Compare l [op] [r] pos) env>>=λc=>holding [c] (truthy c)):=by
  rw [isTrue_Compare1,eval_Compare1];simp only [bind_assoc]
 rw [e];exact wpAny_bind (wpAny_mono (v7 (hl I π H s ρ _ L i k)) (λv s1 h=>wpAny_holding h) λ_ _ x=>x)
theorem CE(h:uo C A env nm l wt):uo C A env nm (.UnaryOp .Not l pos) λρ H K=>wt ρ H λb H1=>K (!b) H1:=λI π H s ρ K L i k=>
 isTrue_not (PB.next (h I π H s ρ _ L i k) λI1 π1 b H1 s1 e i1 k1=>⟨I1,π1,H1,e,i1,k1⟩)
def xM(C:Cx)(A:Around)(env:Env)(nm:List Str)(o:BoolOp)(ts:List Xp)(w:aE->Hp->(Bool->Hp->Prop)->Prop):Prop:=
 ∀(I:Im) (π:Pi) (H:Hp) (s:Shared) (ρ:aE) (pos:Pos) (K:Bool->Hp->Prop) (whole:Sem Value),LR C env nm I π ρ s->aK C I π H s->w ρ H K->
  Wa C A (isTrue (.BoolOp o ts pos) env whole) (PB C I π s K) aH s
theorem CF:xM C A env nm .And [] λ_ H K=>K true H:=λI π H s ρ pos K whole L i k=>isTrue_and_nil ⟨I,π,H,.refl,i,k⟩
theorem CG:xM C A env nm .Or [] λ_ H K=>K false H:=λI π H s ρ pos K whole L i k=>isTrue_or_nil ⟨I,π,H,.refl,i,k⟩
theorem zF(h:uo C A env nm l wt)(h':xM C A env nm .And xs wa):xM C A env nm .And (l::xs) λρ H K=>wt ρ H λb H1=>gf b (wa ρ H1 K) (K false H1):=λI π H s ρ pos K whole L i k=>
 isTrue_and (PB.next (h I π H s ρ _ L i k) λI1 π1 b H1 s1 e i1 k1=>by
  cases b with
  |true=>exact PB.lift e (h' I1 π1 H1 s1 ρ pos K whole (L.ext e) i1 (k1.t rfl))
  |false=>exact⟨I1,π1,H1,e,i1,k1.f rfl⟩)
theorem zG(h:uo C A env nm l wt)(h':xM C A env nm .Or xs wa):xM C A env nm .Or (l::xs) λρ H K=>wt ρ H λb H1=>gf b (K true H1) (wa ρ H1 K):=λI π H s ρ pos K whole L i k=>
 isTrue_or (PB.next (h I π H s ρ _ L i k) λI1 π1 b H1 s1 e i1 k1=>by
  cases b with
  |true=>exact⟨I1,π1,H1,e,i1,k1.t rfl⟩
  |false=>exact PB.lift e (h' I1 π1 H1 s1 ρ pos K whole (L.ext e) i1 (k1.f rfl)))
theorem v8{o:BoolOp}(h:xM C A env nm o xs wa):uo C A env nm (.BoolOp o xs pos) wa:=λI π H s ρ K L i k=>h I π H s ρ pos K _ L i k
theorem yP{o:BoolOp}(h:ax C A env nm l wl):ax C A env nm (.BoolOp o [l] pos) wl:=λI π H s ρ K L i k=>BoolOp_one (h I π H s ρ K L i k)
theorem CH{y:Xp}(h:ax C A env nm l wl)(h':ax C A env nm (.BoolOp .And (y::xs) pos) wr):
  ax C A env nm (.BoolOp .And (l::y::xs) pos) λρ H K=>wl ρ H λv H1=>gh v λb=>gf b (wr ρ H1 K) (K v H1):=λI π H s ρ K L i k=>
 BoolOp_and (PE.next (h I π H s ρ _ L i k) λI1 π1 v x H1 s1 e i1 r1 k1=>lM r1 k1 λb hx k2=>by
  cases b with
  |true=>exact PE.lift e (h' I1 π1 H1 s1 ρ K (L.ext e) i1 (k2.t rfl))
  |false=>exact⟨I1,π1,x,H1,e,i1,r1,k2.f rfl⟩)
theorem Iu{y:Xp}(h:ax C A env nm l wl)(h':ax C A env nm (.BoolOp .Or (y::xs) pos) wr):
  ax C A env nm (.BoolOp .Or (l::y::xs) pos) λρ H K=>wl ρ H λv H1=>gh v λb=>gf b (K v H1) (wr ρ H1 K):=λI π H s ρ K L i k=>
 BoolOp_or (PE.next (h I π H s ρ _ L i k) λI1 π1 v x H1 s1 e i1 r1 k1=>lM r1 k1 λb hx k2=>by
  cases b with
  |true=>exact⟨I1,π1,x,H1,e,i1,r1,k2.t rfl⟩
  |false=>exact PE.lift e (h' I1 π1 H1 s1 ρ K (L.ext e) i1 (k2.f rfl)))
theorem zH:lE C A env nm [] λ_ H K=>K true H:=λI π H s ρ K L i k=>wpAny_pure ⟨I,π,H,.refl,i,k⟩
end
section
variable {C:Cx}{I I' I₀:Im}{π π' π₀:Pi}{H:Hp}{s s' s₀:Shared}{A:Around}{env cenv:Env}{d:Nat}{nm:List Str}{ρ ρ':aE}{sc scope:Scope}{P:List Addr}{b:Bool}{tis:List Nat}{K:V->Hp->Prop}
variable {l r r':Xp}{wl wr wr':aE->Hp->(V->Hp->Prop)->Prop}{p pos:Pos}{ws:aE->Hp->(List V->Hp->Prop)->Prop}{xs:List Xp}
theorem nv:∀ifs:List Xp,(forIn ifs false λc (r:Bool)=>if r=true then do let ok←isTrue c env (PySem.eval c env);pure (ForInStep.yield ok)else pure (ForInStep.yield r))=(pure false:Sem Bool)
 | []=>by rw [List.forIn_nil]
 |c::cs=>by
  rw [List.forIn_cons];simp only [Bool.false_eq_true,if_false,pure_bind];exact nv cs
theorem xN(h:uo C A env nm l wt)(h':lE C A env nm xs wa):lE C A env nm (l::xs) λρ H K=>wt ρ H λb H1=>gf b (wa ρ H1 K) (K false H1):=λI π H s ρ K L i k=>by
 rw [List.forIn_cons];simp only [if_true,bind_assoc,pure_bind];refine wpAny_bind (PB.next (h I π H s ρ _ L i k) λI1 π1 b H1 s1 e i1 k1=>?_)
 cases b with
 |true=>exact PB.lift e (h' I1 π1 H1 s1 ρ K (L.ext e) i1 (k1.t rfl))
 |false=>rw [nv];exact wpAny_pure ⟨I1,π1,H1,e,i1,k1.f rfl⟩
def Ue(o p:CP)(wl wr wr':aE->Hp->(V->Hp->Prop)->Prop)(ρ:aE)(H:Hp)(K:Bool->Hp->Prop):Prop:=
 wl ρ H λva H1=>wr ρ H1 λvb H2=>bS va vb λx y=>gf (iz o x y) (wr' ρ H2 λvc H3=>bS vb vc λy z=>K (iz p y z) H3) (K false H2)
theorem eA{va vb:Value}{x y:V}{P:Int->Int->Prop}(k:bS x y P):∃m n,x= .int m/\y= .int n/\P m n:=by
 cases x with
 |int a=>cases y with
  |int b=>exact⟨a,b,rfl,rfl,k⟩
  |_=>exact k.elim
 |_=>exact k.elim
theorem zI{o q:CP}{op op':CmpOp}(ho:ls o op=true)(ho':ls q op'=true)(hm:behindInMarks op' r'=false)(hl:ax C A env nm l wl)(hr:ax C A env nm r wr)(hr':ax C A env nm r' wr'):
  ax C A env nm (.Compare l [op,op'] [r,r'] pos) λρ H K=>wl ρ H λva H1=>wr ρ H1 λvb H2=>bS va vb λx y=>
   gf (iz o x y) (wr' ρ H2 λvc H3=>bS vb vc λy z=>K (.bool (iz q y z)) H3) (K (.bool false) H2):=λI π H s ρ K L i k=>
 Compare_chain (PE.next (hl I π H s ρ _ L i k) λI1 π1 v1 x1 H1 s1 e1 i1 r1 k1=>chain_link (PE.next (hr I1 π1 H1 s1 ρ _ (L.ext e1) i1 k1) λI2 π2 v2 x2 H2 s2 e2 i2 r2 k2=>by
  obtain⟨m,n,rfl,rfl,k3⟩:=eA (va:=v1) (vb:=v2) k2;refine PE.next (pV (K:=λv H3=>v= .bool (iz o m n)/\H3=H2) i2 ho (e2.rv r1) r2 ⟨rfl,rfl⟩) λI3 π3 v3 x3 H3 s3 e3 i3 r3 k4=>?_;obtain⟨rfl,rfl⟩:=k4;refine dL r3 ?_
  cases hb:iz o m n with
  |true=>
   refine chain_last (PE.next (hr' I3 π3 H3 s3 ρ _ (((L.ext e1).ext e2).ext e3) i3 (k3.t hb)) λI4 π4 v4 x4 H4 s4 e4 i4 r4 k5=>?_);obtain⟨m',n',e5,rfl,k6⟩:=eA (va:=v2) (vb:=v4) k5
   cases e5;exact PE.lift (((e1.trans e2).trans e3).trans e4) (pV i4 ho' (e4.rv (e3.rv r2)) r4 k6)
  |false=>exact⟨I3,π3,_,H3,(e1.trans e2).trans e3,i3,hb▸r3,k3.f hb⟩)) (by exact hm)
theorem zJ{o q:CP}{op op':CmpOp}(ho:ls o op=true)(ho':ls q op'=true)(hm:behindInMarks op' r'=false)(hl:ax C A env nm l wl)(hr:ax C A env nm r wr)(hr':ax C A env nm r' wr'):
  uo C A env nm (.Compare l [op,op'] [r,r'] pos) λρ H K=>wl ρ H λva H1=>wr ρ H1 λvb H2=>bS va vb λx y=>
   gf (iz o x y) (wr' ρ H2 λvc H3=>bS vb vc λy z=>K (iz q y z) H3) (K false H2):=λI π H s ρ K L i k=>
 isTrue_chain (PE.next (hl I π H s ρ _ L i k) λI1 π1 v1 x1 H1 s1 e1 i1 r1 k1=>test_link (PE.next (hr I1 π1 H1 s1 ρ _ (L.ext e1) i1 k1) λI2 π2 v2 x2 H2 s2 e2 i2 r2 k2=>by
  obtain⟨m,n,rfl,rfl,k3⟩:=eA (va:=v1) (vb:=v2) k2;refine PE.next (pV (K:=λv H3=>v= .bool (iz o m n)/\H3=H2) i2 ho (e2.rv r1) r2 ⟨rfl,rfl⟩) λI3 π3 v3 x3 H3 s3 e3 i3 r3 k4=>?_;obtain⟨rfl,rfl⟩:=k4;refine dL r3 ?_
  cases hb:iz o m n with
  |true=>
   refine test_last (PE.next (hr' I3 π3 H3 s3 ρ _ (((L.ext e1).ext e2).ext e3) i3 (k3.t hb)) λI4 π4 v4 x4 H4 s4 e4 i4 r4 k5=>?_);obtain⟨m',n',e5,rfl,k6⟩:=eA (va:=v2) (vb:=v4) k5
   cases e5;refine PE.next (pV (K:=λv H5=>v= .bool (iz q n n')/\H5=H4) i4 ho' (e4.rv (e3.rv r2)) r4 ⟨rfl,rfl⟩) λI5 π5 v5 x5 H5 s5 e5 i5 r5 k7=>?_;obtain⟨rfl,rfl⟩:=k7;exact dL r5 ⟨I5,π5,H5,(((e1.trans e2).trans e3).trans e4).trans e5,i5,k6⟩
  |false=>exact⟨I3,π3,H3,(e1.trans e2).trans e3,i3,k3.f hb⟩)) (by exact hm)
end
section
variable {C:Cx}{I I' I₀:Im}{π π' π₀:Pi}{H:Hp}{s s' s₀:Shared}{A:Around}{env cenv:Env}{d:Nat}{nm:List Str}{ρ ρ':aE}{sc scope:Scope}{P:List Addr}{b:Bool}{tis:List Nat}{K:Fl->aE->Hp->Prop}
variable {l r r':Xp}{wl wr wr':aE->Hp->(V->Hp->Prop)->Prop}{p pos:Pos}{st:Stmt}{ss:List Stmt}
def fQ(C:Cx)(A:Around)(env:Env)(nm:List Str)(st:Stmt)(w:aE->Hp->(Fl->aE->Hp->Prop)->Prop):Prop:=
 ∀(I:Im) (π:Pi) (H:Hp) (s:Shared) (ρ:aE) (K:Fl->aE->Hp->Prop),LR C env nm I π ρ s->aK C I π H s->w ρ H K->Wa C A (exec st env) (PS C env nm I π s K) aH s
def oR(C:Cx)(A:Around)(env:Env)(nm:List Str)(ss:List Stmt)(w:aE->Hp->(Fl->aE->Hp->Prop)->Prop):Prop:=
 ∀(I:Im) (π:Pi) (H:Hp) (s:Shared) (ρ:aE) (K:Fl->aE->Hp->Prop),LR C env nm I π ρ s->aK C I π H s->w ρ H K->Wa C A (execs ss env) (PS C env nm I π s K) aH s
theorem PS.tr{f:Flow}{s'':Shared}(e:bz (bT env) I π s I' π' s')(h:PS C env nm I' π' s' K f s''):PS C env nm I π s K f s'':=
 let⟨I2,π2,H2,ρ2,fl,e2,i,L,fr,k⟩:=h
 ⟨I2,π2,H2,ρ2,fl,e.trans e2,i,L,fr,k⟩
theorem PS.lift{t:Sem Flow}(e:bz (bT env) I π s I' π' s')(h:Wa C A t (PS C env nm I' π' s' K) aH s'):Wa C A t (PS C env nm I π s K) aH s':=
 wpAny_mono h (λ_ _ x=>PS.tr e x) λ_ _ x=>x
theorem zK:oR C A env nm [] λρ H K=>K .next ρ H:=λI π H s ρ K L i k=>wpAny_execs_nil (.of .refl i L .next k)
theorem xO{w ws:aE->Hp->(Fl->aE->Hp->Prop)->Prop}(h:fQ C A env nm st w)(h':oR C A env nm ss ws):oR C A env nm (st::ss) λρ H K=>w ρ H λfl ρ1 H1=>match fl with
  |.next=>ws ρ1 H1 K
  |.brk=>K .brk ρ1 H1
  |.cont=>K .cont ρ1 H1
  |.ret v=>K (.ret v) ρ1 H1:=λI π H s ρ K L i k=>by
 refine wpAny_execs_cons (wpAny_mono (h I π H s ρ _ L i k) (λf s1 hf=>?_) λ_ _ x=>x);obtain⟨I1,π1,H1,ρ1,fl,e,i1,L1,fr,k1⟩:=hf
 cases fr with
 |next=>exact PS.lift e (h' I1 π1 H1 s1 ρ1 K L1 i1 k1)
 |brk=>exact .of e i1 L1 .brk k1
 |cont=>exact .of e i1 L1 .cont k1
 |ret r=>exact .of e i1 L1 (.ret r) k1
theorem CI:fQ C A env nm (.Break pos) λρ H K=>K .brk ρ H:=λI π H s ρ K L i k=>wpAny_Break (.of .refl i L .brk k)
theorem zL:fQ C A env nm (.Continue pos) λρ H K=>K .cont ρ H:=λI π H s ρ K L i k=>wpAny_Continue (.of .refl i L .cont k)
theorem zM:fQ C A env nm st λ_ _ _=>False:=λI π H s ρ K L i k=>k.elim
theorem CJ{w w':aE->Hp->(Fl->aE->Hp->Prop)->Prop}{body orelse:List Stmt}(ht:uo C A env nm l wt)(h:oR C A env nm body w)(h':oR C A env nm orelse w'):
  fQ C A env nm (.If l body orelse pos) λρ H K=>wt ρ H λb H1=>gf b (w ρ H1 K) (w' ρ H1 K):=λI π H s ρ K L i k=>
 wpAny_If (PB.next (ht I π H s ρ _ L i k) λI1 π1 b H1 s1 e i1 k1=>by
  cases b with
  |true=>exact PS.lift e.any (h I1 π1 H1 s1 ρ K (L.ext e) i1 (k1.t rfl))
  |false=>exact PS.lift e.any (h' I1 π1 H1 s1 ρ K (L.ext e) i1 (k1.f rfl)))
theorem CK{w:aE->Hp->(Fl->aE->Hp->Prop)->Prop}{body:List Stmt}(ht:uo C A env nm l wt)(h:oR C A env nm body w):
  fQ C A env nm (.While l body [] pos) λρ H K=>zj wt w ρ H K:=λI π H s ρ K L i k=>by
 obtain⟨n,k⟩:=k.h;refine wpAny_While (codeAny_mono (codeAny_whileLoop (R:=λr s'=>match r with|.ok f=>PS C env nm I π s K f s'|.error _=>False) (λn s'=>∃I' π' H' ρ',bz (bT env) I π s I' π' s'/\aK C I' π' H' s'/\LR C env nm I' π' ρ' s'/\iO wt w n ρ' H' K) ?_ n ⟨I,π,H,ρ,.refl,i,L,k⟩) λq s' h=>by
  rcases q with e|v
  ·exact h.elim
  ·exact h)
 rintro n s1 ⟨I1,π1,H1,ρ1,e1,i1,L1,k1⟩
 cases n with
 |zero=>exact k1.elim
 |succ n=>
  refine wpAny_mono (PB.next (Q:=λb s2=>if b then _ else _) (ht I1 π1 H1 s1 ρ1 _ L1 i1 k1) λI2 π2 b H2 s2 e2 i2 k2=>?_) (λ_ _ x=>x) λ_ _ x=>x.elim
  cases b with
  |true=>
   refine wpAny_mono (h I2 π2 H2 s2 ρ1 _ (L1.ext e2) i2 (k2.t rfl)) (λf s3 hf=>?_) λ_ _ x=>x.elim;obtain⟨I3,π3,H3,ρ3,fl,e3,i3,L3,fr,k3⟩:=hf;have e:=(e1.trans e2.any).trans e3
   cases fr with
   |next=>exact⟨n,Nat.lt_succ_self n,I3,π3,H3,ρ3,e,i3,L3,k3⟩
   |cont=>exact⟨n,Nat.lt_succ_self n,I3,π3,H3,ρ3,e,i3,L3,k3⟩
   |brk=>exact .of e i3 L3 .next k3
   |ret r=>exact .of e i3 L3 (.ret r) k3
  |false=>exact wpAny_execs_nil (.of (e1.trans e2.any) i2 (L1.ext e2) .next (k2.f rfl))
theorem CL(h:ax C A env nm l wl):fQ C A env nm (.Return (some l) pos) λρ H K=>wl ρ H λv H1=>K (.ret v) ρ H1:=λI π H s ρ K L i k=>BG L (h I π H s ρ _ L i k)
theorem zN:fQ C A env nm (.Return none pos) λρ H K=>K (.ret .none) ρ H:=λI π H s ρ K L i k=>wpAny_Return_none (.of .refl i L (.ret .none) k)
theorem Iv(hc:dG l=false)(h:ax C A env nm l wl):fQ C A env nm (.Expr l pos) λρ H K=>wl ρ H λ_ H1=>K .next ρ H1:=λI π H s ρ K L i k=>zA hc L (h I π H s ρ _ L i k)
theorem CM{i:Nat}{x:Str}(eo:cJ env sc nm false (bT env))(hx:db sc nm false i x=true)(hc:dG l=false)(h:ax C A env nm l wl):fQ C A env nm (.Assign [.Name x p] l pos) λρ H K=>wl ρ H λv H1=>K .next (ρ.set i (some v)) H1:=
 λI π H s ρ K L i0 k=>BF eo L hx hc (h I π H s ρ _ L i0 k)
theorem CN{i:Nat}{x:Str}{o:BO}{op:Operator}(eo:cJ env sc nm false (bT env))(hx:db sc nm false i x=true)(ho:lr o op=true)(h:ax C A env nm l wl):
  fQ C A env nm (.AugAssign (.Name x p) op l pos) λρ H K=>match bE ρ i with
   |some u=>wl ρ H λv H1=>bS u v λx y=>jf o x y λz=>K .next (ρ.set i (some z)) H1
   |none=>False:=λI π H s ρ K L i0 k=>by
 cases hu:bE ρ i with
 |none=>simp only [hu]at k
 |some u=>simp only [hu]at k;exact BJ eo L i0 hx ho hu (h I π H s ρ _ L i0 k)
end
section
variable {C:Cx}{I I' I₀:Im}{π π' π₀:Pi}{H:Hp}{s s' s₀:Shared}{A:Around}{env cenv:Env}{d:Nat}{nm:List Str}{ρ ρ':aE}{sc scope:Scope}{P:List Addr}{b:Bool}{tis:List Nat}{K:Fl->aE->Hp->Prop}
variable {l r r':Xp}{wl wr wr':aE->Hp->(V->Hp->Prop)->Prop}{p pos:Pos}{st:Stmt}{ss:List Stmt}
theorem CQ(ok:eF C)(hc:dG l=false)(h:ax C A env nm l wl)(h':ax C A env nm r wr):fQ C A env nm (.Assign [.Attribute r (C.N.anm f) p] l pos) λρ H K=>wl ρ H λv H1=>wr ρ H1 λva H2=>lp C.T H2 f v va λH3=>K .next ρ H3:=
 λI π H s ρ K L i0 k=>BH ok hc L (h I π H s ρ _ L i0 k) λI1 π1 v x H1 s1 e i1 L1 r1 k1=>h' I1 π1 H1 s1 ρ _ L1 i1 k1
theorem CR(hc:dG l=false)(h:ax C A env nm l wl)(h':ax C A env nm r wr)(h2:ax C A env nm r' wr'):fQ C A env nm (.Assign [.Subscript r r' p] l pos) λρ H K=>wl ρ H λv H1=>wr ρ H1 λva H2=>wr' ρ H2 λvi H3=>kl H3 vi v va λH4=>K .next ρ H4:=
 λI π H s ρ K L i0 k=>BI (K2:=λx y H2=>wr' ρ H2 λvi H3=>kl H3 vi x y λH4=>K .next ρ H4) hc L (h I π H s ρ _ L i0 k) (λI1 π1 v x H1 s1 e i1 L1 r1 k1=>h' I1 π1 H1 s1 ρ _ L1 i1 k1)
  λI1 π1 x y H1 s1 i1 L1 k1=>h2 I1 π1 H1 s1 ρ _ L1 i1 k1
theorem zO{es:List Xp}{kk:Nat}(rm:dF A d)(eo:cJ env sc nm false (bT env))(hx:dt sc nm false is es=true)(nd:is.Nodup)(hv:xJ l=true)(h:ax C A env nm l wl):
  fQ C A env nm (.Assign [.Tuple es kk p] l pos) λρ H K=>wl ρ H λv H1=>match v with
   |.ao vs=>aS (vD ρ is vs) λρ1=>K .next ρ1 H1
   |_=>False:=λI π H s ρ K L i0 k=>zB rm.handled eo L hx nd hv (h I π H s ρ _ L i0 k)
theorem CS{o:BO}{op:Operator}(ok:eF C)(ho:lr o op=true)(h:ax C A env nm l wl)(h':ax C A env nm r wr):
  fQ C A env nm (.AugAssign (.Attribute l (C.N.anm f) p) op r pos) λρ H K=>wl ρ H λva H1=>m8 C.T H1 f va λu=>wr ρ H1 λv H2=>bS u v λx y=>jf o x y λz=>lp C.T H2 f z va λH3=>K .next ρ H3:=λI π H s ρ K L i0 k=>
 wpAny_AugAssign_AttributeAny (PE.next (h I π H s ρ _ L i0 k) λI1 π1 v1 x1 H1 s1 e1 i1 r1 k1=>yM ok i1 r1 k1 λu y ru k2=>by
  have et:bz [] I1 π1 s1 I1 π1 {s1 with toks:=s1.toks+1}:=.tok _;have it:=i1.tok (s1.toks+1);refine PE.next (h' I1 π1 H1 _ ρ _ ((L.ext e1).ext et) it k2) λI2 π2 v2 x2 H2 s2 e2 i2 r2 k3=>?_;obtain⟨m,n,rfl,rfl,k4⟩:=eA (va:=u) (vb:=v2) k3;refine PE.next (rF (K:=λz H3=>H3=H2/\lp C.T H2 f z x1 λH3=>K .next ρ H3) i2 ho (e2.rv (et.rv ru)) r2 (by have:=lJ (H:=H2) k4;exact this)) λI3 π3 v3 x3 H3 s3 e3 i3 r3 k5=>?_;obtain⟨rfl,k6⟩:=k5;exact te ok i3 (e3.rv (e2.rv (et.rv r1))) r3 k6 λs4 H4 e4 i4 k7=>.of ((((e1.trans et).trans e2).trans e3).trans e4).any i4 (((((L.ext e1).ext et).ext e2).ext e3).ext e4) .next k7)
end
section
variable {C:Cx}{I I' I₀:Im}{π π' π₀:Pi}{H:Hp}{s s' s₀:Shared}{A:Around}{env cenv:Env}{d:Nat}{nm:List Str}{ρ ρ':aE}{sc scope:Scope}{P:List Addr}{b:Bool}{tis:List Nat}
variable {l r r':Xp}{wl wr wr':aE->Hp->(V->Hp->Prop)->Prop}{p q pos:Pos}{st:Stmt}{ss:List Stmt}{y:Str}{es:List Xp}{x1:Nat}
def oS(C:Cx)(A:Around)(env:Env)(nm:List Str)(iter tgt:Xp)(w:aE->Hp->(List V->(Hp->Prop)->Hp->Prop)->Prop):Prop:=
 ∀(I:Im) (π:Pi) (H:Hp) (s:Shared) (ρ:aE) (K:List V->(Hp->Prop)->Hp->Prop),LR C env nm I π ρ s->aK C I π H s->w ρ H K->
  Wa C A (PySem.eval iter env) (λv s1=>Wa C A (pyIter v) (PI C A tgt I π s K) aH s1) aH s
theorem PI.lift{K:List V->(Hp->Prop)->Hp->Prop}(e:bz [] I π s I' π' s')(h:Wa C A t (PI C A tgt I' π' s' K) aH s₀):Wa C A t (PI C A tgt I π s K) aH s₀:=
 wpAny_mono h (λ_ _ x=>x.trans e) λ_ _ x=>x
theorem CU(rm:dF A d)(hl:ax C A env nm l wl):oS C A env nm l (.Name y q) λρ H K=>wl ρ H λv H1=>pO H1 v λxs ck=>K xs ck H1:=λI π H s ρ K L i k=>
 PE.next (hl I π H s ρ _ L i k) λI1 π1 v x H1 s1 e i1 r1 k1=>PI.lift e (zr rm.handled i1 r1 k1)
section
variable (rm:dF A d)(ok:eF C)(S:eE env sc)
include rm ok S
theorem CV(hg:jk sc "range"=true)(hs:au l=true)(hl:ax C A env nm l wl):oS C A env nm (.Call (.Name "range" p) [l] [] pos) (.Name y q) λρ H K=>wl ρ H λv H1=>match v with
  |.int n=>av (0<=n/\n<=10000000) (K (t9 n) (λ_=>True) H1)
  |_=>False:=λI π H s ρ K L i k=>by
 refine da rfl (fN L S i hg (ok.blt ("range",.type "range") (by simp [bB])).1 (ok.blt ("range",.type "range") (by simp [bB])).2 ?_);refine hJ (by simp [hs]) (wpAny_items_cons (PE.next (hl I π H s ρ _ L i k) λI1 π1 v x H1 s1 e i1 r1 k1=>wpAny_items_nil ?_) (cj hs))
 cases x with
 |int n=>exact wpAny_mono (zt rm.handled i1 r1 k1.p k1.k) (λo s2 h=>PI.lift e h) λ_ _ x=>x
 |_=>exact k1.elim
theorem CW(hg:jk sc "enumerate"=true)(hs:au l=true)(hl:ax C A env nm l wl):oS C A env nm (.Call (.Name "enumerate" p) [l] [] pos) (.Tuple es x1 q) λρ H K=>wl ρ H λv H1=>pP H1 v λxs ck=>K (cZ 0 xs) ck H1:=λI π H s ρ K L i k=>by
 refine da rfl (fN L S i hg (ok.blt ("enumerate",.type "enumerate") (by simp [bB])).1 (ok.blt ("enumerate",.type "enumerate") (by simp [bB])).2 ?_);refine hJ (by simp [hs]) (wpAny_items_cons (PE.next (hl I π H s ρ _ L i k) λI1 π1 v x H1 s1 e i1 r1 k1=>wpAny_items_nil ?_) (cj hs));exact wpAny_mono (zu rm.handled i1 r1 k1) (λo s2 h=>PI.lift e h) λ_ _ x=>x
theorem CX(hg:jk sc "zip"=true)(hs:au l=true)(hs':au r=true)(hl:ax C A env nm l wl)(hr:ax C A env nm r wr):oS C A env nm (.Call (.Name "zip" p) [l,r] [] pos) (.Tuple es x1 q) λρ H K=>wl ρ H λva H1=>wr ρ H1 λvb H2=>
  lm H2 va λxs ck=>lm H2 vb λys ck'=>av (xs.length=ys.length) (K (jh xs ys) (λH'=>ck H'/\ck' H') H2):=λI π H s ρ K L i k=>by
 refine da rfl (fN L S i hg (ok.blt ("zip",.type "zip") (by simp [bB])).1 (ok.blt ("zip",.type "zip") (by simp [bB])).2 ?_);refine hJ (v0 hs hs') (wpAny_items_cons (PE.next (hl I π H s ρ _ L i k) λI1 π1 v x H1 s1 e i1 r1 k1=>wpAny_items_cons (PE.next (hr I1 π1 H1 s1 ρ _ (L.ext e) i1 k1) λI2 π2 v2 x2 H2 s2 e2 i2 r2 k2=>wpAny_items_nil ?_) (cj hs')) (cj hs));exact wpAny_mono (zv rm.handled i2 (e2.rv r1) r2 k2) (λo s2 h=>PI.lift (e.trans e2) h) λ_ _ x=>x
end
theorem zP(hA:A.handled=none)(eo:cJ env sc nm b P)(ht:lH sc nm b tg tgt=true):tt C A env nm P tgt λρ=>ec ρ tg:=by
 cases tg with
 |one i=>cases tgt<;>first|exact xG eo ht|cases ht
 |two i j=>cases tgt<;>first|exact xH hA eo (Bool.and_eq_true _ _▸ht).1|cases ht
theorem CY{w:aE->Hp->(Fl->aE->Hp->Prop)->Prop}(rm:dF A d)(eo:cJ env sc nm false (bT env))(ht:lH sc nm false tg r=true)(hf:∀x,foldedSetIterable l env x=pure x)
  (hi:oS C A env nm l r wi) (h:oR C A env nm ss w):fQ C A env nm (.For r l ss [] pos) λρ H K=>wi ρ H λxs ck H1=>ed (λρ1=>ec ρ1 tg) w ck xs ρ H1 K:=λI π H s ρ K L i k=>by
 refine wpAny_For (wpAny_mono (hi I π H s ρ _ L i k) (λv s1 h1=>wpAny_mono h1 (λit s2 h2=>?_) λ_ _ x=>x) λ_ _ x=>x) hf;obtain⟨I2,π2,H2,xs,ck,own,St,e,i2,f,W,st,hc,hz,k2⟩:=h2;exact codeAny_mono (vU (K:=K) W (zP rm.handled eo ht) h (λa ha=>(L.own a ha).1) e.any i2 (L.ext e) f st k2.h) λq s' hq=>by
  rcases q with x|v
  ·exact hq.elim
  ·exact hq
theorem CZ(rm:dF A d)(ok:gH scope env nm (oO tg))(nd:nm.Nodup)(ht:lH scope nm true tg r=true)(hf:∀x,foldedSetIterable l env x=pure x)
  (hi:oS C A env nm l r wi) (inner:∀cenv,eE cenv scope->ax C A cenv nm r' wl/\lE C A cenv nm ifs ts):ax C A env nm (.ListComp r' [⟨r,l,ifs,0⟩] scope pos) λρ H K=>wi ρ H λxs ck H1=>bY (ec ρ tg) wl ts ck xs H1 λys H2=>dE fr ys H2 K:=λI π H s ρ K L i k=>
 vW (fr:=fr) rm.handled ok nd ht hf inner i L (hi I π H s ρ _ L i k)
theorem zQ{i:Nat}{x:Str}(rm:dF A d)(eo:cJ env sc nm false (bT env))(hx:db sc nm false i x=true)(ok:gH scope env nm (oO tg))(ht:lH scope nm true tg r=true)(hf:∀x,foldedSetIterable l env x=pure x)
  (hi:oS C A env nm l r wi) (inner:∀cenv,eE cenv scope->ax C A cenv nm r' wl/\lE C A cenv nm ifs ts):fQ C A env nm (.Assign [.Name x p] (.ListComp r' [⟨r,l,ifs,0⟩] scope q) pos) λρ H K=>wi ρ H λxs ck H1=>bY (ec ρ tg) wl ts ck xs H1 λys H2=>dE fr ys H2 λv H3=>K .next (ρ.set i (some v)) H3:=λI π H s ρ K L i0 k=>
 zz (fr:=fr) eo hx rm.handled ok ht hf inner i0 L (hi I π H s ρ _ L i0 k)
end
section
variable {C:Cx}{I I' I₀:Im}{π π' π₀:Pi}{H:Hp}{s s' s₀:Shared}{A:Around}{env cenv:Env}{d:Nat}{nm:List Str}{ρ ρ':aE}{sc scope:Scope}{P:List Addr}{b:Bool}{tis:List Nat}
variable {l r r':Xp}{wl wr wr':aE->Hp->(V->Hp->Prop)->Prop}{p q pos:Pos}{st:Stmt}{ss:List Stmt}{y:Str}{es:List Xp}{x1:Nat}
theorem C0{o:BO}{op:Operator}(ho:lr o op=true)(hst:∀ov iv new,augStore r ov iv new=(do holding [new,ov,iv] (setItem ov iv new);release [new,ov,iv] [];pure .next))(h:ax C A env nm l wl)(h':ax C A env nm r wr)(h2:ax C A env nm r' wr'):
  fQ C A env nm (.AugAssign (.Subscript l r p) op r' pos) λρ H K=>wl ρ H λva H1=>wr ρ H1 λvi H2=>m7 H2 va vi λu=>wr' ρ H2 λv H3=>bS u v λx y=>jf o x y λz=>kl H3 vi z va λH4=>K .next ρ H4:=λI π H s ρ K L i0 k=>
 wpAny_AugAssign_SubscriptAny (PE.next (h I π H s ρ _ L i0 k) λI1 π1 v1 x1 H1 s1 e1 i1 r1 k1=>PE.next (h' I1 π1 H1 s1 ρ _ (L.ext e1) i1 k1) λI2 π2 v2 x2 H2 s2 e2 i2 r2 k2=>yL i2 (e2.rv r1) r2 k2 λu y t ru k3=>by
  have et:bz [] I2 π2 s2 I2 π2 {s2 with toks:=t}:=.tok _;have it:=i2.tok t;refine PE.next (h2 I2 π2 H2 _ ρ _ (((L.ext e1).ext e2).ext et) it k3) λI3 π3 v3 x3 H3 s3 e3 i3 r3 k4=>?_;obtain⟨m,n,rfl,rfl,k5⟩:=eA (va:=u) (vb:=v3) k4;refine PE.next (rF (K:=λz H4=>H4=H3/\kl H3 x2 z x1 λH4=>K .next ρ H4) i3 ho (e3.rv (et.rv ru)) r3 (by have:=lJ (H:=H3) k5;exact this)) λI4 π4 v4 x4 H4 s4 e4 i4 r4 k6=>?_;obtain⟨rfl,k7⟩:=k6;exact tf i4 (e4.rv (e3.rv (et.rv (e2.rv r1)))) (e4.rv (e3.rv (et.rv r2))) r4 k7 λs5 H5 e5 i5 k8=>.of (((((e1.trans e2).trans et).trans e3).trans e4).trans e5).any i5 ((((((L.ext e1).ext e2).ext et).ext e3).ext e4).ext e5) .next k8) hst
end
section
variable {C:Cx}{I I' I₀:Im}{π π' π₀:Pi}{H:Hp}{s s' s₀:Shared}{A:Around}{env cenv:Env}{d:Nat}{nm:List Str}{ρ ρ':aE}{sc scope:Scope}{P:List Addr}{b:Bool}{tis:List Nat}
variable {l r r':Xp}{wl wr wr':aE->Hp->(V->Hp->Prop)->Prop}{p q pos:Pos}{st:Stmt}{ss:List Stmt}{y:Str}{es:List Xp}{x1:Nat}{K:V->Hp->Prop}
theorem AR(ok:eF C)(i:aK C I π H s):(s.heap.objs.size==sysModules)=false:=by
 obtain⟨a,o,h1,h2⟩:=ok.big _ i.In;have h3:a<s.heap.objs.size:=Heap.lt_size h2;rw [beq_eq_false_iff_ne];intro e;rw [e]at h3;exact absurd h3 (Nat.not_lt.mpr (Nat.le_of_lt h1))
theorem zR(ok:eF C):ax C A env nm (.Dict [] [] pos) λ_ H K=>sZ fr [] H K:=λI π H s ρ K L i k=>by
 rw [eval_Dict_empty];refine wpAny_bind (wpAny_standAt ?_);refine wpAny_newObj_type ?_ (by show(0:Nat)<=_;exact Nat.zero_le _);obtain⟨e1,i1,f1⟩:=i.push (t:=s.toks) {cls:=.type "dict",data:=.dict #[]} rfl;obtain⟨I',π',x,H',e2,i2,r2,k2⟩:=pU (fr:=fr) e1 i1 (aX _) (Heap.DictOf.new s.heap) (AR ok i) f1 .nil (Nat.zero_le _) k;exact⟨I',π',x,H',e2,i2,r2,k2⟩
end
section
variable {C:Cx}{I I' I₀:Im}{π π' π₀:Pi}{H:Hp}{s s' s₀:Shared}{A:Around}{env cenv:Env}{d:Nat}{nm:List Str}{ρ ρ':aE}{sc scope:Scope}{P:List Addr}{b:Bool}{tis:List Nat}
variable {l r r':Xp}{wl wr wr':aE->Hp->(V->Hp->Prop)->Prop}{p q pos:Pos}{st:Stmt}{ss:List Stmt}{y:Str}{es:List Xp}{x1:Nat}{K:V->Hp->Prop}
theorem zS{m n:Int}{k1 k2:Nat}{p1 p2:Pos}(hne:m≠n)(ok:eF C)(hl:ax C A env nm l wl)(hr:ax C A env nm r wr):
  ax C A env nm (.Dict [some (.Constant (.int m) k1 p1),some (.Constant (.int n) k2 p2)] [l,r] pos) λρ H K=>wl ρ H λv H1=>wr ρ H1 λu H2=>sZ fr [(m,v),(n,u)] H2 K:=λI π H s ρ K L i k=>by
 refine wpAny_Dict_walk (knd:=intKind C.prog C.w) rfl rfl (by simp) (by simp) ?_;refine pairTrees_cons_walk (wpAny_Constant_int ?_);obtain⟨e1,i1,f1⟩:=i.push (t:=s.toks+1) {cls:=.type "dict",data:=.dict #[]} rfl;refine PE.next (hl I π H _ ρ _ (L.ext e1) i1 k) λI2 π2 v2 x2 H2 s2 e2 i2 r2 kk2=>?_;refine pairTrees_cons_walk (wpAny_Constant_int ?_);have et:bz [] I2 π2 s2 I2 π2 {s2 with toks:=s2.toks+1}:=.tok _;have it:=i2.tok (s2.toks+1);refine PE.next (hr I2 π2 H2 _ ρ _ (((L.ext e1).ext e2).ext et) it kk2) λI3 π3 v3 x3 H3 s3 e3 i3 r3 kk3=>?_;refine pairTrees_nil_walk ?_;have e13:=(e2.trans et).trans e3;obtain⟨⟨o1,ho1⟩,fr3⟩:=eW e13 ⟨⟨_,ce rfl⟩,f1⟩;have hd3:s3.heap.DictOf (intKind C.prog C.w) s.heap.objs.size []:=by
  obtain⟨o,ho,hd⟩:=Heap.dictOf_iff.mp (Heap.DictOf.new (knd:=intKind C.prog C.w) s.heap);exact Heap.dictOf_iff.mpr ⟨o,e13.stay _ _ ho f1.2 (λh=>nomatch h),hd⟩
 refine⟨[(m,v2),(n,v3)],⟨iP _ _ m _,rfl,iP _ _ n _,rfl,trivial⟩,hd3,λh' hh hs=>?_⟩;rw [merged_append_of_fresh [] _ (by simp [hne])]at hh;obtain⟨e8,i8⟩:=(e1.trans e13).skip (own:=[s.heap.objs.size]) (h':=h') (tk:=s3.toks+2) i3 (λa ha=>by rw [List.mem_singleton.mp ha];exact⟨aX _,fr3⟩) (λb o hb hg=>by rw [hs.2 b (λq=>hb (by rw [q];exact .head _))];exact hg);obtain⟨I',π',x,H',e9,i9,r9,k9⟩:=pU (fr:=fr) e8 i8 (aX _) hh (AR ok i) fr3 (.cons (e3.rv (et.rv r2)) (.cons r3 .nil)) (by simp) kk3;exact⟨I',π',x,H',e9,i9,r9,k9⟩
end
structure rO where
 N:Nm
 T:Tb
 sc:Scope
 nm:List Str
 top:Bool
def ty(B:rO)(scope:Scope)(tis:List Nat):Bool:=
 scope.kind== .function&&scope.names.all (λx=> !(x.2== .cell))&&decide ((scope.names.map (·.1)).Nodup)&&
 scope.names.all (λx=> !(x.2== .free)||(B.nm.contains x.1&&B.sc.names.lookup x.1==some .cell))&&
 B.nm.zipIdx.all λx=> !(scope.names.lookup x.1==some .local)||tis.contains x.2
def HO(x y:Str):Bool:=x==y
def gz(B:rO)(x n:Str):Bool:=x==n&&jk B.sc n
set_option hygiene false in
local macro_rules | `(tactic| fail "b") => `(tactic| simp only [gz, Bool.and_eq_true, beq_iff_eq, decide_eq_true_eq, Bool.not_eq_true', beq_eq_false_iff_ne, ne_eq, Option.isNone_iff_eq_none, List.all_eq_true] at h)
def yQ:Xp->Bool
 |.Constant .none _ _=>true
 |_=>false
def nw:Xp->Bool
 |.Constant (.int 0) _ _=>true
 |_=>false
def oT:Xp->Bool
 |.Set .. =>false
 |_=>true
def C1:Ex->Bool
 |.cmp .. =>true|.eqc .. =>true|.eqb .. =>true|.eqd .. =>true|.isn .. =>true|.inT .. =>true|.inD .. =>true
 |_=>false
set_option maxHeartbeats 4000000 in
mutual
def aO(B:rO):Ex->Xp->Bool
 |.ac i,.Name x _=>B.nm[i]?==some x&&xw B.sc x
 |.gl n,.Name x _=>jk B.sc x&&B.N.gok n&&x==B.N.gnm n
 |.int i,.Constant (.int j) _ _=>i==j
 |.chr c,.Constant (.str x) _ _=>x==⟨#[c]⟩
 |.non,.Constant .none _ _=>true
 |.boo b,.Constant (.bool c) _ _=>b==c
 |.ao es,.Tuple xs _ _=>decide (xs.length<=1000)&&dZ B es xs
 |.ad _ es,.List xs _=>decide (xs.length<=1000)&&dZ B es xs
 |.dic _ [] .nil,.Dict [] [] _=>true
 |.dic _ [m,n] (.cons a (.cons b .nil)),.Dict [some (.Constant (.int m') _ _),some (.Constant (.int n') _ _)] [x,y] _=>m==m'&&n==n'&& !(m==n)&&aO B a x&&aO B b y
 |.bin o a b,.BinOp x op y _=>lr o op&&aO B a x&&aO B b y
 |.cat _ a b,.BinOp x .Add y _=>aO B a x&&aO B b y
 |.tct a b,.BinOp x .Add y _=>aO B a x&&aO B b y
 |.neg a,.UnaryOp .USub x _=>aO B a x
 |.nt a,.UnaryOp .Not x _=>aO B a x
 |.cmp o a b,.Compare x [op] [y] _=>ls o op&& !behindInMarks op y&&aO B a x&&aO B b y
 |.eqc n a b,.Compare x [op] [y] _=>oG n op&& !behindInMarks op y&&aO B a x&&aO B b y
 |.eqb n a b,.Compare x [op] [y] _=>oG n op&& !behindInMarks op y&&aO B a x&&aO B b y
 |.eqd n a b,.Compare x [op] [y] _=>oG n op&& !behindInMarks op y&&aO B a x&&aO B b y
 |.isn n a,.Compare x [op] [y] _=>Ch n op&& !behindInMarks op y&&aO B a x&&yQ y
 |.inT n a b,.Compare x [op] [y] _=>pY n op&& !behindInMarks op y&&aO B a x&&aO B b y
 |.inD n a b,.Compare x [op] [y] _=>pY n op&& !behindInMarks op y&&aO B a x&&aO B b y
 |.cmp2 o q a b c,.Compare x [op,op'] [y,z] _=>ls o op&&ls q op'&& !behindInMarks op' z&&aO B a x&&aO B b y&&aO B c z
 |.and es,.BoolOp .And xs _=>dZ B es xs
 |.or es,.BoolOp .Or xs _=>dZ B es xs
 |.ite c a b,.IfExp t x y _=>mQ B c t&&aO B a x&&aO B b y
 |.am a f,.Attribute x n _=>n==B.N.anm f&&bl x&&aO B a x
 |.idx a i,.Subscript x y _=>aO B a x&&aO B i y
 |.slt _ a e,.Subscript x (.Slice none (some y) none _) _=>aO B a x&&aO B e y
 |.slf _ a e,.Subscript x (.Slice (some y) none none _) _=>aO B a x&&aO B e y
 |.fn f es,.Call (.Name x _) xs [] _=>jk B.sc x&&x==B.N.fnm f&& !(x==Str.empty)&&(B.T.fn f).isSome&&xs.all au&&dZ B es xs
 |.new c es,.Call (.Name x _) xs [] _=>jk B.sc x&&x==B.N.cnm c&&(B.T.cl c).isSome&&(B.T.fn (1000+c)).isNone&&xs.all au&&dZ B es xs
 |.mth a m es,.Call (.Attribute o n ap) xs [] p=>n==B.N.mnm m&&bl o&&xs.all au&&decide (xs.length<30)&&(ap.endLine==p.line)&&aO B a o&&dZ B es xs
 |.len a,.Call (.Name n _) [x] [] _=>gz B n "len"&&au x&&aO B a x
 |.abs a,.Call (.Name n _) [x] [] _=>gz B n "abs"&&au x&&aO B a x
 |.toI a,.Call (.Name n _) [x] [] _=>gz B n "int"&&au x&&aO B a x
 |.sum a,.Call (.Name n _) [x] [] _=>gz B n "sum"&&au x&&aO B a x
 |.toL _ a,.Call (.Name n _) [x] [] _=>gz B n "list"&&au x&&aO B a x
 |.toT a,.Call (.Name n _) [x] [] _=>gz B n "tuple"&&au x&&aO B a x
 |.srt a,.Call (.Name n _) [x] [] _=>gz B n "sorted"&&au x&&aO B a x
 |.dvm a b,.Call (.Name n _) [x,y] [] _=>gz B n "divmod"&&au x&&au y&&aO B a x&&aO B b y
 |.mx a b,.Call (.Name n _) [x,y] [] _=>gz B n "max"&&au x&&au y&&aO B a x&&aO B b y
 |.mn es,.Call (.Name n _) xs [] _=>gz B n "min"&&xs.all au&&dZ B es xs
 |.isI b a,.Call (.Name n _) [x,.Name t _] [] _=>gz B n "isinstance"&&jk B.sc t&&t==zE b&&au x&&aO B a x
 |.app a e,.Call (.Attribute o n ap) [x] [] p=>n=="append"&&bl o&&au x&&(ap.endLine==p.line)&&aO B a o&&aO B e x
 |.ext a e,.Call (.Attribute o n ap) [x] [] p=>n=="extend"&&bl o&&au x&&(ap.endLine==p.line)&&aO B a o&&aO B e x
 |.pop a,.Call (.Attribute o n ap) [x] [] p=>n=="pop"&&bl o&&nw x&&(ap.endLine==p.line)&&aO B a o
 |.an a e,.Call (.Attribute o n ap) [y,x] [] p=>n=="insert"&&bl o&&nw y&&au x&&(ap.endLine==p.line)&&aO B a o&&aO B e x
 |.dgt a e,.Call (.Attribute o n ap) [x] [] p=>n=="get"&&bl o&&au x&&(ap.endLine==p.line)&&aO B a o&&aO B e x
 |.cpr _ elt tg it cond,.ListComp x [⟨t,l,ifs,0⟩] scope _=>B.top&&ty B scope (oO tg)&&lH scope B.nm true tg t&&oT l&&uq B it l t&&
   aO {B with sc:=scope,top:=false} elt x&&fA {B with sc:=scope,top:=false} cond ifs
 |_,_=>false
def dZ(B:rO):rC->List Xp->Bool
 |.nil,[]=>true
 |.cons e es,x::xs=>au x&&aO B e x&&dZ B es xs
 |_,_=>false
def mQ(B:rO):Cd->Xp->Bool
 |.ex (.cmp2 o q a b c),.Compare x [op,op'] [y,z] _=>ls o op&&ls q op'&& !behindInMarks op' z&&aO B a x&&aO B b y&&aO B c z
 |.ex e,x=>(C1 e||tx x)&&aO B e x
 |.nt c,.UnaryOp .Not x _=>mQ B c x
 |.and cs,.BoolOp .And xs _=>fA B cs xs
 |.or cs,.BoolOp .Or xs _=>fA B cs xs
 |_,_=>false
def fA(B:rO):xo->List Xp->Bool
 |.nil,[]=>true
 |.cons c cs,x::xs=>mQ B c x&&fA B cs xs
 |_,_=>false
def uq(B:rO):It->Xp->Xp->Bool
 |.seq e,x,.Name _ _=>aO B e x
 |.rng e,.Call (.Name n _) [x] [] _,.Name _ _=>gz B n "range"&&au x&&aO B e x
 |.enm e,.Call (.Name n _) [x] [] _,.Tuple _ _ _=>gz B n "enumerate"&&au x&&aO B e x
 |.zip a b,.Call (.Name n _) [x,y] [] _,.Tuple _ _ _=>gz B n "zip"&&au x&&au y&&aO B a x&&aO B b y
 |_,_,_=>false
end
def tz:Xp->Bool
 |.Slice .. =>false
 |_=>true
set_option maxHeartbeats 4000000 in
mutual
def xP(B:rO):St->Stmt->Bool
 |.asg i (.cpr _ elt tg it cond),.Assign [.Name y _] (.ListComp x [⟨t,l,ifs,0⟩] scope _) _=>db B.sc B.nm false i y&&ty B scope (oO tg)&&lH scope B.nm true tg t&&oT l&&uq B it l t&&
   aO {B with sc:=scope,top:=false} elt x&&fA {B with sc:=scope,top:=false} cond ifs
 |.asg i e,.Assign [.Name x _] v _=>db B.sc B.nm false i x&& !dG v&&aO B e v
 |.asgT is e,.Assign [.Tuple es _ _] v _=>dt B.sc B.nm false is es&&decide (is.Nodup)&&xJ v&&aO B e v
 |.sAt a f e,.Assign [.Attribute x n _] v _=>n==B.N.anm f&& !dG v&&aO B e v&&aO B a x
 |.sIx a i e,.Assign [.Subscript x y _] v _=> !dG v&&aO B e v&&aO B a x&&aO B i y
 |.aug i o e,.AugAssign (.Name x _) op v _=>db B.sc B.nm false i x&&lr o op&&aO B e v
 |.aAt a f o e,.AugAssign (.Attribute x n _) op v _=>n==B.N.anm f&&lr o op&&aO B a x&&aO B e v
 |.aIx a i o e,.AugAssign (.Subscript x y _) op v _=>lr o op&&tz y&&aO B a x&&aO B i y&&aO B e v
 |.ex e,.Expr v _=> !dG v&&aO B e v
 |.ite c t f,.If x bs os _=>mQ B c x&&iC B t bs&&iC B f os
 |.whl c b,.While x bs [] _=>mQ B c x&&iC B b bs
 |.for tg it b,.For t l bs [] _=>lH B.sc B.nm false tg t&&oT l&&uq B it l t&&iC B b bs
 |.ret .non,.Return none _=>true
 |.ret e,.Return (some x) _=>aO B e x
 |.brk,.Break _=>true
 |.cont,.Continue _=>true
 |.dead,_=>true
 |_,_=>false
def iC(B:rO):aU->List Stmt->Bool
 |.nil,[]=>true
 |.cons s r,x::xs=>xP B s x&&iC B r xs
 |_,_=>false
end
section
variable {C:Cx}{A:Around}{env:Env}{d:Nat}{nm:List Str}{sc:Scope}
structure de(C:Cx)(A:Around)(env:Env)(d:Nat)(B:rO):Prop where
 N:B.N=C.N
 T:B.T=C.T
 ok:eF C
 cok:fP C d
 rm:dF A d
 S:eE env B.sc
 top:B.top=true->cJ env B.sc B.nm false (bT env)
theorem lN{l:Xp}(h:oT l=true)(x:Value):foldedSetIterable l env x=pure x:=by
 cases l<;>first|rfl|cases h
theorem qd{B:rO}{tis:List Nat}(eo:cJ env B.sc B.nm false (bT env))(h:ty B scope tis=true):gH scope env B.nm tis:=by
 unfold ty at h;simp only [Bool.and_eq_true,List.all_eq_true,decide_eq_true_eq,beq_iff_eq]at h;obtain⟨⟨⟨⟨h1,h2⟩,h3⟩,h4⟩,h5⟩:=h;refine⟨h1,λx hx e=>?_,h3,λx hx=>?_,λx hx i hi=>?_⟩
 ·have:=h2 x hx;rw [e]at this;exact absurd this (by decide)
 ·have:=h4 (x,.free) hx;have h6:(B.nm.contains x&&B.sc.names.lookup x==some .cell)=true:=by simpa using this
  rw [Bool.and_eq_true,beq_iff_eq]at h6;refine⟨List.contains_iff_mem.mp h6.1,?_⟩;have hS:=eo.sc x;rw [h6.2]at hS;rcases hS with hS|hS
  ·exact hS
  ·exact absurd hS (eo.free x)
 ·have h6:=h5 (x,i) (by rw [List.mem_zipIdx_iff_getElem?];exact hi);simp only [hx,beq_self_eq_true,Bool.not_true,Bool.false_or]at h6;exact List.contains_iff_mem.mp h6
end
section
variable {C:Cx}{A:Around}{env:Env}{d:Nat}{nm:List Str}{sc:Scope}{B:rO}{n:Nat}
theorem de.inner(bk:de C A env d B){cenv:Env}(sk:eE cenv scope):de C A cenv d {B with sc:=scope,top:=false}:=
 ⟨bk.N,bk.T,bk.ok,bk.cok,bk.rm,sk,λh=>absurd h Bool.false_ne_true⟩
theorem xQ{x:Xp}(h:yQ x=true):ax C A env nm x λ_ H K=>K .none H:=by
 cases x<;>first|exact absurd h Bool.false_ne_true|skip
 rename_i c k p
 cases c<;>first|exact absurd h Bool.false_ne_true|exact yO
theorem la{x:Xp}(h:nw x=true):au x=true/\ax C A env nm x λ_ H K=>K (.int 0) H:=by
 cases x<;>first|exact absurd h Bool.false_ne_true|skip
 rename_i c k p
 cases c<;>first|exact absurd h Bool.false_ne_true|skip
 rename_i i;have hi:i=0:=by
  unfold nw at h;split at h
  ·rename_i e;injection e with e1;injection e1
  ·cases h
 subst hi;exact⟨rfl,yN⟩
theorem ax.mono{x:Xp}{w:aE->Hp->(V->Hp->Prop)->Prop}(h:ax C A env nm x w)(m:∀ρ H K,w' ρ H K->w ρ H K):ax C A env nm x w':=λI π H s ρ K L i k=>h I π H s ρ K L i (m _ _ _ k)
def qe(C:Cx)(A:Around)(d n:Nat):Prop:=∀B env,de C A env d B->∀e x,sizeOf e<n->aO B e x=true->ax C A env B.nm x λρ H K=>bI C.T (aG C.T d) e ρ H K
def tA(C:Cx)(A:Around)(d n:Nat):Prop:=∀B env,de C A env d B->∀e x,sizeOf e<n->dZ B e x=true->iS C A env B.nm x λρ H K=>oE C.T (aG C.T d) e ρ H K
def xR(C:Cx)(A:Around)(d n:Nat):Prop:=∀B env,de C A env d B->∀e x pos,sizeOf e<n->dZ B e x=true->ax C A env B.nm (.BoolOp .And x pos) λρ H K=>rE C.T (aG C.T d) e ρ H K
def xS(C:Cx)(A:Around)(d n:Nat):Prop:=∀B env,de C A env d B->∀e x pos,sizeOf e<n->dZ B e x=true->ax C A env B.nm (.BoolOp .Or x pos) λρ H K=>vC C.T (aG C.T d) e ρ H K
def rP(C:Cx)(A:Around)(d n:Nat):Prop:=∀B env,de C A env d B->∀c x,sizeOf c<n->mQ B c x=true->uo C A env B.nm x λρ H K=>vw C.T (aG C.T d) c ρ H K
def tB(C:Cx)(A:Around)(d n:Nat):Prop:=∀B env,de C A env d B->∀cs xs,sizeOf cs<n->fA B cs xs=true->lE C A env B.nm xs λρ H K=>cm C.T (aG C.T d) cs ρ H K
def tC(C:Cx)(A:Around)(d n:Nat):Prop:=∀B env,de C A env d B->∀cs xs,sizeOf cs<n->fA B cs xs=true->xM C A env B.nm .And xs λρ H K=>cm C.T (aG C.T d) cs ρ H K
def tD(C:Cx)(A:Around)(d n:Nat):Prop:=∀B env,de C A env d B->∀cs xs,sizeOf cs<n->fA B cs xs=true->xM C A env B.nm .Or xs λρ H K=>vB C.T (aG C.T d) cs ρ H K
def zT(C:Cx)(A:Around)(d n:Nat):Prop:=∀B env,de C A env d B->∀it l t,sizeOf it<n->uq B it l t=true->oS C A env B.nm l t λρ H K=>HL C.T (aG C.T d) it ρ H K
theorem zU{o x:Xp}(hb:bl o=true)(hz:nw x=true)(hp:(apos.endLine==pos.line)=true)(ho:ax C A env nm o wo):
  ax C A env nm (.Call (.Attribute o "pop" apos) [x] [] pos) λρ H K=>wo ρ H λva H1=>dY H1 va (cY H1 va λr xs=>match xs with
   |x::xs=>K x (H1.set r (.ad xs))
   | []=>False):=
 B8 (wx:=λ_ _ _=>False) hb (la (C:=C) (A:=A) (env:=env) (nm:=nm) hz).1 hp ho (la hz).2
theorem zV{o y x:Xp}(hb:bl o=true)(hz:nw y=true)(hs:au x=true)(hp:(apos.endLine==pos.line)=true)(ho:ax C A env nm o wo)
  (h:ax C A env nm x wx):
  ax C A env nm (.Call (.Attribute o "insert" apos) [y,x] [] pos) λρ H K=>wo ρ H λva H1=>dY H1 va (wx ρ H1 λv H2=>cY H2 va λr xs=>av (sizeOk (xs.length+1)) (K .none (H2.set r (.ad (v::xs))))):=
 B9 hb hs (la (C:=C) (A:=A) (env:=env) (nm:=nm) hz).1 hp ho (la hz).2 h
set_option linter.unusedSimpArgs false in
set_option maxHeartbeats 40000000 in
theorem ur(ihE:qe C A d n)(ihEs:tA C A d n)(ihA:xR C A d n)(ihO:xS C A d n)(ihT:rP C A d n)(ihTs:tB C A d n)(ihI:zT C A d n):qe C A d (n+1):=by
 intro B env bk e x hs h;obtain⟨N,T,sc,nm,top⟩:=B;obtain rfl:N=C.N:=bk.N;obtain rfl:T=C.T:=bk.T;unfold aO at h;split at h
 case h_1=>
  try fail "b"
  exact Cq bk.S h.1 h.2
 case h_2=>
  try fail "b"
  exact Io bk.ok bk.S h.1.1 h.1.2 h.2
 case h_3=>
  try fail "b"
  exact(by subst h;exact yN)
 case h_4=>
  try fail "b"
  exact(by subst h;exact Co)
 case h_5=>
  try fail "b"
  exact yO
 case h_6=>
  try fail "b"
  exact(by subst h;exact Cp)
 case h_7=>
  try fail "b"
  exact BV h.1 (ihEs _ env bk _ _ (by simp at hs;omega) h.2)
 case h_8=>
  try fail "b"
  exact BW h.1 (ihEs _ env bk _ _ (by simp at hs;omega) h.2)
 case h_9=>
  try fail "b"
  exact zR bk.ok
 case h_10=>
  try fail "b"
  obtain⟨⟨⟨⟨rfl,rfl⟩,hn⟩,h1⟩,h2⟩:=h;exact zS hn bk.ok (ihE _ env bk _ _ (by simp at hs;omega) h1) (ihE _ env bk _ _ (by simp at hs;omega) h2)
 case h_11=>
  try fail "b"
  exact BK h.1.1 (ihE _ env bk _ _ (by simp at hs;omega) h.1.2) (ihE _ env bk _ _ (by simp at hs;omega) h.2)
 case h_12=>
  try fail "b"
  exact BL (ihE _ env bk _ _ (by simp at hs;omega) h.1) (ihE _ env bk _ _ (by simp at hs;omega) h.2)
 case h_13=>
  try fail "b"
  exact BM (ihE _ env bk _ _ (by simp at hs;omega) h.1) (ihE _ env bk _ _ (by simp at hs;omega) h.2)
 case h_14=>
  try fail "b"
  exact BN (ihE _ env bk _ _ (by simp at hs;omega) h)
 case h_15=>
  try fail "b"
  exact BP (ihE _ env bk _ _ (by simp at hs;omega) h)
 case h_16=>
  try fail "b"
  exact zD h.1.1.1 h.1.1.2 (ihE _ env bk _ _ (by simp at hs;omega) h.1.2) (ihE _ env bk _ _ (by simp at hs;omega) h.2)
 case h_17=>
  try fail "b"
  exact Cc h.1.1.1 h.1.1.2 (ihE _ env bk _ _ (by simp at hs;omega) h.1.2) (ihE _ env bk _ _ (by simp at hs;omega) h.2)
 case h_18=>
  try fail "b"
  exact Ce h.1.1.1 h.1.1.2 (ihE _ env bk _ _ (by simp at hs;omega) h.1.2) (ihE _ env bk _ _ (by simp at hs;omega) h.2)
 case h_19=>
  try fail "b"
  exact Cg bk.rm h.1.1.1 h.1.1.2 (ihE _ env bk _ _ (by simp at hs;omega) h.1.2) (ihE _ env bk _ _ (by simp at hs;omega) h.2)
 case h_20=>
  try fail "b"
  exact Ci h.1.1.1 h.1.1.2 (ihE _ env bk _ _ (by simp at hs;omega) h.1.2) (xQ h.2)
 case h_21=>
  try fail "b"
  exact Cj h.1.1.1 h.1.1.2 (ihE _ env bk _ _ (by simp at hs;omega) h.1.2) (ihE _ env bk _ _ (by simp at hs;omega) h.2)
 case h_22=>
  try fail "b"
  exact Ck h.1.1.1 h.1.1.2 (ihE _ env bk _ _ (by simp at hs;omega) h.1.2) (ihE _ env bk _ _ (by simp at hs;omega) h.2)
 case h_23=>
  try fail "b"
  exact zI h.1.1.1.1.1 h.1.1.1.1.2 h.1.1.1.2 (ihE _ env bk _ _ (by simp at hs;omega) h.1.1.2) (ihE _ env bk _ _ (by simp at hs;omega) h.1.2) (ihE _ env bk _ _ (by simp at hs;omega) h.2)
 case h_24=>
  try fail "b"
  exact ihA _ env bk _ _ _ (by simp at hs;omega) h
 case h_25=>
  try fail "b"
  exact ihO _ env bk _ _ _ (by simp at hs;omega) h
 case h_26=>
  try fail "b"
  exact BU (ihT _ env bk _ _ (by simp at hs;omega) h.1.1) (ihE _ env bk _ _ (by simp at hs;omega) h.1.2) (ihE _ env bk _ _ (by simp at hs;omega) h.2)
 case h_27=>
  try fail "b"
  exact(by obtain⟨⟨rfl,h1⟩,h2⟩:=h;exact BQ bk.ok h1 (ihE _ env bk _ _ (by simp at hs;omega) h2))
 case h_28=>
  try fail "b"
  exact BR (ihE _ env bk _ _ (by simp at hs;omega) h.1) (ihE _ env bk _ _ (by simp at hs;omega) h.2)
 case h_29=>
  try fail "b"
  exact CB (ihE _ env bk _ _ (by simp at hs;omega) h.1) (ihE _ env bk _ _ (by simp at hs;omega) h.2)
 case h_30=>
  try fail "b"
  exact CC (ihE _ env bk _ _ (by simp at hs;omega) h.1) (ihE _ env bk _ _ (by simp at hs;omega) h.2)
 case h_31=>
  try fail "b"
  exact Ii bk.ok bk.cok bk.rm bk.S h.1.1.1.1.1 h.1.1.1.1.2 h.1.1.1.2 h.1.1.2 (List.all_eq_true.mpr h.1.2) (ihEs _ env bk _ _ (by simp at hs;omega) h.2)
 case h_32=>
  try fail "b"
  exact BX bk.ok bk.cok bk.rm bk.S h.1.1.1.1.1 h.1.1.1.1.2 h.1.1.1.2 h.1.1.2 (List.all_eq_true.mpr h.1.2) (ihEs _ env bk _ _ (by simp at hs;omega) h.2)
 case h_33=>
  try fail "b"
  exact BY bk.ok bk.cok bk.rm h.1.1.1.1.1.1 h.1.1.1.1.1.2 (List.all_eq_true.mpr h.1.1.1.1.2) h.1.1.1.2 (beq_iff_eq.mpr h.1.1.2) (ihE _ env bk _ _ (by simp at hs;omega) h.1.2) (ihEs _ env bk _ _ (by simp at hs;omega) h.2)
 case h_34=>
  try fail "b"
  exact(by obtain⟨⟨⟨rfl,hg⟩,h1⟩,h2⟩:=h;exact Cr bk.ok bk.S hg h1 (ihE _ env bk _ _ (by simp at hs;omega) h2))
 case h_35=>
  try fail "b"
  exact(by obtain⟨⟨⟨rfl,hg⟩,h1⟩,h2⟩:=h;exact Cs bk.ok bk.S hg h1 (ihE _ env bk _ _ (by simp at hs;omega) h2))
 case h_36=>
  try fail "b"
  exact(by obtain⟨⟨⟨rfl,hg⟩,h1⟩,h2⟩:=h;exact Ct bk.ok bk.S hg h1 (ihE _ env bk _ _ (by simp at hs;omega) h2))
 case h_37=>
  try fail "b"
  exact(by obtain⟨⟨⟨rfl,hg⟩,h1⟩,h2⟩:=h;exact Cu bk.ok bk.S bk.rm hg h1 (ihE _ env bk _ _ (by simp at hs;omega) h2))
 case h_38=>
  try fail "b"
  exact(by obtain⟨⟨⟨rfl,hg⟩,h1⟩,h2⟩:=h;exact Cv bk.ok bk.S hg h1 (ihE _ env bk _ _ (by simp at hs;omega) h2))
 case h_39=>
  try fail "b"
  exact(by obtain⟨⟨⟨rfl,hg⟩,h1⟩,h2⟩:=h;exact Cw bk.ok bk.S hg h1 (ihE _ env bk _ _ (by simp at hs;omega) h2))
 case h_40=>
  try fail "b"
  exact(by obtain⟨⟨⟨rfl,hg⟩,h1⟩,h2⟩:=h;exact Cy bk.ok bk.S bk.rm hg h1 (ihE _ env bk _ _ (by simp at hs;omega) h2))
 case h_41=>
  try fail "b"
  exact(by obtain⟨⟨⟨⟨⟨rfl,hg⟩,h1⟩,h2⟩,h3⟩,h4⟩:=h;exact Cz bk.ok bk.S hg h1 h2 (ihE _ env bk _ _ (by simp at hs;omega) h3) (ihE _ env bk _ _ (by simp at hs;omega) h4))
 case h_42=>
  try fail "b"
  exact(by obtain⟨⟨⟨⟨⟨rfl,hg⟩,h1⟩,h2⟩,h3⟩,h4⟩:=h;exact Ip bk.ok bk.S bk.rm hg h1 h2 (ihE _ env bk _ _ (by simp at hs;omega) h3) (ihE _ env bk _ _ (by simp at hs;omega) h4))
 case h_43=>
  try fail "b"
  exact(by obtain⟨⟨⟨rfl,hg⟩,h1⟩,h2⟩:=h;exact Iq bk.ok bk.S bk.rm hg (List.all_eq_true.mpr h1) (ihEs _ env bk _ _ (by simp at hs;omega) h2))
 case h_44=>
  try fail "b"
  exact(by obtain⟨⟨⟨⟨⟨rfl,hg⟩,h0⟩,h1⟩,h2⟩,h3⟩:=h;exact CA bk.ok bk.S hg h0 h1 h2 (ihE _ env bk _ _ (by simp at hs;omega) h3))
 case h_45=>
  try fail "b"
  exact(by obtain⟨⟨⟨⟨⟨rfl,h1⟩,h2⟩,h3⟩,h4⟩,h5⟩:=h;exact B0 h1 h2 (beq_iff_eq.mpr h3) (ihE _ env bk _ _ (by simp at hs;omega) h4) (ihE _ env bk _ _ (by simp at hs;omega) h5))
 case h_46=>
  try fail "b"
  exact(by obtain⟨⟨⟨⟨⟨rfl,h1⟩,h2⟩,h3⟩,h4⟩,h5⟩:=h;exact B7 h1 h2 (beq_iff_eq.mpr h3) (ihE _ env bk _ _ (by simp at hs;omega) h4) (ihE _ env bk _ _ (by simp at hs;omega) h5))
 case h_47=>
  try fail "b"
  exact(by obtain⟨⟨⟨⟨rfl,h1⟩,h2⟩,h3⟩,h4⟩:=h;exact zU h1 h2 (beq_iff_eq.mpr h3) (ihE _ env bk _ _ (by simp at hs;omega) h4))
 case h_48=>
  try fail "b"
  exact(by obtain⟨⟨⟨⟨⟨⟨rfl,h1⟩,h2⟩,h3⟩,h4⟩,h5⟩,h6⟩:=h;exact zV h1 h2 h3 (beq_iff_eq.mpr h4) (ihE _ env bk _ _ (by simp at hs;omega) h5) (ihE _ env bk _ _ (by simp at hs;omega) h6))
 case h_49=>
  try fail "b"
  exact(by obtain⟨⟨⟨⟨⟨rfl,h1⟩,h2⟩,h3⟩,h4⟩,h5⟩:=h;exact Cb h1 h2 (beq_iff_eq.mpr h3) (ihE _ env bk _ _ (by simp at hs;omega) h4) (ihE _ env bk _ _ (by simp at hs;omega) h5))
 case h_50=>
  try fail "b"
  exact CZ bk.rm (qd (bk.top h.1.1.1.1.1.1) h.1.1.1.1.1.2) (bk.top h.1.1.1.1.1.1).nd h.1.1.1.1.2 (λx=>lN h.1.1.1.2 x) (ihI _ env bk _ _ _ (by simp at hs;omega) h.1.1.2) λcenv sk=>⟨ihE _ cenv (bk.inner sk) _ _ (by simp at hs;omega) h.1.2,ihTs _ cenv (bk.inner sk) _ _ (by simp at hs;omega) h.2⟩
 case h_51=>cases h
end
section
variable {C:Cx}{A:Around}{env:Env}{d:Nat}{nm:List Str}{sc:Scope}{B:rO}{n:Nat}
theorem gI{e:Ex}{es:rC}{x:List Xp}(h:dZ B (.cons e es) x=true):∃y ys,x=y::ys/\au y=true/\aO B e y=true/\dZ B es ys=true:=by
 cases x with
 |nil=>exact absurd h Bool.false_ne_true
 |cons y ys=>
  have h':(au y&&aO B e y&&dZ B es ys)=true:=h;simp only [Bool.and_eq_true]at h';exact⟨y,ys,rfl,h'.1.1,h'.1.2,h'.2⟩
theorem oU{x:List Xp}(h:dZ B .nil x=true):x=[]:=by
 cases x with
 |nil=>rfl
 |cons y ys=>exact absurd h Bool.false_ne_true
theorem rQ(ihE:qe C A d n)(ihEs:tA C A d n):tA C A d (n+1):=by
 intro B env bk e x hs h
 cases e with
 |nil=>cases oU h;exact vY
 |cons e es=>
  obtain⟨y,ys,rfl,h1,h2,h3⟩:=gI h;exact oQ h1 (ihE _ env bk _ _ (by simp at hs;omega) h2) (ihEs _ env bk _ _ (by simp at hs;omega) h3)
theorem ut(ihE:qe C A d n)(ihA:xR C A d n):xR C A d (n+1):=by
 intro B env bk e x pos hs h
 cases e with
 |nil=>exactλI π H s ρ K L i k=>k.elim
 |cons e es=>
  obtain⟨y,ys,rfl,h1,h2,h3⟩:=gI h
  cases es with
  |nil=>cases oU h3;exact yP (ihE _ env bk _ _ (by simp at hs;omega) h2)
  |cons e' es=>
   obtain⟨z,zs,rfl,h4,h5,h6⟩:=gI h3;exact CH (ihE _ env bk _ _ (by simp at hs;omega) h2) (ihA _ env bk _ _ _ (by simp at hs⊢;omega) h3)
theorem uu(ihE:qe C A d n)(ihO:xS C A d n):xS C A d (n+1):=by
 intro B env bk e x pos hs h
 cases e with
 |nil=>exactλI π H s ρ K L i k=>k.elim
 |cons e es=>
  obtain⟨y,ys,rfl,h1,h2,h3⟩:=gI h
  cases es with
  |nil=>cases oU h3;exact yP (ihE _ env bk _ _ (by simp at hs;omega) h2)
  |cons e' es=>
   obtain⟨z,zs,rfl,h4,h5,h6⟩:=gI h3;exact Iu (ihE _ env bk _ _ (by simp at hs;omega) h2) (ihO _ env bk _ _ _ (by simp at hs⊢;omega) h3)
theorem jQ{e:Cd}{es:xo}{x:List Xp}(h:fA B (.cons e es) x=true):∃y ys,x=y::ys/\mQ B e y=true/\fA B es ys=true:=by
 cases x with
 |nil=>exact absurd h Bool.false_ne_true
 |cons y ys=>
  have h':(mQ B e y&&fA B es ys)=true:=h;simp only [Bool.and_eq_true]at h';exact⟨y,ys,rfl,h'.1,h'.2⟩
theorem lO{x:List Xp}(h:fA B .nil x=true):x=[]:=by
 cases x with
 |nil=>rfl
 |cons y ys=>exact absurd h Bool.false_ne_true
theorem rR(ihT:rP C A d n)(ihTs:tB C A d n):tB C A d (n+1):=by
 intro B env bk e x hs h
 cases e with
 |nil=>cases lO h;exact zH
 |cons e es=>
  obtain⟨y,ys,rfl,h1,h2⟩:=jQ h;exact xN (ihT _ env bk _ _ (by simp at hs;omega) h1) (ihTs _ env bk _ _ (by simp at hs;omega) h2)
theorem rS(ihT:rP C A d n)(ihTs:tC C A d n):tC C A d (n+1):=by
 intro B env bk e x hs h
 cases e with
 |nil=>cases lO h;exact CF
 |cons e es=>
  obtain⟨y,ys,rfl,h1,h2⟩:=jQ h;exact zF (ihT _ env bk _ _ (by simp at hs;omega) h1) (ihTs _ env bk _ _ (by simp at hs;omega) h2)
theorem rT(ihT:rP C A d n)(ihTs:tD C A d n):tD C A d (n+1):=by
 intro B env bk e x hs h
 cases e with
 |nil=>cases lO h;exact CG
 |cons e es=>
  obtain⟨y,ys,rfl,h1,h2⟩:=jQ h;exact zG (ihT _ env bk _ _ (by simp at hs;omega) h1) (ihTs _ env bk _ _ (by simp at hs;omega) h2)
theorem zW{e:Ex}{x:Xp}(hc:C1 e=true)(h:aO B e x=true):∃l op r p,x= .Compare l [op] [r] p:=by
 cases e<;>first|exact absurd hc Bool.false_ne_true|skip
 all_goals
  cases x<;>first|exact absurd h Bool.false_ne_true|skip
  rename_i l ops rs p
  cases ops with
  |nil=>exact absurd h Bool.false_ne_true
  |cons op ops=>
   cases ops with
   |cons=>exact absurd h Bool.false_ne_true
   |nil=>
    cases rs with
    |nil=>exact absurd h Bool.false_ne_true
    |cons r rs=>
     cases rs with
     |cons=>exact absurd h Bool.false_ne_true
     |nil=>exact⟨_,_,_,_,rfl⟩
set_option linter.unusedSimpArgs false in
theorem uv(ihE:qe C A d n)(ihT:rP C A d n)(ihTA:tC C A d n)(ihTO:tD C A d n):rP C A d (n+1):=by
 intro B env bk e x hs h;unfold mQ at h;split at h
 case h_1=>
  simp only [Bool.and_eq_true,Bool.not_eq_true']at h;exact zJ h.1.1.1.1.1 h.1.1.1.1.2 h.1.1.1.2 (ihE _ env bk _ _ (by simp at hs;omega) h.1.1.2) (ihE _ env bk _ _ (by simp at hs;omega) h.1.2) (ihE _ env bk _ _ (by simp at hs;omega) h.2)
 case h_2=>
  simp only [Bool.and_eq_true,Bool.or_eq_true]at h;have hE:=ihE _ env bk _ _ (by simp at hs;omega) h.2;rcases h.1 with h1|h1
  ·obtain⟨l,op,r,p,rfl⟩:=zW h1 h.2;exact CD hE
  ·exact Ir h1 hE
 case h_3=>exact CE (ihT _ env bk _ _ (by simp at hs;omega) h)
 case h_4=>exact v8 (ihTA _ env bk _ _ (by simp at hs;omega) h)
 case h_5=>exact v8 (ihTO _ env bk _ _ (by simp at hs;omega) h)
 case h_6=>cases h
set_option linter.unusedSimpArgs false in
theorem uw(ihE:qe C A d n):zT C A d (n+1):=by
 intro B env bk e l t hs h;unfold uq at h;split at h
 case h_1=>exact CU bk.rm (ihE _ env bk _ _ (by simp at hs;omega) h)
 case h_2=>
  simp only [gz,Bool.and_eq_true,beq_iff_eq]at h;obtain⟨⟨⟨rfl,hg⟩,h1⟩,h2⟩:=h;exact CV bk.rm bk.ok bk.S hg h1 (ihE _ env bk _ _ (by simp at hs;omega) h2)
 case h_3=>
  simp only [gz,Bool.and_eq_true,beq_iff_eq]at h;obtain⟨⟨⟨rfl,hg⟩,h1⟩,h2⟩:=h;exact CW bk.rm bk.ok bk.S hg h1 (ihE _ env bk _ _ (by simp at hs;omega) h2)
 case h_4=>
  simp only [gz,Bool.and_eq_true,beq_iff_eq]at h;obtain⟨⟨⟨⟨⟨rfl,hg⟩,h1⟩,h1'⟩,h2⟩,h3⟩:=h;exact CX bk.rm bk.ok bk.S hg h1 h1' (ihE _ env bk _ _ (by simp at hs;omega) h2) (ihE _ env bk _ _ (by simp at hs;omega) h3)
 case h_5=>cases h
structure QJ(C:Cx)(A:Around)(d n:Nat):Prop where
 E:qe C A d n
 Es:tA C A d n
 An:xR C A d n
 Or:xS C A d n
 T:rP C A d n
 Ts:tB C A d n
 TA:tC C A d n
 TO:tD C A d n
 I:zT C A d n
theorem snd:∀n,QJ C A d n
 |0=>⟨λ_ _ _ _ _ h=>absurd h (Nat.not_lt_zero _),λ_ _ _ _ _ h=>absurd h (Nat.not_lt_zero _),λ_ _ _ _ _ _ h=>absurd h (Nat.not_lt_zero _),λ_ _ _ _ _ _ h=>absurd h (Nat.not_lt_zero _),λ_ _ _ _ _ h=>absurd h (Nat.not_lt_zero _),
  λ_ _ _ _ _ h=>absurd h (Nat.not_lt_zero _),λ_ _ _ _ _ h=>absurd h (Nat.not_lt_zero _),λ_ _ _ _ _ h=>absurd h (Nat.not_lt_zero _),λ_ _ _ _ _ _ h=>absurd h (Nat.not_lt_zero _)⟩
 |n+1=>have i:=snd n
  ⟨ur i.E i.Es i.An i.Or i.T i.Ts i.I,rQ i.E i.Es,ut i.E i.An,uu i.E i.Or,uv i.E i.T i.TA i.TO,rR i.T i.Ts,rS i.T i.TA,rT i.T i.TO,uw i.E⟩
end
section
variable {C:Cx}{A:Around}{env:Env}{d:Nat}{nm:List Str}{sc:Scope}{B:rO}{n:Nat}
theorem rA(bk:de C A env d B){e:Ex}{x:Xp}(h:aO B e x=true):ax C A env B.nm x λρ H K=>bI C.T (aG C.T d) e ρ H K:=(snd (sizeOf e+1)).E _ env bk _ _ (Nat.lt_succ_self _) h
theorem C2(bk:de C A env d B){e:Cd}{x:Xp}(h:mQ B e x=true):uo C A env B.nm x λρ H K=>vw C.T (aG C.T d) e ρ H K:=(snd (sizeOf e+1)).T _ env bk _ _ (Nat.lt_succ_self _) h
theorem Iw(bk:de C A env d B){e:xo}{x:List Xp}(h:fA B e x=true):lE C A env B.nm x λρ H K=>cm C.T (aG C.T d) e ρ H K:=(snd (sizeOf e+1)).Ts _ env bk _ _ (Nat.lt_succ_self _) h
theorem PL(bk:de C A env d B){e:It}{l t:Xp}(h:uq B e l t=true):oS C A env B.nm l t λρ H K=>HL C.T (aG C.T d) e ρ H K:=(snd (sizeOf e+1)).I _ env bk _ _ _ (Nat.lt_succ_self _) h
theorem ux{r:Xp}(h:tz r=true):∀ov iv new,augStore r ov iv new=(do holding [new,ov,iv] (setItem ov iv new);release [new,ov,iv] [];pure .next):=by
 cases r<;>first|(intros;rfl)|cases h
def zX(C:Cx)(A:Around)(d n:Nat):Prop:=∀B env,de C A env d B->B.top=true->∀e x,sizeOf e<n->xP B e x=true->fQ C A env B.nm x λρ H K=>Py C.T (aG C.T d) e ρ H K
def tE(C:Cx)(A:Around)(d n:Nat):Prop:=∀B env,de C A env d B->B.top=true->∀e x,sizeOf e<n->iC B e x=true->oR C A env B.nm x λρ H K=>aM C.T (aG C.T d) e ρ H K
theorem rU(ih:zX C A d n)(ihs:tE C A d n):tE C A d (n+1):=by
 intro B env bk tp e x hs h
 cases e with
 |nil=>
  cases x with
  |nil=>exact zK
  |cons=>exact absurd h Bool.false_ne_true
 |cons e es=>
  cases x with
  |nil=>exact absurd h Bool.false_ne_true
  |cons y ys=>
   have h':(xP B e y&&iC B es ys)=true:=h;simp only [Bool.and_eq_true]at h';exact xO (ih _ env bk tp _ _ (by simp at hs;omega) h'.1) (ihs _ env bk tp _ _ (by simp at hs;omega) h'.2)
set_option linter.unusedSimpArgs false in
set_option maxHeartbeats 4000000 in
theorem uy(ihs:tE C A d n):zX C A d (n+1):=by
 intro B env bk tp e x hs h;have eo:=bk.top tp;obtain⟨N,T,sc,nm,top⟩:=B;obtain rfl:N=C.N:=bk.N;obtain rfl:T=C.T:=bk.T;unfold xP at h;split at h
 case h_1=>
  simp only [Bool.and_eq_true]at h;obtain⟨⟨⟨⟨⟨⟨h1,h2⟩,h3⟩,h4⟩,h5⟩,h6⟩,h7⟩:=h;exact zQ bk.rm eo h1 (qd eo h2) h3 (λx=>lN h4 x) (PL bk h5) λcenv sk=>⟨rA (bk.inner sk) h6,Iw (bk.inner sk) h7⟩
 case h_2=>
  simp only [Bool.and_eq_true,Bool.not_eq_true']at h;exact CM eo h.1.1 h.1.2 (rA bk h.2)
 case h_3=>
  simp only [Bool.and_eq_true,decide_eq_true_eq]at h;exact zO bk.rm eo h.1.1.1 h.1.1.2 h.1.2 (rA bk h.2)
 case h_4=>
  simp only [Bool.and_eq_true,beq_iff_eq,Bool.not_eq_true']at h;obtain⟨⟨⟨rfl,h1⟩,h2⟩,h3⟩:=h;exact CQ bk.ok h1 (rA bk h2) (rA bk h3)
 case h_5=>
  simp only [Bool.and_eq_true,beq_iff_eq,Bool.not_eq_true']at h;exact CR h.1.1.1 (rA bk h.1.1.2) (rA bk h.1.2) (rA bk h.2)
 case h_6=>
  simp only [Bool.and_eq_true]at h;exact CN eo h.1.1 h.1.2 (rA bk h.2)
 case h_7=>
  simp only [Bool.and_eq_true,beq_iff_eq]at h;obtain⟨⟨⟨rfl,h1⟩,h2⟩,h3⟩:=h;exact CS bk.ok h1 (rA bk h2) (rA bk h3)
 case h_8=>
  simp only [Bool.and_eq_true]at h;exact C0 h.1.1.1.1 (ux h.1.1.1.2) (rA bk h.1.1.2) (rA bk h.1.2) (rA bk h.2)
 case h_9=>
  simp only [Bool.and_eq_true,Bool.not_eq_true']at h;exact Iv h.1 (rA bk h.2)
 case h_10=>
  simp only [Bool.and_eq_true]at h;exact CJ (C2 bk h.1.1) (ihs _ env bk tp _ _ (by simp at hs;omega) h.1.2) (ihs _ env bk tp _ _ (by simp at hs;omega) h.2)
 case h_11=>
  simp only [Bool.and_eq_true]at h;exact CK (C2 bk h.1) (ihs _ env bk tp _ _ (by simp at hs;omega) h.2)
 case h_12=>
  simp only [Bool.and_eq_true]at h;exact CY bk.rm eo h.1.1.1 (λx=>lN h.1.1.2 x) (PL bk h.1.2) (ihs _ env bk tp _ _ (by simp at hs;omega) h.2)
 case h_13=>exact zN
 case h_14=>exact CL (rA bk h)
 case h_15=>exact CI
 case h_16=>exact zL
 case h_17=>exact zM
 case h_18=>cases h
theorem C3:∀n,zX C A d n/\tE C A d n
 |0=>⟨λ_ _ _ _ _ _ h=>absurd h (Nat.not_lt_zero _),λ_ _ _ _ _ _ h=>absurd h (Nat.not_lt_zero _)⟩
 |n+1=>have i:=C3 n
  ⟨uy i.2,rU i.1 i.2⟩
theorem Ix(bk:de C A env d B)(tp:B.top=true){e:aU}{x:List Stmt}(h:iC B e x=true):oR C A env B.nm x λρ H K=>aM C.T (aG C.T d) e ρ H K:=(C3 (sizeOf e+1)).2 _ env bk tp _ _ (Nat.lt_succ_self _) h
end
section
variable {C:Cx}{A:Around}{env:Env}{d:Nat}{nm:List Str}{sc:Scope}{B:rO}{n:Nat}
def v9(C:Cx):Prop:=∀f g,C.T.fn f=some g->∃fd body nm dvals,vP C f g fd body nm dvals/\iC ⟨C.N,C.T,fd.scope,nm,true⟩ g.body body=true
theorem wb{g:Fn}{body:List Stmt}(ok:eF C)(cok:fP C d)(rm:dF A (d+1))(fok:vP C f g fd body nm dvals)(L:Addr):
  de C (A.deeper (callEnvC fd L (C.N.fa f))) (callEnvC fd L (C.N.fa f)) d ⟨C.N,C.T,fd.scope,nm,true⟩:=by
 have kind:∀y,(callEnvC fd L (C.N.fa f)).kindOf y=fd.scope.names.lookup y:=λ_=>rfl;have S:eE (callEnvC fd L (C.N.fa f)) fd.scope:=λx=>by
  rw [kind]
  cases e:fd.scope.names.lookup x with
  |none=>trivial
  |some k=>cases k<;>first|trivial|rfl|exact .inl rfl|exact .inr rfl
 exact⟨rfl,rfl,ok,cok,rm.deeper,S,λ_=>⟨S,fok.free,fok.nodup,.head _,λ_ c hc=>.tail _ hc⟩⟩
theorem rV(ok:eF C)(dok:v9 C):∀d,fP C d
 |0=>λf vs H K I π s vals A rm k i r=>k.elim
 |d+1=>λf vs H K I π s vals A rm k i r=>by
  have k':(match C.T.fn f with
   |some g=>A7 C.T (aG C.T d) g vs H K
   |Option.none=>match C.T.cl (f-1000)with
    |some g=>av (1000<=f) (HM (aG C.T d) g (f-1000) vs H K)
    |Option.none=>False):=k
  clear k;unfold vO
  cases hf:C.T.fn f with
  |some g=>
   rw [hf]at k';obtain⟨fd,body,nm,dvals,fok,ck⟩:=dok f g hf;exact xF ok fok rm (λL=>Ix (wb ok (rV ok dok d) rm fok L) rfl ck) i r k'
  |none=>
   rw [hf]at k'
   cases hc:C.T.cl (f-1000)with
   |none=>simp only [hc]at k'
   |some g=>
    simp only [hc]at k';exact vR (ok.mko _ _ hc) (rV ok dok d) rm i r k'.k
end
end Mine
end
noncomputable section
namespace Mine
def rW:aU:=(.cons (.ret (.and (.cons (.isI false (.ac 0)) (.cons (.nt (.isI true (.ac 0))) (.cons (.cmp2 .le .le (.ac 1) (.ac 0) (.ac 2)) .nil))))) .nil)
def mR:aU:=(.cons (.ite (.or (.cons (.nt (.ex (.isI false (.ac 0)))) (.cons (.ex (.isI true (.ac 0))) .nil))) (.cons .dead .nil) .nil) (.cons (.ret (.ac 0)) .nil))
def lP:aU:=(.cons (.ite (.nt (.ex (.cmp2 .le .le (.neg (.gl 0)) (.fn 1 (.cons (.ac 0) .nil)) (.gl 0)))) (.cons .dead .nil) .nil) (.cons (.ret (.ac 0)) .nil))
def mS:aU:=(.cons (.ite (.nt (.ex (.cmp2 .le .le (.neg (.gl 1)) (.fn 1 (.cons (.ac 0) .nil)) (.gl 1)))) (.cons .dead .nil) .nil) (.cons (.ret (.ac 0)) .nil))
def oV:aU:=(.cons (.ite (.ex (.cmp .eq (.fn 1 (.cons (.ac 1) .nil)) (.int 0))) (.cons .dead .nil) .nil) (.cons (.asgT [2,3] (.dvm (.abs (.fn 1 (.cons (.ac 0) .nil))) (.abs (.ac 1)))) (.cons (.ite (.ex (.eqb true (.cmp .lt (.ac 0) (.int 0)) (.cmp .lt (.ac 1) (.int 0)))) (.cons (.asg 2 (.neg (.ac 2))) .nil) .nil) (.cons (.ite (.ex (.cmp .lt (.ac 0) (.int 0))) (.cons (.asg 3 (.neg (.ac 3))) .nil) .nil) (.cons (.ret (.ao (.cons (.ac 2) (.cons (.ac 3) .nil)))) .nil)))))
def uz:aU:=(.cons (.ite (.ex (.cmp .lt (.ac 0) (.int 0))) (.cons .dead .nil) .nil) (.cons (.ite (.ex (.cmp .eq (.ac 0) (.int 0))) (.cons (.ret (.int 0)) .nil) .nil) (.cons (.ite (.ex (.cmp .le (.ac 1) (.int 0))) (.cons (.ret (.gl 2)) .nil) .nil) (.cons (.ite (.ex (.cmp .le (.ac 0) (.int 7230584))) (.cons (.asg 2 (.bin .fdv (.bin .mul (.ac 0) (.int 297)) (.ac 1))) .nil) (.cons (.ite (.ex (.cmp .ge (.ac 1) (.int 1663497))) (.cons (.asg 2 (.bin .fdv (.ac 0) (.bin .fdv (.ac 1) (.int 297)))) .nil) (.cons (.asg 2 (.ac 0)) .nil)) .nil)) (.cons (.ite (.ex (.cmp .gt (.ac 2) (.int 1290))) (.cons (.ret (.gl 2)) .nil) .nil) (.cons (.ret (.bin .fdv (.bin .add (.bin .mul (.bin .mul (.ac 2) (.ac 2)) (.ac 2)) (.int 131072)) (.int 262144))) .nil))))))
def qf:aU:=(.cons (.asg 1 (.am (.ac 0) 5)) (.cons (.ite (.or (.cons (.ex (.cmp .eq (.ac 1) (.gl 10))) (.cons (.ex (.cmp .eq (.ac 1) (.gl 9))) .nil))) (.cons .dead .nil) .nil) (.cons (.ite (.or (.cons (.ex (.cmp .eq (.ac 1) (.gl 8))) (.cons (.ex (.cmp .eq (.ac 1) (.gl 7))) (.cons (.ex (.cmp .eq (.ac 1) (.gl 6))) .nil)))) (.cons (.ret (.am (.ac 0) 6)) .nil) .nil) (.cons (.ite (.ex (.cmp .eq (.ac 1) (.gl 5))) (.cons (.ret (.ite (.ex (.isn false (.am (.ac 0) 6))) (.int 0) (.am (.ac 0) 6))) .nil) .nil) (.cons (.ite (.and (.cons (.ex (.cmp .eq (.ac 1) (.gl 4))) (.cons (.ex (.isn true (.am (.ac 0) 15))) .nil))) (.cons (.ret (.fn 6 (.cons (.am (.ac 0) 15) .nil))) .nil) .nil) (.cons (.ite (.ex (.cmp .eq (.ac 1) (.gl 3))) (.cons .dead .nil) .nil) (.cons (.ret (.int 0)) .nil)))))))
def rX:aU:=(.cons (.asg 1 (.am (.ac 0) 5)) (.cons (.ite (.or (.cons (.ex (.cmp .eq (.ac 1) (.gl 10))) (.cons (.ex (.cmp .eq (.ac 1) (.gl 9))) .nil))) (.cons .dead .nil) .nil) (.cons (.ite (.or (.cons (.ex (.cmp .eq (.ac 1) (.gl 8))) (.cons (.ex (.cmp .eq (.ac 1) (.gl 7))) (.cons (.ex (.cmp .eq (.ac 1) (.gl 6))) .nil)))) (.cons (.ret (.am (.ac 0) 7)) .nil) .nil) (.cons (.ite (.ex (.cmp .eq (.ac 1) (.gl 5))) (.cons (.ret (.ite (.ex (.isn false (.am (.ac 0) 7))) (.int 0) (.am (.ac 0) 7))) .nil) .nil) (.cons (.ite (.and (.cons (.ex (.cmp .eq (.ac 1) (.gl 4))) (.cons (.ex (.isn true (.am (.ac 0) 15))) .nil))) (.cons (.ret (.fn 7 (.cons (.am (.ac 0) 15) .nil))) .nil) .nil) (.cons (.ite (.ex (.cmp .eq (.ac 1) (.gl 3))) (.cons .dead .nil) .nil) (.cons (.ret (.int 0)) .nil)))))))
def jR:aU:=(.cons (.ret (.or (.cons (.cmp .eq (.am (.ac 0) 5) (.gl 4)) (.cons (.cmp .eq (.am (.ac 0) 5) (.gl 13)) (.cons (.cmp .eq (.am (.ac 0) 5) (.gl 12)) (.cons (.cmp .eq (.am (.ac 0) 5) (.gl 11)) .nil)))))) .nil)
def gJ:aU:=(.cons (.ret (.nt (.fn 8 (.cons (.ac 0) .nil)))) .nil)
def eY:aU:=(.cons (.ite (.or (.cons (.ex (.cmp .eq (.am (.ac 1) 5) (.gl 10))) (.cons (.ex (.cmp .eq (.am (.ac 1) 5) (.gl 9))) (.cons (.ex (.cmp .eq (.am (.ac 1) 5) (.gl 3))) (.cons (.ex (.cmp .eq (.am (.ac 1) 5) (.gl 11))) .nil))))) (.cons .dead .nil) .nil) .nil)
def lQ:aU:=(.cons (.for (.one 1) (.seq (.ac 0)) eY) .nil)
def kS:aU:=(.cons (.ite (.ex (.cmp .eq (.ac 1) (.len (.ac 0)))) (.cons (.ret (.gl 14)) .nil) .nil) (.cons (.asg 2 (.idx (.ac 0) (.ac 1))) (.cons (.ite (.ex (.cmp .eq (.am (.ac 2) 5) (.gl 12))) (.cons (.ret (.am (.ac 2) 16)) .nil) .nil) (.cons (.ite (.ex (.cmp .eq (.am (.ac 2) 5) (.gl 4))) (.cons (.ret (.ite (.and (.cons (.ex (.cmp .gt (.ac 1) (.int 0))) (.cons (.ex (.fn 9 (.cons (.idx (.ac 0) (.bin .sub (.ac 1) (.int 1))) .nil))) .nil))) (.int 0) .non)) .nil) .nil) (.cons (.ite (.ex (.cmp .eq (.am (.ac 2) 5) (.gl 13))) (.cons (.asg 3 (.cmp .eq (.bin .add (.ac 1) (.int 1)) (.len (.ac 0)))) (.cons (.ret (.ite (.and (.cons (.nt (.ex (.ac 3))) (.cons (.ex (.cmp .eq (.am (.idx (.ac 0) (.bin .add (.ac 1) (.int 1))) 5) (.gl 4))) .nil))) (.int 0) .non)) .nil)) .nil) (.cons (.ret .non) .nil))))))
def qg:aU:=(.cons (.asg 3 (.mth (.ac 0) 4 (.cons (.ac 1) .nil))) (.cons (.ite (.ex (.cmp .eq (.ac 3) (.gl 16))) (.cons (.ret (.gl 16)) .nil) .nil) (.cons (.ite (.ex (.cmp .le (.ac 2) (.gl 14))) (.cons (.ret (.ac 2)) .nil) .nil) (.cons (.ret (.ite (.ex (.cmp .lt (.ac 3) (.gl 2))) (.bin .add (.ac 3) (.ac 2)) (.gl 15))) .nil))))
def cf:aU:=(.cons (.asg 8 (.fn 11 (.cons (.ac 0) (.cons (.ac 4) .nil)))) (.cons (.ite (.and (.cons (.ex (.isn true (.ac 8))) (.cons (.ex (.cmp .lt (.ac 8) (.gl 18))) .nil))) (.cons (.asg 10 (.fn 12 (.cons (.ac 3) (.cons (.ac 1) (.cons (.ac 8) .nil))))) (.cons (.ite (.ex (.cmp .le (.ac 10) (.ac 6))) (.cons (.asgT [5,6,7] (.ao (.cons (.ac 4) (.cons (.ac 10) (.cons (.bin .add (.am (.ac 3) 6) (.am (.ac 3) 7)) .nil))))) .nil) .nil) (.cons (.ite (.or (.cons (.ex (.cmp .eq (.ac 10) (.gl 16))) (.cons (.ex (.cmp .le (.ac 8) (.gl 14))) .nil))) (.cons (.ret (.ao (.cons (.ac 5) (.cons (.ac 6) (.cons (.ac 7) .nil))))) .nil) .nil) .nil))) .nil) (.cons (.asg 9 (.idx (.ac 0) (.ac 4))) (.cons (.ite (.ex (.inT false (.am (.ac 9) 5) (.gl 17))) (.cons (.ex (.mth (.ac 3) 1 (.cons (.ac 9) .nil))) .nil) (.cons (.ite (.or (.cons (.ex (.cmp .eq (.am (.ac 9) 5) (.gl 4))) (.cons (.ex (.cmp .eq (.am (.ac 9) 5) (.gl 13))) .nil))) (.cons (.ex (.mth (.ac 3) 3 (.cons (.ac 9) .nil))) .nil) .nil) .nil)) (.cons (.ex (.mth (.ac 3) 2 (.cons (.ac 2) .nil))) .nil)))))
def oW:aU:=(.cons (.ex (.fn 10 (.cons (.ac 0) .nil))) (.cons (.ex (.fn 3 (.cons (.ac 1) .nil))) (.cons (.ex (.fn 3 (.cons (.ac 2) .nil))) (.cons (.asg 3 (.new 7 .nil)) (.cons (.asgT [5,6,7] (.ao (.cons (.len (.ac 0)) (.cons (.gl 16) (.cons (.int 0) .nil))))) (.cons (.for (.one 4) (.rng (.bin .add (.len (.ac 0)) (.int 1))) cf) (.cons (.ret (.ao (.cons (.ac 5) (.cons (.ac 6) (.cons (.ac 7) .nil))))) .nil)))))))
def oX:aU:=(.cons (.ret (.slt true (.fn 13 (.cons (.ac 0) (.cons (.ac 1) (.cons (.ac 2) .nil)))) (.int 2))) .nil)
def kt:aU:=(.cons (.asg 4 (.idx (.ac 0) (.ac 3))) (.cons (.ite (.ex (.inT false (.am (.ac 4) 5) (.gl 17))) (.cons (.asg 5 (.ite (.ex (.isn false (.am (.ac 4) 6))) (.int 0) (.am (.ac 4) 6))) (.cons (.asg 6 (.new 0 (.cons (.mx (.int 0) (.bin .sub (.am (.ac 1) 0) (.ac 5))) (.cons (.am (.ac 1) 1) (.cons (.am (.ac 1) 2) (.cons (.am (.ac 1) 3) (.cons (.am (.ac 1) 4) .nil))))))) (.cons (.ret (.cat true (.cat true (.ac 2) (.ad true (.cons (.new 3 (.cons (.ac 6) (.cons (.bin .add (.gl 22) (.gl 23)) .nil))) .nil))) (.slf true (.ac 0) (.ac 3)))) .nil))) .nil) (.cons (.ite (.or (.cons (.ex (.cmp .eq (.am (.ac 4) 5) (.gl 21))) (.cons (.ex (.cmp .eq (.am (.ac 4) 5) (.gl 20))) (.cons (.ex (.cmp .eq (.am (.ac 4) 5) (.gl 19))) .nil)))) (.cons (.ex (.app (.ac 2) (.ac 4))) .nil) .nil) .nil)))
def wc:aU:=(.cons (.asg 2 (.ad false .nil)) (.cons (.for (.one 3) (.rng (.len (.ac 0))) kt) (.cons (.ret (.ac 2)) .nil)))
def eZ:aU:=(.cons (.ite (.ex (.inT false (.am (.ac 2) 5) (.gl 24))) (.cons (.aug 1 .add (.bin .add (.fn 6 (.cons (.ac 2) .nil)) (.fn 7 (.cons (.ac 2) .nil)))) .nil) (.cons (.ite (.ex (.cmp .eq (.am (.ac 2) 5) (.gl 13))) (.cons (.aug 1 .add (.am (.ac 2) 0)) .nil) (.cons (.ite (.ex (.cmp .eq (.am (.ac 2) 5) (.gl 4))) (.cons (.aug 1 .add (.am (.am (.ac 2) 14) 0)) .nil) .nil) .nil)) .nil)) .nil)
def lR:aU:=(.cons (.asg 1 (.int 0)) (.cons (.for (.one 2) (.seq (.ac 0)) eZ) (.cons (.ret (.ac 1)) .nil)))
def lS:aU:=(.cons (.ite (.ex (.cmp .ne (.am (.ac 0) 4) (.gl 25))) (.cons .dead .nil) .nil) .nil)
def oY:aU:=(.cons (.asg 3 (.gl 1)) (.cons (.ite (.ex (.cmp .gt (.am (.ac 0) 22) (.int 0))) (.cons (.asg 3 (.ite (.ex (.cmp .eq (.am (.ac 0) 22) (.int 1000))) (.ac 1) (.bin .mul (.idx (.fn 79 (.cons (.ac 1) (.cons (.am (.ac 0) 22) .nil))) (.int 0)) (.int 1000)))) .nil) .nil) (.cons (.ret (.mx (.mn (.cons (.ac 3) (.cons (.bin .sub (.am (.ac 0) 23) (.ac 2)) (.cons (.gl 1) .nil)))) (.neg (.gl 1)))) .nil)))
def jS:aU:=(.cons (.ite (.ex (.cmp .eq (.am (.ac 5) 5) (.gl 20))) (.cons (.ex (.fn 20 (.cons (.ac 2) (.cons (.ac 5) (.cons (.ac 4) (.cons (.idx (.am (.ac 0) 41) (.am (.ac 5) 18)) .nil)))))) .nil) (.cons (.ite (.ex (.cmp .eq (.am (.ac 5) 5) (.gl 21))) (.cons (.ex (.app (.am (.ac 2) 49) (.am (.ac 5) 17))) .nil) .nil) (.cons (.ex (.app (.am (.ac 2) 8) (.ac 5))) .nil))) .nil)
def ny:aU:=(.cons (.ite (.ex (.cmp .ge (.am (.idx (.am (.ac 0) 41) (.ac 3)) 28) (.int 0))) (.cons (.sIx (.am (.ac 2) 47) (.ac 3) (.ad false .nil)) .nil) .nil) .nil)
def fR:aU:=(.cons (.asg 2 (.new 13 (.cons (.ac 1) (.cons (.am (.ac 0) 40) .nil)))) (.cons (.for (.one 3) (.seq (.srt (.am (.ac 0) 41))) ny) (.cons (.for (.two 4 5) (.enm (.slt true (.am (.ac 0) 37) (.am (.ac 1) 31))) jS) (.cons (.sAt (.ac 2) 48 (.cat false (.slf true (.am (.ac 0) 37) (.am (.ac 1) 31)) (.am (.ac 0) 36))) (.cons (.ite (.and (.cons (.ex (.eqd true (.am (.ac 2) 48) (.ad true .nil))) (.cons (.ex (.cmp .eq (.am (.idx (.am (.ac 2) 48) (.int 0)) 5) (.gl 12))) .nil))) (.cons (.sIx (.am (.ac 2) 48) (.int 0) (.new 4 (.cons (.gl 26) .nil))) .nil) .nil) (.cons (.ret (.ac 2)) .nil))))))
def mT:aU:=(.cons (.ite (.ex (.cmp .gt (.ac 2) (.am (.ac 3) 28))) (.cons (.ex (.app (.am (.ac 0) 25) (.ac 1))) (.cons (.ret .non) .nil)) .nil) (.cons (.ite (.or (.cons (.ex (.cmp .ne (.ac 2) (.am (.ac 3) 29))) (.cons (.ex (.cmp .eq (.am (.ac 3) 30) (.len (.am (.ac 1) 8)))) .nil))) (.cons (.ex (.ext (.idx (.am (.ac 0) 47) (.am (.ac 1) 18)) (.am (.ac 1) 8))) (.cons (.ret .non) .nil)) .nil) (.cons (.ex (.ext (.idx (.am (.ac 0) 47) (.am (.ac 1) 18)) (.slt true (.am (.ac 1) 8) (.am (.ac 3) 30)))) (.cons (.asg 4 (.fn 15 (.cons (.slf true (.am (.ac 1) 8) (.am (.ac 3) 30)) (.cons (.am (.ac 1) 20) .nil)))) (.cons (.ite (.ex (.eqd true (.ac 4) (.ad true .nil))) (.cons (.ex (.app (.am (.ac 0) 25) (.new 6 (.cons (.am (.ac 1) 18) (.cons (.fn 16 (.cons (.ac 4) .nil)) (.cons (.am (.ac 1) 7) (.cons (.am (.ac 1) 20) (.cons (.am (.ac 1) 21) (.cons (.ac 4) .nil))))))))) .nil) .nil) .nil)))))
def qh:aU:=(.cons (.ex (.mth (.ac 0) 7 .nil)) (.cons (.sAt (.ac 0) 36 (.cat false (.am (.ac 1) 25) (.am (.ac 1) 48))) .nil))
def uA:aU:=(.cons (.ret (.ad false (.cons (.cpr false (.abs (.toI (.ac 1))) (.one 1) (.seq (.slt true (.ac 0) (.int 60))) .nil) (.cons (.int 0) (.cons (.sum (.cpr true (.bin .mod (.abs (.toI (.ac 1))) (.int 65521)) (.one 1) (.seq (.slt true (.ac 0) (.int 60))) .nil)) .nil))))) .nil)
def rY:aU:=(.cons (.asgT [2,3] (.ao (.cons (.idx (.ac 0) (.int 0)) (.cons (.idx (.ac 0) (.int 1)) .nil)))) (.cons (.ite (.and (.cons (.ex (.cmp .lt (.ac 3) (.len (.ac 2)))) (.cons (.ex (.cmp .ge (.idx (.ac 2) (.ac 3)) (.bin .pow (.int 10) (.int 18)))) .nil))) (.cons (.asg 4 (.bin .mod (.idx (.ac 2) (.ac 3)) (.ac 1))) (.cons (.sIx (.ac 2) (.ac 3) (.bin .fdv (.idx (.ac 2) (.ac 3)) (.ac 1))) (.cons (.ret (.ac 4)) .nil))) .nil) (.cons (.sIx (.ac 0) (.int 1) (.bin .add (.ac 3) (.int 1))) (.cons (.ite (.ex (.cmp .lt (.ac 3) (.len (.ac 2)))) (.cons (.ret (.bin .mod (.idx (.ac 2) (.ac 3)) (.ac 1))) .nil) .nil) (.cons (.ret (.bin .mod (.bin .mod (.bin .add (.idx (.ac 0) (.int 2)) (.bin .mul (.ac 3) (.bin .add (.bin .mul (.int 5) (.ac 3)) (.int 7)))) (.int 1009)) (.ac 1))) .nil)))))
def rZ:aU:=(.cons (.asgT [2,3,4] (.ao (.cons (.bin .mul (.int 1000) (.fn 23 (.cons (.ac 0) (.cons (.int 5) .nil)))) (.cons (.bin .mul (.int 1000) (.fn 23 (.cons (.ac 0) (.cons (.int 4) .nil)))) (.cons (.bin .mul (.int 1000) (.fn 23 (.cons (.ac 0) (.cons (.int 3) .nil)))) .nil))))) (.cons (.asg 1 (.ite (.and (.cons (.ex (.cmp .gt (.ac 3) (.int 0))) (.cons (.ex (.cmp .eq (.fn 23 (.cons (.ac 0) (.cons (.int 6) .nil))) (.int 5))) .nil))) (.bin .add (.int 1) (.fn 23 (.cons (.ac 0) (.cons (.int 3) .nil)))) (.int 0))) (.cons (.ret (.ao (.cons (.chr 103) (.cons (.ac 2) (.cons (.ac 3) (.cons (.ac 1) (.cons (.ac 4) .nil))))))) .nil)))
def uB:aU:=(.cons (.ret (.ao (.cons (.chr 98) (.cons (.ac 1) (.cons (.bin .add (.bin .mul (.int 1000) (.bin .add (.int 1) (.fn 23 (.cons (.ac 0) (.cons (.int 12) .nil))))) (.bin .mul (.int 250) (.fn 23 (.cons (.ac 0) (.cons (.int 3) .nil))))) (.cons (.bin .mul (.int 1000) (.fn 23 (.cons (.ac 0) (.cons (.int 4) .nil)))) .nil)))))) .nil)
def iD:aU:=(.cons (.ite (.ex (.eqc false (.idx (.ac 2) (.int 0)) (.chr 98))) (.cons (.aug 1 .add (.bin .add (.idx (.ac 2) (.int 2)) (.idx (.ac 2) (.int 3)))) .nil) .nil) (.cons (.ite (.or (.cons (.ex (.eqc false (.idx (.ac 2) (.int 0)) (.chr 103))) (.cons (.ex (.eqc false (.idx (.ac 2) (.int 0)) (.chr 107))) .nil))) (.cons (.aug 1 .add (.idx (.ac 2) (.int 1))) .nil) .nil) .nil))
def sb:aU:=(.cons (.asg 1 (.int 0)) (.cons (.for (.one 2) (.seq (.ac 0)) iD) (.cons (.ret (.ac 1)) .nil)))
def dU:aU:=(.cons (.ex (.app (.ac 2) (.ite (.ex (.cmp .eq (.fn 23 (.cons (.ac 0) (.cons (.int 3) .nil))) (.int 1))) (.ao (.cons (.chr 112) (.cons (.idx (.ad true (.cons (.int 0) (.cons (.int 60) (.cons (.neg (.int 10000)) (.cons (.int 10000) .nil))))) (.fn 23 (.cons (.ac 0) (.cons (.int 4) .nil)))) .nil))) (.fn 24 (.cons (.ac 0) .nil))))) (.cons (.ex (.app (.ac 2) (.fn 25 (.cons (.ac 0) (.cons (.bin .add (.bin .add (.bin .mul (.int 100) (.ac 1)) (.int 1)) (.ac 3)) .nil))))) .nil))
def oZ:aU:=(.cons (.asg 2 (.ad false (.cons (.fn 25 (.cons (.ac 0) (.cons (.bin .mul (.int 100) (.ac 1)) .nil))) .nil))) (.cons (.for (.one 3) (.rng (.fn 23 (.cons (.ac 0) (.cons (.int 3) .nil)))) dU) (.cons (.ret (.ao (.cons (.chr 105) (.cons (.bin .add (.int 1) (.fn 23 (.cons (.ac 0) (.cons (.int 2) .nil)))) (.cons (.fn 26 (.cons (.ac 2) .nil)) (.cons (.idx (.ad true (.cons (.int 0) (.cons (.int 100) (.cons (.int 9000) .nil)))) (.fn 23 (.cons (.ac 0) (.cons (.int 3) .nil)))) (.cons (.toT (.ac 2)) (.cons (.bin .mul (.int 1000) (.fn 23 (.cons (.ac 0) (.cons (.int 6) .nil)))) .nil)))))))) .nil)))
def se:aU:=(.cons (.asg 2 (.fn 23 (.cons (.ac 0) (.cons (.int 14) .nil)))) (.cons (.ite (.ex (.cmp .lt (.ac 2) (.int 5))) (.cons (.ret (.fn 25 (.cons (.ac 0) (.cons (.ac 1) .nil)))) .nil) .nil) (.cons (.ite (.ex (.cmp .lt (.ac 2) (.int 7))) (.cons (.ret (.fn 24 (.cons (.ac 0) .nil))) .nil) .nil) (.cons (.ite (.ex (.cmp .lt (.ac 2) (.int 9))) (.cons (.ret (.ao (.cons (.chr 112) (.cons (.idx (.ad true (.cons (.int 0) (.cons (.int 50) (.cons (.neg (.int 50)) (.cons (.int 10000) (.cons (.neg (.int 10000)) (.cons (.int 9999) (.cons (.int 300) (.cons (.neg (.int 700)) .nil))))))))) (.fn 23 (.cons (.ac 0) (.cons (.int 8) .nil)))) .nil)))) .nil) .nil) (.cons (.ite (.ex (.cmp .eq (.ac 2) (.int 9))) (.cons (.ret (.ao (.cons (.chr 107) (.cons (.bin .mul (.int 1000) (.fn 23 (.cons (.ac 0) (.cons (.int 5) .nil)))) .nil)))) .nil) .nil) (.cons (.ite (.ex (.cmp .eq (.ac 2) (.int 10))) (.cons (.ret (.ao (.cons (.chr 109) (.cons (.ao (.cons (.ao (.cons (.int 11) (.cons (.bin .add (.int 65) (.ac 1)) .nil))) .nil)) .nil)))) .nil) .nil) (.cons (.ret (.fn 27 (.cons (.ac 0) (.cons (.ac 1) .nil)))) .nil)))))))
def qi:aU:=(.cons (.asgT [1,2] (.ao (.cons (.idx (.ad true (.cons (.int 1000) (.cons (.int 500) (.cons (.int 1000) (.cons (.int 0) .nil))))) (.fn 23 (.cons (.ac 0) (.cons (.int 4) .nil)))) (.cons (.bin .mul (.int 1000) (.bin .add (.int 4) (.fn 23 (.cons (.ac 0) (.cons (.int 20) .nil))))) .nil)))) (.cons (.ret (.ao (.cons (.ac 1) (.cons (.ac 2) (.cons (.fn 24 (.cons (.ac 0) .nil)) (.cons (.bin .mul (.int 1000) (.idx (.ad true (.cons (.int 0) (.cons (.int 0) (.cons (.int 3) .nil)))) (.fn 23 (.cons (.ac 0) (.cons (.int 3) .nil))))) .nil)))))) .nil))
def sf:aU:=(.cons (.ite (.ex (.eqc false (.idx (.ac 0) (.int 0)) (.chr 98))) (.cons (.ret (.new 1 (.cons (.gl 8) (.cons (.idx (.ac 0) (.int 1)) (.cons (.idx (.ac 0) (.int 2)) (.cons (.idx (.ac 0) (.int 3)) (.cons (.ad true .nil) .nil))))))) .nil) .nil) (.cons (.ite (.ex (.eqc false (.idx (.ac 0) (.int 0)) (.chr 103))) (.cons (.ret (.new 3 (.cons (.new 0 (.cons (.idx (.ac 0) (.int 1)) (.cons (.idx (.ac 0) (.int 2)) (.cons (.idx (.ac 0) (.int 3)) (.cons (.idx (.ac 0) (.int 4)) (.cons (.int 0) .nil)))))) (.cons (.int 0) .nil)))) .nil) .nil) (.cons (.ite (.ex (.eqc false (.idx (.ac 0) (.int 0)) (.chr 107))) (.cons (.ret (.new 2 (.cons (.idx (.ac 0) (.int 1)) (.cons (.int 1) .nil)))) .nil) .nil) (.cons (.ite (.ex (.eqc false (.idx (.ac 0) (.int 0)) (.chr 112))) (.cons (.ret (.new 4 (.cons (.idx (.ac 0) (.int 1)) .nil))) .nil) .nil) (.cons (.ite (.ex (.eqc false (.idx (.ac 0) (.int 0)) (.chr 109))) (.cons (.ret (.new 5 (.cons (.idx (.ac 0) (.int 1)) .nil))) .nil) .nil) (.cons (.ret (.new 6 (.cons (.idx (.ac 0) (.int 1)) (.cons (.idx (.ac 0) (.int 2)) (.cons (.ac 1) (.cons (.new 0 (.cons (.idx (.ac 0) (.int 5)) .nil)) (.cons (.idx (.ac 0) (.int 3)) (.cons (.cpr true (.fn 30 (.cons (.ac 2) (.cons (.ac 1) .nil))) (.one 2) (.seq (.idx (.ac 0) (.int 4))) .nil) .nil)))))))) .nil))))))
def sg:aU:=(.cons (.ite (.ex (.cmp .eq (.am (.ac 0) 5) (.gl 8))) (.cons (.ret (.ao (.cons (.chr 98) (.cons (.am (.ac 0) 0) (.cons (.am (.ac 0) 6) (.cons (.am (.ac 0) 7) .nil)))))) .nil) .nil) (.cons (.ite (.ex (.cmp .eq (.am (.ac 0) 5) (.gl 4))) (.cons (.ret (.tct (.ao (.cons (.chr 103) .nil)) (.slt true (.mth (.am (.ac 0) 14) 0 .nil) (.int 4)))) .nil) .nil) (.cons (.ite (.ex (.cmp .eq (.am (.ac 0) 5) (.gl 13))) (.cons (.ret (.ao (.cons (.chr 107) (.cons (.am (.ac 0) 0) .nil)))) .nil) .nil) (.cons (.ite (.ex (.cmp .eq (.am (.ac 0) 5) (.gl 12))) (.cons (.ret (.ao (.cons (.chr 112) (.cons (.am (.ac 0) 16) .nil)))) .nil) .nil) (.cons (.ite (.ex (.cmp .eq (.am (.ac 0) 5) (.gl 21))) (.cons (.ret (.ao (.cons (.chr 109) (.cons (.am (.ac 0) 17) .nil)))) .nil) .nil) (.cons (.ret (.ao (.cons (.chr 105) (.cons (.am (.ac 0) 18) (.cons (.am (.ac 0) 19) (.cons (.am (.ac 0) 21) (.cons (.toT (.cpr true (.fn 31 (.cons (.ac 1) .nil)) (.one 1) (.seq (.am (.ac 0) 8)) .nil)) (.cons (.am (.am (.ac 0) 20) 0) .nil)))))))) .nil))))))
def si:aU:=(.cons (.asg 6 (.abs (.bin .sub (.ac 1) (.ac 0)))) (.cons (.asg 7 (.ite (.ex (.cmp .lt (.ac 0) (.ac 1))) (.idx (.ac 2) (.int 0)) (.ac 3))) (.cons (.ite (.or (.cons (.and (.cons (.ex (.cmp .ge (.ac 0) (.ac 1))) (.cons (.ex (.cmp .gt (.ac 6) (.ac 3))) .nil))) (.cons (.ex (.cmp .ge (.ac 5) (.int 10000))) .nil))) (.cons (.ret (.bin .sub (.bin .pow (.int 2) (.int 30)) (.int 1))) .nil) .nil) (.cons (.ite (.ex (.cmp .le (.ac 4) (.neg (.int 10000)))) (.cons (.ret (.ac 4)) .nil) .nil) (.cons (.ite (.or (.cons (.ex (.cmp .eq (.ac 6) (.int 0))) (.cons (.and (.cons (.ex (.cmp .lt (.ac 0) (.ac 1))) (.cons (.or (.cons (.ex (.cmp .ne (.idx (.ac 2) (.int 1)) (.int 0))) (.cons (.ex (.cmp .ne (.idx (.ac 2) (.int 2)) (.int 0))) (.cons (.ex (.cmp .ne (.idx (.ac 2) (.int 3)) (.int 0))) .nil)))) .nil))) .nil))) (.cons (.ret (.bin .add (.ac 4) (.ac 5))) .nil) .nil) (.cons (.asg 8 (.ite (.ex (.cmp .gt (.ac 7) (.int 0))) (.bin .fdv (.bin .mul (.int 297) (.ac 6)) (.ac 7)) (.int 1291))) (.cons (.ret (.ite (.ex (.cmp .le (.ac 8) (.int 1290))) (.bin .add (.bin .add (.bin .fdv (.bin .add (.bin .pow (.ac 8) (.int 3)) (.int 131072)) (.int 262144)) (.ac 4)) (.ac 5)) (.int 100000))) .nil)))))))
def mU:aU:=(.cons (.asg 2 (.idx (.ac 0) (.ac 1))) (.cons (.ite (.ex (.eqc false (.idx (.ac 2) (.int 0)) (.chr 112))) (.cons (.ret (.idx (.ac 2) (.int 1))) .nil) .nil) (.cons (.ite (.and (.cons (.ex (.eqc false (.idx (.ac 2) (.int 0)) (.chr 103))) (.cons (.ex (.cmp .gt (.ac 1) (.int 0))) (.cons (.ex (.inT false (.idx (.idx (.ac 0) (.bin .sub (.ac 1) (.int 1))) (.int 0)) (.ao (.cons (.chr 98) (.cons (.chr 109) (.cons (.chr 105) .nil)))))) .nil)))) (.cons (.ret (.int 0)) .nil) .nil) (.cons (.ite (.and (.cons (.ex (.eqc false (.idx (.ac 2) (.int 0)) (.chr 107))) (.cons (.ex (.cmp .lt (.bin .add (.ac 1) (.int 1)) (.len (.ac 0)))) (.cons (.ex (.eqc false (.idx (.idx (.ac 0) (.bin .add (.ac 1) (.int 1))) (.int 0)) (.chr 103))) .nil)))) (.cons (.ret (.int 0)) .nil) .nil) (.cons (.ret (.int 10000)) .nil)))))
def gi:aU:=(.cons (.ite (.ex (.eqc false (.idx (.ac 2) (.int 0)) (.chr 103))) (.cons (.aIx (.ac 3) (.idx (.ac 2) (.int 3)) .add (.idx (.ac 2) (.int 2))) (.cons (.aug 4 .add (.idx (.ac 2) (.int 4))) .nil)) .nil) (.cons (.ite (.or (.cons (.ex (.eqc false (.idx (.ac 2) (.int 0)) (.chr 103))) (.cons (.ex (.eqc false (.idx (.ac 2) (.int 0)) (.chr 107))) .nil))) (.cons (.asg 5 (.int 0)) .nil) .nil) (.cons (.ite (.ex (.eqc false (.idx (.ac 2) (.int 0)) (.chr 98))) (.cons (.asg 5 (.mn (.cons (.idx (.ac 2) (.int 3)) (.cons (.ac 1) .nil)))) .nil) .nil) .nil)))
def o0:aU:=(.cons (.asgT [3,4,5] (.ao (.cons (.ad false (.cons (.int 0) (.cons (.int 0) (.cons (.int 0) (.cons (.int 0) .nil))))) (.cons (.int 0) (.cons (.int 0) .nil))))) (.cons (.for (.one 2) (.seq (.ac 0)) gi) (.cons (.ret (.ao (.cons (.bin .sub (.fn 26 (.cons (.ac 0) .nil)) (.ac 5)) (.cons (.ac 5) (.cons (.ac 3) (.cons (.ac 4) .nil)))))) .nil)))
def eI:aU:=(.cons (.asg 6 (.ite (.ex (.cmp .eq (.ac 3) (.len (.ac 0)))) (.neg (.int 10000)) (.fn 33 (.cons (.ac 0) (.cons (.ac 3) .nil))))) (.cons (.ite (.ex (.cmp .lt (.ac 6) (.int 10000))) (.cons (.asgT [8,9,10,11] (.fn 34 (.cons (.slt true (.ac 0) (.ac 3)) (.cons (.ac 2) .nil)))) (.cons (.asg 7 (.fn 32 (.cons (.ac 8) (.cons (.ac 1) (.cons (.ac 10) (.cons (.ac 11) (.cons (.ac 6) (.cons (.int 0) .nil)))))))) (.cons (.ite (.ex (.cmp .le (.ac 7) (.ac 5))) (.cons (.asgT [4,5] (.ao (.cons (.ac 3) (.cons (.ac 7) .nil)))) .nil) .nil) (.cons (.ite (.or (.cons (.ex (.cmp .eq (.ac 7) (.bin .sub (.bin .pow (.int 2) (.int 30)) (.int 1)))) (.cons (.ex (.cmp .le (.ac 6) (.neg (.int 10000)))) .nil))) (.cons (.ret (.ac 4)) .nil) .nil) .nil)))) .nil) .nil))
def qj:aU:=(.cons (.asgT [4,5] (.ao (.cons (.len (.ac 0)) (.cons (.bin .sub (.bin .pow (.int 2) (.int 30)) (.int 1)) .nil)))) (.cons (.for (.one 3) (.rng (.bin .add (.len (.ac 0)) (.int 1))) eI) (.cons (.ret (.ac 4)) .nil)))
def qk:aU:=(.cons (.ret (.ite (.ex (.cmp .eq (.ac 1) (.int 1000))) (.ac 0) (.bin .mul (.bin .fdv (.ac 0) (.int 1000)) (.ac 1)))) .nil)
def dK:aU:=(.cons (.ite (.ex (.eqc true (.idx (.ac 9) (.int 0)) (.chr 105))) (.cons .cont .nil) .nil) (.cons (.asgT [19,20,21,22] (.idx (.ac 2) (.idx (.ac 9) (.int 1)))) (.cons (.ite (.ex (.inD true (.idx (.ac 9) (.int 1)) (.ac 5))) (.cons (.sIx (.ac 5) (.idx (.ac 9) (.int 1)) (.ad false (.cons (.ac 22) (.cons (.neg (.int 1)) (.cons (.neg (.int 1)) (.cons (.int 0) .nil)))))) (.cons (.aug 3 .sub (.bin .add (.fn 36 (.cons (.ac 22) (.cons (.ac 19) .nil))) (.idx (.ac 21) (.int 1)))) (.cons (.aIx (.ac 6) (.idx (.ac 21) (.int 3)) .add (.idx (.ac 21) (.int 2))) (.cons (.aug 7 .add (.idx (.ac 21) (.int 4))) .nil)))) .nil) (.cons (.asg 10 (.idx (.ac 5) (.idx (.ac 9) (.int 1)))) (.cons (.ite (.ex (.cmp .ge (.idx (.ac 10) (.int 2)) (.int 0))) (.cons (.aug 4 .add (.idx (.ac 9) (.int 3))) (.cons .cont .nil)) .nil) (.cons (.sIx (.ac 10) (.int 1) (.ac 8)) (.cons (.asg 11 (.bin .sub (.ac 3) (.fn 26 (.cons (.slt true (.ac 0) (.ac 8)) .nil)))) (.cons (.asg 12 (.fn 36 (.cons (.idx (.ac 9) (.int 2)) (.cons (.ac 19) .nil)))) (.cons (.ite (.and (.cons (.or (.cons (.ex (.cmp .le (.ac 12) (.int 0))) (.cons (.ex (.cmp .le (.ac 12) (.bin .add (.bin .add (.ac 11) (.ac 7)) (.idx (.fn 34 (.cons (.slt true (.ac 0) (.ac 8)) (.cons (.int 0) .nil))) (.int 3))))) .nil))) (.cons (.ex (.cmp .le (.bin .add (.idx (.ac 9) (.int 2)) (.idx (.ac 10) (.int 0))) (.ac 20))) .nil))) (.cons (.aIx (.ac 10) (.int 0) .add (.idx (.ac 9) (.int 2))) (.cons (.aug 3 .sub (.ac 12)) (.cons .cont .nil))) .nil) (.cons (.asg 13 (.bin .sub (.ac 20) (.idx (.ac 10) (.int 0)))) (.cons (.ite (.ex (.cmp .eq (.ac 19) (.int 1000))) (.cons (.asg 13 (.mn (.cons (.ac 13) (.cons (.ac 11) .nil)))) .nil) .nil) (.cons (.ite (.ex (.cmp .eq (.ac 19) (.int 500))) (.cons (.asg 13 (.mn (.cons (.ac 13) (.cons (.bin .mul (.bin .fdv (.abs (.ac 11)) (.int 500)) (.ite (.ex (.cmp .gt (.ac 11) (.int 0))) (.int 1000) (.neg (.int 1000)))) .nil)))) .nil) .nil) (.cons (.asg 14 (.fn 35 (.cons (.idx (.ac 9) (.int 4)) (.cons (.ac 13) (.cons (.idx (.ac 1) (.int 2)) .nil))))) (.cons (.aIx (.ac 10) (.int 0) .add (.fn 26 (.cons (.slt true (.idx (.ac 9) (.int 4)) (.ac 14)) .nil))) (.cons (.sIx (.ac 10) (.int 2) (.ac 8)) (.cons (.sIx (.ac 10) (.int 3) (.ac 14)) (.cons (.aug 3 .sub (.fn 36 (.cons (.fn 26 (.cons (.slt true (.idx (.ac 9) (.int 4)) (.ac 14)) .nil)) (.cons (.ac 19) .nil)))) (.cons (.ite (.ex (.cmp .eq (.ac 14) (.len (.idx (.ac 9) (.int 4))))) (.cons (.aug 4 .sub (.int 10000)) .nil) (.cons (.ite (.ex (.eqc false (.idx (.idx (.idx (.ac 9) (.int 4)) (.ac 14)) (.int 0)) (.chr 112))) (.cons (.aug 4 .add (.idx (.idx (.idx (.ac 9) (.int 4)) (.ac 14)) (.int 1))) .nil) .nil) .nil)) .nil))))))))))))))))))
def sj:aU:=(.cons (.asgT [3,4,5,6,7] (.ao (.cons (.idx (.ac 1) (.int 0)) (.cons (.int 0) (.cons (.dic false [] .nil) (.cons (.ad false (.cons (.int 0) (.cons (.int 0) (.cons (.int 0) (.cons (.int 0) .nil))))) (.cons (.int 0) .nil))))))) (.cons (.for (.two 8 9) (.enm (.ac 0)) dK) (.cons (.asgT [15,16,17,18] (.fn 34 (.cons (.ac 0) (.cons (.idx (.ac 1) (.int 1)) .nil)))) (.cons (.ret (.ao (.cons (.ac 3) (.cons (.ad true (.cons (.ac 15) (.cons (.ac 16) (.cons (.cpr true (.bin .add (.ac 23) (.ac 24)) (.two 23 24) (.zip (.ac 17) (.ac 6)) .nil) (.cons (.bin .add (.ac 18) (.ac 7)) .nil))))) (.cons (.ac 4) (.cons (.ac 5) .nil)))))) .nil))))
def iE:aU:=(.cons (.ite (.ex (.eqc false (.idx (.ac 3) (.int 0)) (.chr 98))) (.cons (.asg 4 (.cpr true (.ac 5) (.one 5) (.seq (.slt true (.ac 0) (.ac 2))) (.cons (.or (.cons (.ex (.eqc false (.idx (.ac 5) (.int 0)) (.chr 109))) (.cons (.ex (.eqc false (.idx (.ac 5) (.int 0)) (.chr 105))) .nil))) .nil))) (.cons (.ret (.cat true (.cat true (.ac 4) (.ad true (.cons (.ao (.cons (.chr 103) (.cons (.mx (.bin .sub (.idx (.ac 1) (.int 1)) (.idx (.ac 3) (.int 2))) (.int 0)) (.cons (.idx (.ac 1) (.int 2)) (.cons (.idx (.ac 1) (.int 3)) (.cons (.idx (.ac 1) (.int 4)) .nil)))))) .nil))) (.slf true (.ac 0) (.ac 2)))) .nil)) .nil) .nil)
def sm:aU:=(.cons (.for (.two 2 3) (.enm (.ac 0)) iE) (.cons (.ret (.cpr true (.ac 5) (.one 5) (.seq (.ac 0)) (.cons (.or (.cons (.ex (.eqc false (.idx (.ac 5) (.int 0)) (.chr 109))) (.cons (.ex (.eqc false (.idx (.ac 5) (.int 0)) (.chr 105))) .nil))) .nil))) .nil))
def fS:aU:=(.cons (.asg 6 (.fn 33 (.cons (.ac 0) (.cons (.ac 4) .nil)))) (.cons (.ite (.ex (.cmp .lt (.ac 6) (.int 10000))) (.cons (.asgT [8,9,10,11] (.fn 37 (.cons (.slt true (.ac 0) (.ac 4)) (.cons (.ac 1) (.cons (.ac 2) .nil))))) (.cons (.asg 7 (.fn 32 (.cons (.idx (.ac 9) (.int 0)) (.cons (.ac 8) (.cons (.idx (.ac 9) (.int 2)) (.cons (.idx (.ac 9) (.int 3)) (.cons (.ac 6) (.cons (.ac 10) .nil)))))))) (.cons (.ite (.or (.cons (.ex (.isn false (.ac 3))) (.cons (.ex (.cmp .le (.ac 7) (.idx (.ac 3) (.int 2)))) .nil))) (.cons (.asg 3 (.ao (.cons (.ac 4) (.cons (.ite (.ex (.eqc false (.idx (.ac 5) (.int 0)) (.chr 112))) (.idx (.ac 5) (.int 1)) (.int 10000)) (.cons (.ac 7) (.cons (.ac 8) .nil)))))) .nil) .nil) (.cons (.ite (.or (.cons (.ex (.cmp .eq (.ac 7) (.bin .sub (.bin .pow (.int 2) (.int 30)) (.int 1)))) (.cons (.ex (.cmp .le (.ac 6) (.neg (.int 10000)))) .nil))) (.cons (.ret (.ac 3)) .nil) .nil) .nil)))) .nil) .nil))
def uC:aU:=(.cons (.asg 3 .non) (.cons (.for (.two 4 5) (.enm (.ac 0)) fS) (.cons (.ret .non) .nil)))
def gj:aU:=(.cons (.ite (.ex (.eqc false (.idx (.ac 3) (.int 0)) (.chr 98))) (.cons (.ret (.tct (.ao (.cons (.ao (.cons (.chr 103) (.cons (.mx (.bin .sub (.ac 1) (.idx (.ac 3) (.int 2))) (.int 0)) (.cons (.int 0) (.cons (.int 0) (.cons (.int 0) .nil)))))) .nil)) (.slf true (.ac 0) (.ac 2)))) .nil) .nil) .nil)
def o7:aU:=(.cons (.for (.two 2 3) (.enm (.ac 0)) gj) (.cons (.ret (.ao .nil)) .nil))
def fi:aU:=(.cons (.ite (.ex (.eqc true (.idx (.ac 9) (.int 0)) (.chr 105))) (.cons (.ex (.app (.ac 5) (.ac 9))) .nil) (.cons (.ite (.ex (.cmp .gt (.ac 8) (.idx (.idx (.ac 2) (.idx (.ac 9) (.int 1))) (.int 1)))) (.cons (.ex (.app (.ac 7) (.ac 9))) .nil) (.cons (.asgT [12,13] (.ao (.cons (.idx (.ac 2) (.idx (.ac 9) (.int 1))) (.cons (.idx (.ac 9) (.int 4)) .nil)))) (.cons (.asg 10 (.ite (.ex (.cmp .eq (.idx (.ac 12) (.int 2)) (.ac 8))) (.idx (.ac 12) (.int 3)) (.len (.ac 13)))) (.cons (.sIx (.ac 6) (.idx (.ac 9) (.int 1)) (.cat true (.idx (.ac 6) (.idx (.ac 9) (.int 1))) (.toL true (.slt true (.ac 13) (.ac 10))))) (.cons (.asg 11 (.fn 40 (.cons (.slf true (.ac 13) (.ac 10)) (.cons (.idx (.ac 9) (.int 5)) .nil)))) (.cons (.ite (.ex (.eqd true (.ac 11) (.ao .nil))) (.cons (.ex (.app (.ac 7) (.ao (.cons (.chr 105) (.cons (.idx (.ac 9) (.int 1)) (.cons (.fn 26 (.cons (.ac 11) .nil)) (.cons (.idx (.ac 9) (.int 3)) (.cons (.ac 11) (.cons (.idx (.ac 9) (.int 5)) .nil))))))))) .nil) .nil) .nil)))))) .nil)) .nil)
def iF:aU:=(.cons (.sIx (.ac 6) (.ac 3) (.ad true .nil)) .nil)
def sn:aU:=(.cons (.asgT [5,6,7] (.ao (.cons (.ad false .nil) (.cons (.dic false [] .nil) (.cons (.ad false .nil) .nil))))) (.cons (.for (.one 3) (.seq (.ac 2)) iF) (.cons (.for (.two 8 9) (.enm (.slt true (.ac 0) (.ac 1))) fi) (.cons (.asg 4 (.toL false (.slf true (.ac 0) (.ac 1)))) (.cons (.ite (.and (.cons (.ex (.eqd true (.ac 4) (.ad true .nil))) (.cons (.ex (.eqc false (.idx (.idx (.ac 4) (.int 0)) (.int 0)) (.chr 112))) .nil))) (.cons (.sIx (.ac 4) (.int 0) (.ao (.cons (.chr 112) (.cons (.int 10000) .nil)))) .nil) .nil) (.cons (.ret (.ao (.cons (.ac 5) (.cons (.ac 6) (.cons (.ac 7) (.cons (.ac 4) .nil)))))) .nil))))))
def eJ:aU:=(.cons (.ite (.ex (.eqd true (.cpr true (.fn 31 (.cons (.ac 12) .nil)) (.one 12) (.seq (.idx (.am (.ac 6) 47) (.ac 7))) .nil) (.idx (.ac 9) (.ac 7)))) (.cons (.ret .non) .nil) .nil) .nil)
def kT:aU:=(.cons (.ite (.ex (.eqd true (.ao (.cons (.am (.ac 1) 31) (.cons (.am (.ac 1) 32) (.cons (.am (.ac 1) 21) (.cons (.am (.ac 1) 19) .nil))))) (.ac 3))) (.cons (.ret .non) .nil) .nil) (.cons (.ite (.ex (.eqd true (.cpr true (.fn 31 (.cons (.ac 12) .nil)) (.one 12) (.seq (.cat true (.am (.ac 0) 37) (.am (.ac 0) 36))) .nil) (.ac 2))) (.cons (.ret .non) .nil) .nil) (.cons (.asg 6 (.fn 19 (.cons (.ac 0) (.cons (.ac 1) .nil)))) (.cons (.asgT [8,9,10,11] (.fn 41 (.cons (.ac 2) (.cons (.idx (.ac 3) (.int 0)) (.cons (.idx (.fn 37 (.cons (.slt true (.ac 2) (.idx (.ac 3) (.int 0))) (.cons (.ac 4) (.cons (.ac 5) .nil)))) (.int 3)) .nil))))) (.cons (.ite (.or (.cons (.ex (.eqd true (.cpr true (.fn 31 (.cons (.ac 12) .nil)) (.one 12) (.seq (.am (.ac 6) 8)) .nil) (.ac 8))) (.cons (.ex (.eqd true (.srt (.am (.ac 6) 47)) (.srt (.ac 9)))) .nil))) (.cons (.ret .non) .nil) .nil) (.cons (.for (.one 7) (.seq (.ac 9)) eJ) (.cons (.ite (.or (.cons (.ex (.eqd true (.cpr true (.fn 31 (.cons (.ac 12) .nil)) (.one 12) (.seq (.am (.ac 6) 25)) .nil) (.ac 10))) (.cons (.ex (.eqd true (.cpr true (.fn 31 (.cons (.ac 12) .nil)) (.one 12) (.seq (.am (.ac 6) 48)) .nil) (.ac 11))) .nil))) (.cons (.ret .non) .nil) .nil) (.cons (.ite (.or (.cons (.ex (.eqd true (.toL true (.am (.ac 6) 49)) (.cpr true (.idx (.ac 13) (.int 1)) (.one 13) (.seq (.ac 8)) (.cons (.ex (.eqc false (.idx (.ac 13) (.int 0)) (.chr 109))) .nil)))) (.cons (.ex (.eqd true (.cpr true (.fn 31 (.cons (.ac 12) .nil)) (.one 12) (.seq (.cat true (.am (.ac 0) 37) (.am (.ac 0) 36))) .nil) (.ac 2))) .nil))) (.cons (.ret .non) .nil) .nil) (.cons (.ex (.fn 21 (.cons (.ac 0) (.cons (.ac 6) .nil)))) (.cons (.ret (.cat true (.ac 10) (.ac 11))) .nil))))))))))
def gm:aU:=(.cons (.asg 4 (.ite (.and (.cons (.ex (.eqd true (.ac 1) (.ad true .nil))) (.cons (.ex (.eqc false (.idx (.idx (.ac 1) (.neg (.int 1))) (.int 0)) (.chr 107))) .nil))) (.slf true (.ac 1) (.neg (.int 1))) (.ad true .nil))) (.cons (.asg 5 (.slt true (.ac 1) (.bin .sub (.len (.ac 1)) (.len (.ac 4))))) (.cons (.ite (.or (.cons (.ex (.eqd true (.cpr true (.fn 31 (.cons (.ac 11) .nil)) (.one 11) (.seq (.am (.ac 0) 37)) .nil) (.ac 5))) (.cons (.ex (.eqd true (.cpr true (.fn 31 (.cons (.ac 11) .nil)) (.one 11) (.seq (.am (.ac 0) 36)) .nil) (.ac 4))) .nil))) (.cons (.ret (.boo false)) .nil) .nil) (.cons (.ite (.ex (.eqd false (.cpr true (.ac 10) (.one 10) (.seq (.ac 5)) (.cons (.or (.cons (.ex (.eqc false (.idx (.ac 10) (.int 0)) (.chr 98))) (.cons (.ex (.eqc false (.idx (.ac 10) (.int 0)) (.chr 105))) .nil))) .nil)) (.ad true .nil))) (.cons (.ret (.boo true)) .nil) .nil) (.cons (.asgT [6,7,8,9] (.fn 37 (.cons (.ac 5) (.cons (.ac 2) (.cons (.ac 3) .nil))))) (.cons (.ret (.and (.cons (.cmp .eq (.am (.ac 0) 39) (.ac 6)) (.cons (.eqd false (.ad true (.cons (.am (.ac 0) 46) (.cons (.am (.ac 0) 7) (.cons (.toL true (.am (.ac 0) 1)) (.cons (.am (.ac 0) 3) .nil))))) (.ac 7)) (.cons (.cmp .eq (.am (.ac 0) 42) (.ac 8)) .nil))))) .nil))))))
def ql:aU:=(.cons (.asg 14 (.fn 38 (.cons (.ac 11) (.cons (.ac 7) .nil)))) (.cons (.asgT [16,17] (.ao (.cons (.fn 39 (.cons (.ac 14) (.cons (.ac 4) (.cons (.ac 8) .nil)))) (.cons (.mth (.ac 10) 11 (.cons (.am (.fn 30 (.cons (.ac 7) (.cons (.int 0) .nil))) 14) (.cons (.ac 5) .nil))) .nil)))) (.cons (.ite (.or (.cons (.ex (.isn false (.ac 16))) (.cons (.ex (.isn false (.ac 17))) .nil))) (.cons (.ite (.or (.cons (.ex (.isn true (.ac 16))) (.cons (.ex (.isn true (.ac 17))) (.cons (.nt (.ex (.fn 43 (.cons (.ac 10) (.cons (.ac 14) (.cons (.ac 4) (.cons (.ac 8) .nil))))))) .nil)))) (.cons (.ret (.boo false)) .nil) .nil) (.cons .brk .nil)) .nil) (.cons (.asg 11 (.fn 42 (.cons (.ac 10) (.cons (.ac 17) (.cons (.ac 14) (.cons (.ac 16) (.cons (.ac 4) (.cons (.ac 8) .nil)))))))) (.cons (.ite (.ex (.isn false (.ac 11))) (.cons (.ret (.boo false)) .nil) .nil) .nil)))))
def qm:aU:=(.cons (.ex (.mth (.ac 10) 10 (.cons (.cpr true (.fn 30 (.cons (.ac 18) (.cons (.idx (.ac 4) (.int 2)) .nil))) (.one 18) (.seq (.ac 6)) .nil) .nil))) (.cons (.asg 11 (.cat true (.ac 11) (.ac 6))) (.cons (.for (.one 12) (.rng (.int 10)) ql) .nil)))
def qn:aU:=(.cons (.asg 1 (.fn 22 (.cons (.ac 0) .nil))) (.cons (.asg 2 (.bin .add (.int 2) (.fn 23 (.cons (.ac 1) (.cons (.int 10) .nil))))) (.cons (.asg 3 (.cpr true (.fn 28 (.cons (.ac 1) (.cons (.ac 13) .nil))) (.one 13) (.rng (.ac 2)) .nil)) (.cons (.asg 4 (.ao (.cons (.bin .mul (.int 1000) (.bin .add (.int 6) (.fn 23 (.cons (.ac 1) (.cons (.int 24) .nil))))) (.cons (.bin .mul (.int 1000) (.fn 23 (.cons (.ac 1) (.cons (.int 4) .nil)))) (.cons (.bin .mul (.int 1000) (.fn 23 (.cons (.ac 1) (.cons (.int 3) .nil)))) .nil))))) (.cons (.asgT [7,8,9] (.ao (.cons (.fn 24 (.cons (.ac 1) .nil)) (.cons (.dic true [1,2] (.cons (.fn 29 (.cons (.ac 1) .nil)) (.cons (.fn 29 (.cons (.ac 1) .nil)) .nil))) (.cons (.fn 23 (.cons (.ac 1) (.cons (.bin .add (.ac 2) (.int 1)) .nil))) .nil))))) (.cons (.asg 5 (.new 9 (.cons (.cpr true (.new 8 (.cons (.ac 15) (.cons (.idx (.idx (.ac 8) (.ac 15)) (.int 0)) (.cons (.idx (.idx (.ac 8) (.ac 15)) (.int 1)) (.cons (.am (.fn 30 (.cons (.idx (.idx (.ac 8) (.ac 15)) (.int 2)) (.cons (.int 0) .nil))) 14) (.cons (.idx (.idx (.ac 8) (.ac 15)) (.int 3)) .nil)))))) (.one 15) (.seq (.ao (.cons (.int 1) (.cons (.int 2) .nil)))) .nil) .nil))) (.cons (.asgT [10,11] (.ao (.cons (.new 12 (.cons (.idx (.ac 4) (.int 0)) (.cons (.idx (.ac 4) (.int 1)) .nil))) (.cons (.ad true .nil) .nil)))) (.cons (.for (.one 6) (.seq (.ao (.cons (.slt true (.ac 3) (.ac 9)) (.cons (.slf true (.ac 3) (.ac 9)) .nil)))) qm) (.cons (.ret (.boo true)) .nil)))))))))
def qo:aU:=(.cons (.ite (.or (.cons (.nt (.ex (.fn 0 (.cons (.ac 3) (.cons (.gl 25) (.cons (.gl 27) .nil)))))) (.cons (.nt (.ex (.fn 0 (.cons (.ac 5) (.cons (.gl 25) (.cons (.gl 27) .nil)))))) .nil))) (.cons .dead .nil) .nil) (.cons (.sAt (.ac 0) 0 (.fn 3 (.cons (.ac 1) .nil))) (.cons (.sAt (.ac 0) 1 (.fn 3 (.cons (.ac 2) .nil))) (.cons (.sAt (.ac 0) 2 (.ite (.ex (.cmp .ne (.ac 2) (.int 0))) (.ac 3) (.gl 25))) (.cons (.sAt (.ac 0) 3 (.fn 3 (.cons (.ac 4) .nil))) (.cons (.sAt (.ac 0) 4 (.ite (.ex (.cmp .ne (.ac 4) (.int 0))) (.ac 5) (.gl 25))) .nil))))))
def o8:aU:=(.cons (.ret (.ao (.cons (.am (.ac 0) 0) (.cons (.am (.ac 0) 1) (.cons (.am (.ac 0) 2) (.cons (.am (.ac 0) 3) (.cons (.am (.ac 0) 4) .nil))))))) .nil)
def sp:aU:=(.cons (.ite (.nt (.ex (.fn 0 (.cons (.ac 1) (.cons (.gl 8) (.cons (.gl 7) .nil)))))) (.cons .dead .nil) .nil) (.cons (.sAt (.ac 0) 5 (.ac 1)) (.cons (.sAt (.ac 0) 0 (.fn 3 (.cons (.ac 2) .nil))) (.cons (.sAt (.ac 0) 6 (.fn 3 (.cons (.ac 3) .nil))) (.cons (.sAt (.ac 0) 7 (.fn 3 (.cons (.ac 4) .nil))) (.cons (.sAt (.ac 0) 8 (.ac 5)) (.cons (.sAt (.ac 0) 9 (.int 0)) (.cons (.sAt (.ac 0) 10 (.gl 28)) (.cons (.sAt (.ac 0) 11 (.int 0)) (.cons (.sAt (.ac 0) 12 (.ao (.cons (.int 0) (.cons (.int 1) .nil)))) .nil))))))))))
def qp:aU:=(.cons (.ite (.nt (.ex (.fn 0 (.cons (.ac 2) (.cons (.gl 30) (.cons (.gl 29) .nil)))))) (.cons .dead .nil) .nil) (.cons (.sAt (.ac 0) 0 (.fn 3 (.cons (.ac 1) .nil))) (.cons (.sAt (.ac 0) 13 (.ac 2)) .nil)))
def qq:aU:=(.cons (.ite (.and (.cons (.nt (.ex (.fn 0 (.cons (.ac 2) (.cons (.gl 34) (.cons (.gl 33) .nil)))))) (.cons (.nt (.ex (.fn 0 (.cons (.ac 2) (.cons (.gl 22) (.cons (.bin .add (.gl 22) (.int 99)) .nil)))))) .nil))) (.cons .dead .nil) .nil) (.cons (.ite (.ex (.eqb false (.isn false (.ac 3)) (.cmp2 .le .le (.gl 31) (.ac 2) (.gl 32)))) (.cons .dead .nil) .nil) (.cons (.ite (.and (.cons (.ex (.isn true (.ac 3))) (.cons (.nt (.ex (.cmp2 .le .le (.gl 8) (.am (.ac 3) 5) (.gl 5)))) .nil))) (.cons .dead .nil) .nil) (.cons (.sAt (.ac 0) 14 (.ac 1)) (.cons (.sAt (.ac 0) 13 (.ac 2)) (.cons (.sAt (.ac 0) 15 (.ac 3)) .nil))))))
def lT:aU:=(.cons (.sAt (.ac 0) 16 (.fn 2 (.cons (.ac 1) .nil))) .nil)
def qr:aU:=(.cons (.sAt (.ac 0) 17 (.toT (.ac 1))) .nil)
def mV:aU:=(.cons (.ite (.nt (.ex (.fn 0 (.cons (.ac 1) (.cons (.int 0) (.cons (.int 254) .nil)))))) (.cons .dead .nil) .nil) (.cons (.sAt (.ac 0) 18 (.ac 1)) (.cons (.sAt (.ac 0) 19 (.fn 3 (.cons (.ac 2) .nil))) (.cons (.sAt (.ac 0) 7 (.fn 3 (.cons (.ac 3) .nil))) (.cons (.sAt (.ac 0) 20 (.ac 4)) (.cons (.sAt (.ac 0) 21 (.fn 2 (.cons (.ac 5) .nil))) (.cons (.sAt (.ac 0) 8 (.ac 6)) .nil)))))))
def mW:aU:=(.cons (.sAt (.ac 0) 6 (.int 0)) (.cons (.sAt (.ac 0) 7 (.int 0)) (.cons (.sAt (.ac 0) 1 (.ad false (.cons (.int 0) (.cons (.int 0) (.cons (.int 0) (.cons (.int 0) .nil)))))) (.cons (.sAt (.ac 0) 3 (.int 0)) .nil))))
def lU:aU:=(.cons (.sAt (.ac 0) 6 (.bin .add (.bin .add (.am (.ac 0) 6) (.am (.ac 0) 7)) (.ite (.ex (.isn false (.am (.ac 1) 6))) (.int 0) (.am (.ac 1) 6)))) (.cons (.sAt (.ac 0) 7 (.ite (.ex (.isn false (.am (.ac 1) 7))) (.int 0) (.am (.ac 1) 7))) .nil))
def mX:aU:=(.cons (.ite (.ex (.cmp .gt (.am (.ac 0) 7) (.ac 1))) (.cons (.sAt (.ac 0) 6 (.bin .sub (.bin .add (.am (.ac 0) 6) (.am (.ac 0) 7)) (.ac 1))) (.cons (.sAt (.ac 0) 7 (.ac 1)) .nil)) .nil) .nil)
def mY:aU:=(.cons (.asg 2 (.ite (.ex (.cmp .eq (.am (.ac 1) 5) (.gl 13))) (.am (.ac 1) 0) (.am (.am (.ac 1) 14) 0))) (.cons (.ite (.ex (.cmp .eq (.am (.ac 1) 5) (.gl 4))) (.cons (.ite (.ex (.cmp .ne (.am (.am (.ac 1) 14) 4) (.gl 25))) (.cons .dead .nil) .nil) (.cons (.aIx (.am (.ac 0) 1) (.am (.am (.ac 1) 14) 2) .add (.am (.am (.ac 1) 14) 1)) (.cons (.sAt (.ac 0) 3 (.bin .add (.am (.ac 0) 3) (.am (.am (.ac 1) 14) 3))) .nil))) .nil) (.cons (.sAt (.ac 0) 6 (.bin .add (.bin .add (.am (.ac 0) 6) (.am (.ac 0) 7)) (.ac 2))) (.cons (.sAt (.ac 0) 7 (.int 0)) .nil))))
def mZ:aU:=(.cons (.ite (.ex (.cmp .lt (.am (.ac 0) 6) (.ac 1))) (.cons (.ite (.or (.cons (.ex (.cmp .ne (.idx (.am (.ac 0) 1) (.int 1)) (.int 0))) (.cons (.ex (.cmp .ne (.idx (.am (.ac 0) 1) (.int 2)) (.int 0))) (.cons (.ex (.cmp .ne (.idx (.am (.ac 0) 1) (.int 3)) (.int 0))) .nil)))) (.cons (.ret (.int 0)) .nil) .nil) (.cons (.ret (.fn 5 (.cons (.bin .sub (.ac 1) (.am (.ac 0) 6)) (.cons (.idx (.am (.ac 0) 1) (.int 0)) .nil)))) .nil)) .nil) (.cons (.ite (.ex (.cmp .gt (.bin .sub (.am (.ac 0) 6) (.ac 1)) (.am (.ac 0) 3))) (.cons (.ret (.gl 16)) .nil) .nil) (.cons (.ret (.fn 5 (.cons (.bin .sub (.am (.ac 0) 6) (.ac 1)) (.cons (.am (.ac 0) 3) .nil)))) .nil)))
def iU:aU:=(.cons (.ite (.nt (.ex (.fn 0 (.cons (.ac 1) (.cons (.int 0) (.cons (.gl 35) .nil)))))) (.cons .dead .nil) .nil) (.cons (.sAt (.ac 0) 18 (.ac 1)) (.cons (.sAt (.ac 0) 22 (.fn 2 (.cons (.ac 2) .nil))) (.cons (.sAt (.ac 0) 23 (.fn 3 (.cons (.ac 3) .nil))) (.cons (.sAt (.ac 0) 24 (.ite (.ex (.isn false (.ac 4))) (.new 0 .nil) (.ac 4))) (.cons (.sAt (.ac 0) 25 (.fn 1 (.cons (.ac 5) .nil))) .nil))))))
def ik:aU:=(.cons (.ite (.ex (.cmp .eq (.am (.ac 0) 22) (.int 1000))) (.cons (.ret (.ac 1)) .nil) .nil) (.cons (.ret (.bin .mul (.idx (.fn 79 (.cons (.ac 1) (.cons (.int 1000) .nil))) (.int 0)) (.am (.ac 0) 22))) .nil))
def gA:aU:=(.cons (.sIx (.am (.ac 0) 26) (.am (.ac 2) 18) (.ac 2)) .nil)
def iV:aU:=(.cons (.sAt (.ac 0) 26 (.dic false [] .nil)) (.cons (.for (.one 2) (.seq (.ac 1)) gA) .nil))
def jT:aU:=(.cons (.ite (.ex (.inD false (.ac 1) (.am (.ac 0) 26))) (.cons (.ret (.idx (.am (.ac 0) 26) (.ac 1))) .nil) .nil) (.cons (.ret (.new 8 (.cons (.ac 1) (.cons (.int 0) (.cons (.int 0) .nil))))) .nil))
def kU:aU:=(.cons (.sAt (.ac 0) 19 (.ac 1)) (.cons (.sAt (.ac 0) 27 (.neg (.int 1))) (.cons (.sAt (.ac 0) 28 (.neg (.int 1))) (.cons (.sAt (.ac 0) 29 (.neg (.int 1))) (.cons (.sAt (.ac 0) 30 (.int 0)) .nil)))))
def qt:aU:=(.cons (.sAt (.ac 0) 31 (.ac 1)) (.cons (.sAt (.ac 0) 32 (.ac 2)) (.cons (.sAt (.ac 0) 21 (.ac 3)) (.cons (.sAt (.ac 0) 19 (.ac 4)) .nil))))
def iW:aU:=(.cons (.sAt (.ac 0) 33 (.fn 3 (.cons (.ac 1) .nil))) (.cons (.sAt (.ac 0) 34 (.fn 3 (.cons (.ac 2) .nil))) (.cons (.sAt (.ac 0) 35 (.new 0 .nil)) (.cons (.sAt (.ac 0) 36 (.ad false .nil)) (.cons (.sAt (.ac 0) 25 (.ad true .nil)) (.cons (.ex (.mth (.ac 0) 7 .nil)) .nil))))))
def il:aU:=(.cons (.sAt (.ac 0) 37 (.ad false .nil)) (.cons (.sAt (.ac 0) 38 (.gl 36)) (.cons (.ex (.mth (.ac 0) 8 .nil)) (.cons (.sAt (.ac 0) 39 (.int 0)) (.cons (.sAt (.ac 0) 40 (.int 0)) (.cons (.sAt (.ac 0) 41 (.dic false [] .nil)) (.cons (.sAt (.ac 0) 42 (.int 0)) (.cons (.sAt (.ac 0) 43 (.int 0)) (.cons (.sAt (.ac 0) 44 (.int 0)) (.cons (.sAt (.ac 0) 45 (.am (.ac 0) 35)) .nil))))))))))
def im:aU:=(.cons (.sAt (.ac 0) 46 (.int 0)) (.cons (.sAt (.ac 0) 1 (.ad false (.cons (.int 0) (.cons (.int 0) (.cons (.int 0) (.cons (.int 0) .nil)))))) (.cons (.sAt (.ac 0) 3 (.int 0)) (.cons (.sAt (.ac 0) 7 (.int 0)) (.cons (.sAt (.ac 0) 28 .non) .nil)))))
def gK:aU:=(.cons (.ex (.mth (.ac 0) 8 .nil)) (.cons (.sAt (.ac 0) 38 (.ac 1)) (.cons (.sAt (.ac 0) 39 (.am (.ac 0) 33)) (.cons (.sAt (.ac 0) 40 (.am (.ac 0) 34)) .nil))))
def cw:aU:=(.cons (.ite (.ex (.inT true (.am (.ac 2) 5) (.gl 37))) (.cons .dead .nil) .nil) .nil)
def fj:aU:=(.cons (.for (.one 2) (.seq (.ac 1)) cw) (.cons (.ex (.ext (.am (.ac 0) 36) (.ac 1))) .nil))
def aI:aU:=(.cons (.asgT [5,6] (.ao (.cons (.idx (.am (.ac 0) 36) (.int 0)) (.cons .non .nil)))) (.cons (.asg 3 (.cmp .eq (.am (.ac 0) 38) (.gl 38))) (.cons (.ite (.and (.cons (.ex (.ac 3)) (.cons (.ex (.cmp .eq (.am (.ac 5) 5) (.gl 4))) .nil))) (.cons (.ex (.fn 17 (.cons (.am (.ac 5) 14) .nil))) .nil) .nil) (.cons (.asg 4 (.and (.cons (.ac 3) (.cons (.cmp .eq (.am (.ac 5) 5) (.gl 13)) (.cons (.cmp .eq (.len (.am (.ac 0) 36)) (.int 1)) .nil))))) (.cons (.ite (.and (.cons (.nt (.ex (.ac 3))) (.cons (.ex (.inT false (.am (.ac 5) 5) (.gl 24))) .nil))) (.cons (.ex (.mth (.ac 0) 13 (.cons (.ac 5) (.cons (.ac 1) .nil)))) .nil) (.cons (.ite (.and (.cons (.nt (.ex (.ac 3))) (.cons (.ex (.fn 8 (.cons (.ac 5) .nil))) .nil))) (.cons (.ex (.pop (.am (.ac 0) 36))) .nil) (.cons (.ite (.nt (.ex (.ac 4))) (.cons (.asg 6 (.mth (.ac 0) 15 (.cons (.ac 5) .nil))) (.cons (.ite (.ex (.isn false (.ac 6))) (.cons (.ex (.mth (.ac 0) 16 (.cons (.ac 5) (.cons (.ac 2) .nil)))) .nil) .nil) .nil)) .nil) .nil)) .nil)) (.cons (.ex (.mth (.ac 0) 12 (.cons (.ac 5) .nil))) (.cons (.ite (.or (.cons (.ex (.ac 4)) (.cons (.ex (.isn true (.ac 6))) .nil))) (.cons (.ret (.ac 6)) .nil) .nil) .nil)))))))
def ip:aU:=(.cons (.whl (.ex (.eqd true (.am (.ac 0) 36) (.ad true .nil))) aI) (.cons (.ret .non) .nil))
def fT:aU:=(.cons (.sAt (.ac 0) 45 (.ite (.ex (.cmp .eq (.am (.ac 1) 5) (.gl 4))) (.am (.ac 1) 14) (.am (.ac 0) 35))) (.cons (.sAt (.ac 0) 44 (.ite (.ex (.cmp .eq (.am (.ac 1) 5) (.gl 13))) (.am (.ac 1) 0) (.int 0))) (.cons (.sAt (.ac 0) 43 (.ite (.ex (.cmp .eq (.am (.ac 1) 5) (.gl 12))) (.am (.ac 1) 16) (.int 0))) .nil)))
def iq:aU:=(.cons (.ex (.fn 17 (.cons (.ac 2) .nil))) (.cons (.asg 3 (.mx (.bin .sub (.am (.ac 2) 0) (.fn 6 (.cons (.ac 1) .nil))) (.int 0))) (.cons (.asg 4 (.new 0 (.cons (.ac 3) (.cons (.am (.ac 2) 1) (.cons (.am (.ac 2) 2) (.cons (.am (.ac 2) 3) (.cons (.am (.ac 2) 4) .nil))))))) (.cons (.ite (.ex (.cmp .eq (.am (.ac 0) 38) (.gl 36))) (.cons (.ex (.mth (.ac 0) 9 (.cons (.gl 38) .nil))) .nil) .nil) (.cons (.sAt (.ac 0) 38 (.gl 38)) (.cons (.ex (.an (.am (.ac 0) 36) (.new 3 (.cons (.ac 4) (.cons (.gl 39) .nil))))) .nil))))))
def eu:aU:=(.cons (.ite (.ex (.cmp .eq (.am (.ac 1) 5) (.gl 12))) (.cons (.ret (.am (.ac 1) 16)) .nil) .nil) (.cons (.ite (.and (.cons (.ex (.cmp .eq (.am (.ac 1) 5) (.gl 4))) (.cons (.ex (.eqd true (.am (.ac 0) 37) (.ad true .nil))) (.cons (.ex (.fn 9 (.cons (.idx (.am (.ac 0) 37) (.neg (.int 1))) .nil))) .nil)))) (.cons (.ret (.int 0)) .nil) .nil) (.cons (.ite (.and (.cons (.ex (.cmp .eq (.am (.ac 1) 5) (.gl 13))) (.cons (.ex (.cmp .eq (.am (.idx (.am (.ac 0) 36) (.int 1)) 5) (.gl 4))) .nil))) (.cons (.ret (.int 0)) .nil) .nil) (.cons (.ret .non) .nil))))
def iX:aU:=(.cons (.asg 2 (.bin .sub (.am (.ac 0) 46) (.am (.ac 0) 39))) (.cons (.ite (.or (.cons (.and (.cons (.ex (.cmp .gt (.ac 2) (.am (.ac 0) 3))) (.cons (.ex (.cmp .ge (.ac 2) (.int 0))) .nil))) (.cons (.ex (.cmp .ge (.am (.ac 0) 42) (.gl 26))) .nil))) (.cons (.ret (.gl 42)) .nil) .nil) (.cons (.ite (.ex (.cmp .le (.ac 1) (.gl 41))) (.cons (.ret (.ac 1)) .nil) .nil) (.cons (.ite (.ex (.cmp .ge (.ac 2) (.int 0))) (.cons (.asg 3 (.fn 5 (.cons (.ac 2) (.cons (.am (.ac 0) 3) .nil)))) .nil) (.cons (.ite (.or (.cons (.ex (.cmp .ne (.idx (.am (.ac 0) 1) (.int 1)) (.int 0))) (.cons (.ex (.cmp .ne (.idx (.am (.ac 0) 1) (.int 2)) (.int 0))) (.cons (.ex (.cmp .ne (.idx (.am (.ac 0) 1) (.int 3)) (.int 0))) .nil)))) (.cons (.asg 3 (.int 0)) .nil) (.cons (.asg 3 (.fn 5 (.cons (.neg (.ac 2)) (.cons (.idx (.am (.ac 0) 1) (.int 0)) .nil)))) .nil)) .nil)) (.cons (.ret (.ite (.ex (.cmp .lt (.ac 3) (.gl 2))) (.bin .add (.bin .add (.ac 3) (.ac 1)) (.am (.ac 0) 42)) (.gl 40))) .nil)))))
def b9:aU:=(.cons (.asg 5 (.idx (.am (.ac 0) 41) (.ac 4))) (.cons (.sAt (.ac 5) 28 (.am (.ac 5) 27)) .nil))
def bF:aU:=(.cons (.asg 2 (.mth (.ac 0) 14 (.cons (.ac 1) .nil))) (.cons (.ite (.or (.cons (.ex (.isn false (.ac 2))) (.cons (.ex (.cmp .ge (.ac 2) (.gl 26))) .nil))) (.cons (.ret .non) .nil) .nil) (.cons (.asg 3 (.mth (.ac 0) 4 (.cons (.ac 2) .nil))) (.cons (.ite (.or (.cons (.ex (.isn false (.am (.ac 0) 28))) (.cons (.ex (.cmp .le (.ac 3) (.am (.am (.ac 0) 28) 21))) .nil))) (.cons (.sAt (.ac 0) 28 (.new 11 (.cons (.len (.am (.ac 0) 37)) (.cons (.ite (.ex (.cmp .eq (.am (.ac 1) 5) (.gl 12))) (.ac 2) (.gl 26)) (.cons (.ac 3) (.cons (.am (.ac 0) 39) .nil)))))) (.cons (.for (.one 4) (.seq (.srt (.am (.ac 0) 41))) b9) .nil)) .nil) (.cons (.ite (.or (.cons (.ex (.cmp .eq (.ac 3) (.gl 42))) (.cons (.ex (.cmp .le (.ac 2) (.gl 41))) .nil))) (.cons (.ret (.am (.ac 0) 28)) .nil) .nil) (.cons (.ret .non) .nil))))))
def bu:aU:=(.cons (.ite (.ex (.cmp .eq (.am (.ac 1) 5) (.gl 20))) (.cons (.ex (.mth (.ac 0) 17 (.cons (.ac 1) (.cons (.mth (.ac 2) 6 (.cons (.am (.ac 1) 18) .nil)) .nil)))) .nil) (.cons (.ite (.ex (.inT false (.am (.ac 1) 5) (.gl 24))) (.cons (.aAt (.ac 0) 46 .add (.bin .add (.am (.ac 0) 7) (.fn 6 (.cons (.ac 1) .nil)))) (.cons (.sAt (.ac 0) 7 (.fn 7 (.cons (.ac 1) .nil))) .nil)) (.cons (.ite (.ex (.cmp .eq (.am (.ac 1) 5) (.gl 4))) (.cons (.aIx (.am (.ac 0) 1) (.am (.am (.ac 1) 14) 2) .add (.am (.am (.ac 1) 14) 1)) (.cons (.aAt (.ac 0) 3 .add (.am (.am (.ac 1) 14) 3)) (.cons (.aAt (.ac 0) 46 .add (.bin .add (.am (.ac 0) 7) (.am (.am (.ac 1) 14) 0))) (.cons (.sAt (.ac 0) 7 (.int 0)) .nil)))) (.cons (.ite (.ex (.cmp .eq (.am (.ac 1) 5) (.gl 13))) (.cons (.aAt (.ac 0) 46 .add (.bin .add (.am (.ac 0) 7) (.am (.ac 1) 0))) (.cons (.sAt (.ac 0) 7 (.int 0)) .nil)) .nil) .nil)) .nil)) .nil)) (.cons (.ite (.ex (.cmp .gt (.am (.ac 0) 7) (.am (.ac 0) 40))) (.cons (.aAt (.ac 0) 46 .add (.bin .sub (.am (.ac 0) 7) (.am (.ac 0) 40))) (.cons (.sAt (.ac 0) 7 (.am (.ac 0) 40)) .nil)) .nil) (.cons (.ex (.app (.am (.ac 0) 37) (.ac 1))) (.cons (.ex (.pop (.am (.ac 0) 36))) .nil))))
def bc:aU:=(.cons (.asg 3 (.dgt (.am (.ac 0) 41) (.am (.ac 1) 18))) (.cons (.ite (.and (.cons (.ex (.isn true (.ac 3))) (.cons (.ex (.cmp .ge (.am (.ac 3) 29) (.int 0))) .nil))) (.cons (.aAt (.ac 0) 42 .add (.am (.ac 1) 21)) (.cons (.ret .non) .nil)) .nil) (.cons (.asg 4 (.isn false (.ac 3))) (.cons (.ite (.ex (.ac 4)) (.cons (.ex (.fn 17 (.cons (.am (.ac 2) 24) .nil))) (.cons (.asg 3 (.new 10 (.cons (.am (.ac 2) 25) .nil))) .nil)) .nil) (.cons (.asgT [7,8,9] (.ao (.cons (.am (.ac 0) 39) (.cons (.am (.ac 0) 3) (.cons (.bin .add (.am (.ac 0) 46) (.am (.ac 0) 7)) .nil))))) (.cons (.ite (.ex (.cmp .eq (.am (.ac 0) 38) (.gl 36))) (.cons (.asgT [7,8,9] (.ao (.cons (.am (.ac 0) 33) (.cons (.int 0) (.cons (.int 0) .nil))))) .nil) .nil) (.cons (.ite (.ex (.ac 4)) (.cons (.aug 7 .sub (.bin .add (.mth (.ac 2) 5 (.cons (.am (.ac 2) 25) .nil)) (.am (.am (.ac 2) 24) 0))) (.cons (.aug 8 .add (.am (.am (.ac 2) 24) 3)) .nil)) .nil) (.cons (.asg 5 (.mth (.ac 2) 5 (.cons (.am (.ac 1) 19) .nil))) (.cons (.asg 6 (.neg (.int 1))) (.cons (.ite (.or (.cons (.ex (.cmp .gt (.ac 5) (.mx (.bin .add (.bin .sub (.ac 7) (.ac 9)) (.ac 8)) (.int 0)))) (.cons (.ex (.cmp .gt (.bin .add (.am (.ac 1) 19) (.am (.ac 3) 19)) (.am (.ac 2) 23))) .nil))) (.cons (.asg 6 (.idx (.fn 14 (.cons (.am (.ac 1) 8) (.cons (.fn 18 (.cons (.ac 2) (.cons (.bin .sub (.ac 7) (.ac 9)) (.cons (.am (.ac 3) 19) .nil)))) (.cons (.am (.ac 1) 7) .nil)))) (.int 0))) .nil) .nil) (.cons (.ite (.ex (.cmp .eq (.am (.ac 0) 38) (.gl 36))) (.cons (.ex (.mth (.ac 0) 9 (.cons (.gl 43) .nil))) .nil) .nil) (.cons (.ite (.ex (.ac 4)) (.cons (.sIx (.am (.ac 0) 41) (.am (.ac 1) 18) (.ac 3)) (.cons (.aIx (.am (.ac 0) 1) (.am (.am (.ac 2) 24) 2) .add (.am (.am (.ac 2) 24) 1)) .nil)) .nil) (.cons (.sAt (.ac 0) 39 (.ac 7)) (.cons (.sAt (.ac 0) 3 (.ac 8)) (.cons (.sAt (.ac 3) 27 (.len (.am (.ac 0) 37))) (.cons (.ite (.ex (.cmp .lt (.ac 6) (.int 0))) (.cons (.aAt (.ac 3) 19 .add (.am (.ac 1) 19)) (.cons (.aAt (.ac 0) 39 .sub (.ac 5)) .nil)) (.cons (.ex (.mth (.ac 0) 18 (.cons (.ac 1) (.cons (.ac 2) (.cons (.ac 3) (.cons (.ac 6) .nil)))))) .nil)) .nil))))))))))))))))
def ir:aU:=(.cons (.asg 5 (.fn 16 (.cons (.slt true (.am (.ac 1) 8) (.ac 4)) .nil))) (.cons (.aAt (.ac 3) 19 .add (.ac 5)) (.cons (.sAt (.ac 3) 29 (.len (.am (.ac 0) 37))) (.cons (.sAt (.ac 3) 30 (.ac 4)) (.cons (.aAt (.ac 0) 39 .sub (.mth (.ac 2) 5 (.cons (.ac 5) .nil))) (.cons (.ite (.ex (.cmp .eq (.ac 4) (.len (.am (.ac 1) 8)))) (.cons (.aAt (.ac 0) 42 .add (.gl 41)) .nil) (.cons (.ite (.ex (.cmp .eq (.am (.idx (.am (.ac 1) 8) (.ac 4)) 5) (.gl 12))) (.cons (.aAt (.ac 0) 42 .add (.am (.idx (.am (.ac 1) 8) (.ac 4)) 16)) .nil) .nil) .nil)) .nil))))))
def qu:aU:=(.cons (.sAt (.ac 0) 19 (.am (.ac 1) 19)) (.cons (.sAt (.ac 0) 32 (.am (.ac 1) 32)) (.cons (.sAt (.ac 0) 21 (.am (.ac 1) 21)) (.cons (.sAt (.ac 0) 40 (.ac 2)) (.cons (.sAt (.ac 0) 8 (.ad false .nil)) (.cons (.sAt (.ac 0) 47 (.dic false [] .nil)) (.cons (.sAt (.ac 0) 25 (.ad false .nil)) (.cons (.sAt (.ac 0) 48 (.ad false .nil)) (.cons (.sAt (.ac 0) 49 (.ad false .nil)) .nil)))))))))
def xq:Nat->Option Fn|0=>some ⟨3,[],3,rW,true⟩|1=>some ⟨1,[],1,mR,true⟩|2=>some ⟨1,[],1,lP,true⟩|3=>some ⟨1,[],1,mS,true⟩|4=>some ⟨2,[],4,oV,true⟩|5=>some ⟨2,[],3,uz,true⟩|6=>some ⟨1,[],3,qf,true⟩|7=>some ⟨1,[],3,rX,true⟩|8=>some ⟨1,[],1,jR,true⟩|9=>some ⟨1,[],1,gJ,true⟩|10=>some ⟨1,[],2,lQ,true⟩|11=>some ⟨2,[],4,kS,true⟩|12=>some ⟨3,[],4,qg,true⟩|13=>some ⟨3,[],11,oW,true⟩|14=>some ⟨3,[],3,oX,true⟩|15=>some ⟨2,[],7,wc,true⟩|16=>some ⟨1,[],3,lR,true⟩|17=>some ⟨1,[],1,lS,true⟩|18=>some ⟨3,[],4,oY,true⟩|19=>some ⟨2,[],6,fR,true⟩|20=>some ⟨4,[],5,mT,false⟩|21=>some ⟨2,[],2,qh,false⟩|22=>some ⟨1,[],2,uA,false⟩|23=>some ⟨2,[],5,rY,false⟩|24=>some ⟨1,[],5,rZ,false⟩|25=>some ⟨2,[],2,uB,false⟩|26=>some ⟨1,[],3,sb,true⟩|27=>some ⟨2,[],4,oZ,false⟩|28=>some ⟨2,[],3,se,false⟩|29=>some ⟨1,[],3,qi,false⟩|30=>some ⟨2,[],3,sf,true⟩|31=>some ⟨1,[],2,sg,true⟩|32=>some ⟨6,[],9,si,true⟩|33=>some ⟨2,[],3,mU,true⟩|34=>some ⟨2,[],6,o0,true⟩|35=>some ⟨3,[],12,qj,true⟩|36=>some ⟨2,[],2,qk,true⟩|37=>some ⟨3,[],25,sj,true⟩|38=>some ⟨2,[],6,sm,true⟩|39=>some ⟨3,[],12,uC,true⟩|40=>some ⟨2,[],4,o7,true⟩|41=>some ⟨3,[],14,sn,true⟩|42=>some ⟨6,[],14,kT,false⟩|43=>some ⟨4,[],12,gm,true⟩|44=>some ⟨1,[],19,qn,false⟩|45=>some ⟨6,[.int 0,.int 0,.int 0,.int 0,.int 0],6,qo,false⟩|46=>some ⟨1,[],1,o8,true⟩|47=>some ⟨6,[],6,sp,false⟩|48=>some ⟨3,[],3,qp,false⟩|49=>some ⟨4,[.none],4,qq,false⟩|50=>some ⟨2,[],2,lT,false⟩|51=>some ⟨2,[],2,qr,false⟩|52=>some ⟨7,[],7,mV,false⟩|53=>some ⟨1,[],1,mW,false⟩|54=>some ⟨2,[],2,lU,false⟩|55=>some ⟨2,[],2,mX,false⟩|56=>some ⟨2,[],3,mY,false⟩|57=>some ⟨2,[],2,mZ,true⟩|58=>some ⟨6,[.int 1000,.int 1073741823,.none,.int 0],6,iU,false⟩|59=>some ⟨2,[],2,ik,true⟩|60=>some ⟨2,[.ao []],3,iV,false⟩|61=>some ⟨2,[],2,jT,true⟩|62=>some ⟨2,[],2,kU,false⟩|63=>some ⟨5,[],5,qt,false⟩|64=>some ⟨3,[.int 1073741823,.int 1073741823],3,iW,false⟩|65=>some ⟨1,[],1,il,false⟩|66=>some ⟨1,[],1,im,false⟩|67=>some ⟨2,[],2,gK,false⟩|68=>some ⟨2,[],3,fj,false⟩|69=>some ⟨3,[],7,ip,false⟩|70=>some ⟨2,[],2,fT,false⟩|71=>some ⟨3,[],5,iq,false⟩|72=>some ⟨2,[],2,eu,true⟩|73=>some ⟨2,[],4,iX,true⟩|74=>some ⟨2,[],6,bF,false⟩|75=>some ⟨3,[],3,bu,false⟩|76=>some ⟨3,[],10,bc,false⟩|77=>some ⟨5,[],6,ir,false⟩|78=>some ⟨3,[],3,qu,false⟩|79=>some ⟨2,[],4,oV,true⟩|_=>none
def yR:Nat->Option Cl|0=>some ⟨45,5,true⟩|1=>some ⟨47,9,true⟩|2=>some ⟨48,2,true⟩|3=>some ⟨49,3,true⟩|4=>some ⟨50,1,true⟩|5=>some ⟨51,1,true⟩|6=>some ⟨52,6,true⟩|7=>some ⟨53,4,false⟩|8=>some ⟨58,5,true⟩|9=>some ⟨60,1,true⟩|10=>some ⟨62,5,false⟩|11=>some ⟨63,4,true⟩|12=>some ⟨64,19,false⟩|13=>some ⟨78,9,false⟩|_=>none
def eK:Nat->Nat->Option Nat|0,0=>some 0|0,1=>some 1|0,2=>some 2|0,3=>some 3|0,4=>some 4|1,5=>some 0|1,0=>some 1|1,6=>some 2|1,7=>some 3|1,8=>some 4|1,9=>some 5|1,10=>some 6|1,11=>some 7|1,12=>some 8|2,0=>some 0|2,13=>some 1|3,14=>some 0|3,13=>some 1|3,15=>some 2|4,16=>some 0|5,17=>some 0|6,18=>some 0|6,19=>some 1|6,7=>some 2|6,20=>some 3|6,21=>some 4|6,8=>some 5|7,6=>some 0|7,7=>some 1|7,1=>some 2|7,3=>some 3|8,18=>some 0|8,22=>some 1|8,23=>some 2|8,24=>some 3|8,25=>some 4|9,26=>some 0|10,19=>some 0|10,27=>some 1|10,28=>some 2|10,29=>some 3|10,30=>some 4|11,31=>some 0|11,32=>some 1|11,21=>some 2|11,19=>some 3|12,33=>some 0|12,34=>some 1|12,35=>some 2|12,36=>some 3|12,25=>some 4|12,37=>some 5|12,38=>some 6|12,39=>some 7|12,40=>some 8|12,41=>some 9|12,42=>some 10|12,43=>some 11|12,44=>some 12|12,45=>some 13|12,46=>some 14|12,1=>some 15|12,3=>some 16|12,7=>some 17|12,28=>some 18|13,19=>some 0|13,32=>some 1|13,21=>some 2|13,40=>some 3|13,8=>some 4|13,47=>some 5|13,25=>some 6|13,48=>some 7|13,49=>some 8|_,_=>none
def uD:Nat->Nat->Option V|2,5=>some (.int 5)|3,5=>some (.int 6)|4,5=>some (.int 7)|5,5=>some (.int 9)|6,5=>some (.int 10)|_,_=>none
def lV:Nat->Nat->Option Nat|0,0=>some 46|7,1=>some 54|7,2=>some 55|7,3=>some 56|7,4=>some 57|8,5=>some 59|9,6=>some 61|12,7=>some 65|12,8=>some 66|12,9=>some 67|12,10=>some 68|12,11=>some 69|12,12=>some 70|12,13=>some 71|12,14=>some 72|12,4=>some 73|12,15=>some 74|12,16=>some 75|12,17=>some 76|12,18=>some 77|_,_=>none
def Iy:Nat->V|0=>.int 2147483647|1=>.int 1073741823|2=>.int 10000|3=>.int 8|4=>.int 6|5=>.int 4|6=>.int 14|7=>.int 3|8=>.int 2|9=>.int 1|10=>.int 0|11=>.int 12|12=>.int 7|13=>.int 5|14=>.int (-10000)|15=>.int 100000|16=>.int 1073741823|17=>.ao [.int 2,.int 3,.int 4,.int 14]|18=>.int 10000|19=>.int 13|20=>.int 10|21=>.int 9|22=>.int 100|23=>.int 8|24=>.ao [.int 2,.int 3,.int 4]|25=>.int 0|26=>.int 10000|27=>.int 3|28=>.int 0|29=>.int 3|30=>.int 0|31=>.int 1|32=>.int 3|33=>.int 5|34=>.int 0|35=>.int 254|36=>.int 0|37=>.ao [.int 2,.int 3,.int 4,.int 5,.int 6,.int 7,.int 9,.int 10,.int 13]|38=>.int 2|39=>.int 107|40=>.int 100000|41=>.int (-10000)|42=>.int 1073741823|43=>.int 1|_=>.none
def tb:Tb:=⟨xq,yR,eK,uD,lV,Iy⟩
end Mine
end
noncomputable section
open PySem PySem.W PySem.Calls PyProof.Rows
set_option maxRecDepth 100000
namespace Mine
def gB:Nat->Str
 |0=>"width"
 |1=>"stretch"
 |2=>"stretch_order"
 |3=>"shrink"
 |4=>"shrink_order"
 |5=>"kind"
 |6=>"height"
 |7=>"depth"
 |8=>"items"
 |9=>"shift"
 |10=>"sign"
 |11=>"order"
 |12=>"ratio"
 |13=>"sort"
 |14=>"glue"
 |15=>"leader"
 |16=>"value"
 |17=>"tokens"
 |18=>"number"
 |19=>"size"
 |20=>"top"
 |21=>"cost"
 |22=>"factor"
 |23=>"most"
 |24=>"skip"
 |25=>"held"
 |26=>"rows"
 |27=>"last"
 |28=>"best"
 |29=>"split_at"
 |30=>"split_place"
 |31=>"place"
 |32=>"penalty"
 |33=>"vsize"
 |34=>"max_depth"
 |35=>"no_glue"
 |36=>"contributions"
 |37=>"page"
 |38=>"state"
 |39=>"goal"
 |40=>"most_depth"
 |41=>"inserts"
 |42=>"insert_penalties"
 |43=>"last_penalty"
 |44=>"last_kern"
 |45=>"last_glue"
 |46=>"total"
 |47=>"inserted"
 |48=>"rest"
 |49=>"marks"
 |_=>"?"
def xT:Nat->Str
 |0=>"parts"
 |1=>"stand"
 |2=>"keep"
 |3=>"flow"
 |4=>"cost"
 |5=>"taken"
 |6=>"of"
 |7=>"start"
 |8=>"clear"
 |9=>"freeze"
 |10=>"contribute"
 |11=>"build"
 |12=>"remember"
 |13=>"begin"
 |14=>"penalty_ahead"
 |15=>"tried"
 |16=>"take"
 |17=>"insert"
 |18=>"split"
 |_=>"?"
def xU:Nat->Str
 |0=>"MAX_NUMBER"
 |1=>"MAX_DIMEN"
 |2=>"INF_BAD"
 |3=>"DISC"
 |4=>"GLUE"
 |5=>"RULE"
 |6=>"UNSET"
 |7=>"VBOX"
 |8=>"HBOX"
 |9=>"LIGATURE"
 |10=>"CHAR"
 |11=>"MATH"
 |12=>"PENALTY"
 |13=>"KERN"
 |14=>"EJECT_boxops"
 |15=>"DEPLORABLE_boxops"
 |16=>"AWFUL_boxops"
 |17=>"STANDING"
 |18=>"INF_PENALTY_boxops"
 |19=>"SPECIAL"
 |20=>"INSERT"
 |21=>"MARK"
 |22=>"NAMED"
 |23=>"SPLIT_TOP_SKIP"
 |24=>"SIZED"
 |25=>"NORMAL"
 |26=>"INF_PENALTY_pages"
 |27=>"FILLL"
 |28=>"NATURAL"
 |29=>"MU_KERN"
 |30=>"FONT_KERN"
 |31=>"ALEADERS"
 |32=>"XLEADERS"
 |33=>"NONSCRIPT"
 |34=>"PLAIN"
 |35=>"MOST_CLASS"
 |36=>"EMPTY"
 |37=>"PARTS"
 |38=>"BOXES"
 |39=>"TOP_SORT"
 |40=>"DEPLORABLE_pages"
 |41=>"EJECT_pages"
 |42=>"AWFUL_pages"
 |43=>"INSERTS"
 |_=>"?"
def xV:Nat->Str
 |0=>"is_whole"
 |1=>"check_whole"
 |2=>"check_number"
 |3=>"check_dimen"
 |4=>"over"
 |5=>"badness"
 |6=>"height_of"
 |7=>"depth_of"
 |8=>"is_discardable"
 |9=>"is_breakable_ahead"
 |10=>"check_column"
 |11=>"break_penalty"
 |12=>"cost_here"
 |13=>"best_break"
 |14=>"vert_break"
 |15=>"pruned"
 |16=>"natural_size"
 |17=>"check_finite"
 |18=>"split_room"
 |19=>"send"
 |20=>"send_insert"
 |21=>"next_page"
 |22=>"_law_jar"
 |23=>"_law_take"
 |24=>"_law_glue"
 |25=>"_law_box"
 |26=>"_law_size"
 |27=>"_law_insert"
 |28=>"_law_item"
 |29=>"_law_class"
 |30=>"_law_node"
 |31=>"_law_told"
 |32=>"_law_cost"
 |33=>"_law_penalty"
 |34=>"_law_column"
 |35=>"_law_split"
 |36=>"_law_taken"
 |37=>"_law_sums"
 |38=>"_law_line"
 |39=>"_law_end"
 |40=>"_law_pruned"
 |41=>"_law_sent"
 |42=>"_law_same_page"
 |43=>"_law_same_sums"
 |44=>"law"
 |79=>"over_scaled"
 |_=>⟨#[]⟩
def C4:Nat->Str
 |0=>"Glue"
 |1=>"Box"
 |2=>"Kern"
 |3=>"Skip"
 |4=>"Penalty"
 |5=>"Mark"
 |6=>"Insert"
 |7=>"Column"
 |8=>"InsertClass"
 |9=>"InsertTable"
 |10=>"Inserted"
 |11=>"Page"
 |12=>"PageBuilder"
 |13=>"Sent"
 |_=>"?"
def vx:Nat->Addr
 |0=>105
 |1=>112
 |2=>119
 |3=>126
 |4=>161
 |5=>168
 |6=>406
 |7=>411
 |8=>432
 |9=>439
 |10=>446
 |11=>503
 |12=>510
 |13=>517
 |14=>524
 |15=>531
 |16=>544
 |17=>551
 |18=>558
 |19=>807
 |20=>814
 |21=>821
 |22=>826
 |23=>833
 |24=>840
 |25=>847
 |26=>854
 |27=>861
 |28=>868
 |29=>875
 |30=>880
 |31=>885
 |32=>892
 |33=>899
 |34=>906
 |35=>913
 |36=>920
 |37=>925
 |38=>930
 |39=>937
 |40=>944
 |41=>951
 |42=>956
 |43=>961
 |44=>966
 |45=>197
 |46=>204
 |47=>288
 |48=>309
 |49=>331
 |50=>352
 |51=>373
 |52=>394
 |53=>461
 |54=>468
 |55=>475
 |56=>482
 |57=>489
 |58=>573
 |59=>580
 |60=>603
 |61=>610
 |62=>631
 |63=>652
 |64=>674
 |65=>681
 |66=>688
 |67=>695
 |68=>709
 |69=>716
 |70=>723
 |71=>730
 |72=>737
 |73=>744
 |74=>751
 |75=>758
 |76=>765
 |77=>772
 |78=>793
 |79=>161
 |_=>0
def o9:Nat->Addr
 |0=>250
 |1=>291
 |2=>312
 |3=>334
 |4=>355
 |5=>376
 |6=>397
 |7=>492
 |8=>583
 |9=>613
 |10=>634
 |11=>655
 |12=>775
 |13=>796
 |_=>0
def PM:Nm:=⟨gB,xT,xU,λn=>Nat.blt n 44,xV,C4,vx,o9⟩
def nA:Nat->List Str
 |0=>["value","low","high"]
 |1=>["value"]
 |2=>["value"]
 |3=>["value"]
 |4=>["value","by","quotient","rest"]
 |5=>["excess","total","ratio"]
 |6=>["node","kind","part"]
 |7=>["node","kind","part"]
 |8=>["node"]
 |9=>["node"]
 |10=>["items","node"]
 |11=>["items","place","node","is_last"]
 |12=>["column","goal","penalty","bad"]
 |13=>["items","height","most_depth","column","place","best","least","size","penalty","node","cost"]
 |14=>["items","height","most_depth"]
 |15=>["items","top","kept","place","node","height","room"]
 |16=>["items","found","node"]
 |17=>["glue"]
 |18=>["row","free","size","room"]
 |19=>["builder","found","sent","number","place","node"]
 |20=>["sent","node","place","entry","rest"]
 |21=>["builder","sent"]
 |22=>["script","cell"]
 |23=>["jar","many","cells","at","digit"]
 |24=>["jar","order","breadth","up","down"]
 |25=>["jar","label"]
 |26=>["items","found","item"]
 |27=>["jar","label","parts","more"]
 |28=>["jar","label","sort"]
 |29=>["jar","share","most"]
 |30=>["item","deep","part"]
 |31=>["node","part"]
 |32=>["tall","goal","stretch","shrink","price","extra","far","give","ratio"]
 |33=>["line","at","item"]
 |34=>["items","deep","item","stretch","shrink","depth"]
 |35=>["parts","room","deep","at","best","least","price","cost","tall","depth","stretch","shrink"]
 |36=>["size","share"]
 |37=>["line","sizes","classes","goal","extra","rows","more","give","at","item","row","free","need","room","place","tall","depth","stretch","shrink","share","most","gap","held","one","other"]
 |38=>["waiting","top","at","item","first","one"]
 |39=>["line","sizes","classes","best","at","item","price","cost","goal","sums","extra","rows"]
 |40=>["parts","breadth","at","item"]
 |41=>["line","place","rows","which","behind","kept","gone","held","at","item","cut","left","row","parts"]
 |42=>["builder","found","line","end","sizes","classes","sent","which","kept","gone","held","behind","node","item"]
 |43=>["builder","line","sizes","classes","late","here","goal","sums","extra","rows","item","node"]
 |44=>["script","jar","many","items","sizes","table","piece","top","classes","cut","builder","waiting","page","label","line","one","end","found","item"]
 |45=>["self","width","stretch","stretch_order","shrink","shrink_order"]
 |46=>["self"]
 |47=>["self","kind","width","height","depth","items"]
 |48=>["self","width","sort"]
 |49=>["self","glue","sort","leader"]
 |50=>["self","value"]
 |51=>["self","tokens"]
 |52=>["self","number","size","depth","top","cost","items"]
 |53=>["self"]
 |54=>["self","node"]
 |55=>["self","most_depth"]
 |56=>["self","node","size"]
 |57=>["self","goal"]
 |58=>["self","number","factor","most","skip","held"]
 |59=>["self","size"]
 |60=>["self","rows","row"]
 |61=>["self","number"]
 |62=>["self","size"]
 |63=>["self","place","penalty","cost","size"]
 |64=>["self","vsize","max_depth"]
 |65=>["self"]
 |66=>["self"]
 |67=>["self","state"]
 |68=>["self","items","node"]
 |69=>["self","top_skip","classes","is_begun","is_waiting","node","found"]
 |70=>["self","node"]
 |71=>["self","node","top_skip","width","glue"]
 |72=>["self","node"]
 |73=>["self","penalty","excess","bad"]
 |74=>["self","node","penalty","cost","number","entry"]
 |75=>["self","node","classes"]
 |76=>["self","node","row","entry","is_first","need","place","goal","shrink","used"]
 |77=>["self","node","row","entry","place","size"]
 |78=>["self","found","most_depth"]
 |79=>["value","by","quotient","rest"]
 |_=>[]
end Mine
end
noncomputable section
open PySem PySem.W PySem.Calls PyProof.Rows
set_option maxRecDepth 100000
namespace Mine.D
variable (P:Params)
abbrev pg:Program:=PySem.Challenge.pw_rg0166_01
def st(k:Nat):Stmt:=(pg.main.body[k]?).getD default
def cb:Stmt->List Stmt
 |.ClassDef (body:=b) .. =>b
 |_=>[]
def ct(k j:Nat):Stmt:=((cb (st k))[j]?).getD default
def PN:Stmt->List Stmt
 |.FunctionDef (body:=b) .. =>b
 |_=>[]
def PO:Stmt->Scope
 |.FunctionDef (scope:=b) .. =>b
 |_=>default
def PP:Stmt->Arguments
 |.FunctionDef (args:=b) .. =>b
 |_=>default
abbrev N:Value:=.none
abbrev T:Value:=.bool true
abbrev F:Value:=.bool false
abbrev I(i:Int):Value:=.int i 0
abbrev J(i:Int)(t:Nat):Value:=.int i t
abbrev S(x:Str)(t:Nat):Value:=.str x t
abbrev Y(n:String):Value:=.type n
abbrev B(n:String):Value:=.builtin n
abbrev R(a:Nat):Value:=.ref a
abbrev o(v:Value):Option Value:=some v
abbrev e(P:Params)(x:Str)(t:Nat)(v:Value):DictEntry:=⟨PyData.keyHash P x,.str x t,v⟩
abbrev tp(xs:List Value):Obj:=⟨.type "tuple",none,.seq xs.toArray 0, #[]⟩
abbrev dc(es:List DictEntry)(n:Nat):Obj:=⟨.type "dict",none,.dict es.toArray n, #[]⟩
abbrev fx(xs:List Value):Obj:=⟨.none,none,.fields xs.toArray, #[]⟩
abbrev fl(n:String)(xs:List Value):Obj:=⟨.type n,none,.fields xs.toArray, #[]⟩
abbrev sl(n:String)(xs:List (Option Value)):Obj:=⟨.type n,none,.plain,xs.toArray⟩
abbrev cl(n:Str)(bs mro:List Value)(ns:Nat)(q:Str)(sub:List Value)(xs:List (Option Value)):Obj:=⟨.type "type",none,.cls {name:=n,bases:=bs,mro:=mro,ns:=ns,qualname:=q,subclasses:=sub},xs.toArray⟩
abbrev fo(c:Value)(n q:Str)(d:Stmt)(g:Nat)(dv pm cd:Value):Obj:=⟨c,none,.func {name:=n,qualname:=q,params:=PP d,body:=.stmts (PN d),scope:=PO d,globals:=g,closure:=[],defaults:=dv,kwdefaults:=.none,pyModule:=pm,code:=cd}, #[]⟩
abbrev cQ:Value:=S "gluepage.nodes" 533
abbrev cW:Value:=S "gluepage.pages" 989
abbrev fB:Value:=S "gluepage.scaled" 300
abbrev jK:Value:=S "gluepage.errors" 206
abbrev mK:Value:=S "gluepage.boxops" 850
abbrev xr:Value:=S "gluepage.pageout" 1381
abbrev wd:Value:=S "__main__" 164
abbrev f0(a b:Str)(d:Stmt):Obj:=fo N a b d 0 N N N
abbrev f1(a b:Str)(d:Stmt)(m:Value)(c:Nat):Obj:=fo (Y "function") a b d 3 N m (R c)
abbrev co(A:Str)(n:Nat)(B:Str)(a b c d e:Int)(f:Nat)(t:Value)(g:Nat)(w x y z:Value)(k:Nat):Obj:=fl "code" [S A n,S B (n+1),S "/claim/cut.py" (n+2),I a,I b,I c,I d,I e,R f,t,I 181,R g,w,x,y,z,I k,I a,S "/claim/cut.py" (k+1)]
abbrev bf(a b:Value):Obj:=fl "builtin_function_or_method" [a,b]
abbrev gd(a:List Value):Obj:=fl "getset_descriptor" a
abbrev fm(a:List (Option Value)):Obj:=sl "frame" a
abbrev e0:Obj:=tp []
abbrev n0:Obj:=fx []
def QK:=co "<module>" 182 "<module>" 1 0 0 0 0 11 F 12 N N N N 185
def QL:=fm [o (R 13),o (R 3),o (R 3),none,o wd,none,o (R 0)]
def QM:=tp [(S "k" 190)]
def QN:=f0 "_wall" "_wall" (st 0)
def PQ:=co "_wall" 187 "_wall" 1 1 0 0 3 15 T 16 N (R 17) (R 18) (R 19) 191
def PT:=f1 "_wall" "_wall" (st 0) wd 20
def QO:=tp [(J 7 194),(J 8 195),(J 9 196),(J 10 197),(J 11 198),(J 12 199)]
def QP:=fl "tuple_iterator" [N,(I 6)]
def QQ:=fl "StopIteration" [(R 24),N,N,N,F,N]
def QR:=tp [(Y "ValueError")]
def QS:=bf (B "type.__prepare__") (Y "type")
def QT:=dc [e P "__module__" 215 jK,e P "__qualname__" 217 (S "PageError" 216),e P "__firstlineno__" 219 (J 6 218),e P "__init__" 228 (R 40),e P "__static_attributes__" 230 (R 41)] 5
def QU:=fx [(I 8),(I 4),(R 39)]
def QV:=co "PageError" 210 "PageError" 6 0 0 0 0 29 F 30 N N N N 213
def QW:=fm [o (R 31),o (R 3),o (R 28),none,o jK,none,o (R 0)]
def PV:=tp [(S "" 220)]
def QX:=tp [(S "self" 224),(S "reason" 225)]
def QY:=f0 "__init__" "PageError.__init__" (ct 3 0)
def PW:=co "__init__" 221 "PageError.__init__" 8 2 0 0 3 34 T 35 N (R 36) (R 37) (R 38) 226
def PX:=fo (Y "function") "__init__" "PageError.__init__" (ct 3 0) 3 (R 33) jK (R 39)
def Iz:=tp [(S "reason" 229)]
def PY:=dc [e P "__module__" 215 jK,e P "__firstlineno__" 219 (J 6 218),e P "__init__" 228 (R 40),e P "__static_attributes__" 230 (R 41),e P "__weakref__" 232 (R 44),e P "__doc__" 233 N] 3
def QZ:=gd [(S "__weakref__" 231),(R 43),(B "ExceptionGroup.__weakref__"),N]
def Q0:=fl "super" [(R 43),(R 43),(R 43)]
def Q1:=bf (B "object.__init_subclass__") (R 43)
def Q2:=tp [(R 43)]
def Q3:=bf (B "type.__prepare__") (Y "type")
def Q4:=dc [e P "__module__" 243 jK,e P "__qualname__" 245 (S "BadArgument" 244),e P "__firstlineno__" 247 (J 10 246),e P "__static_attributes__" 248 (R 54)] 4
def Q5:=co "BadArgument" 238 "BadArgument" 10 0 0 0 0 50 F 51 N N N N 241
def Q6:=fm [o (R 52),o (R 3),o (R 49),none,o jK,none,o (R 0)]
def PZ:=dc [e P "__module__" 243 jK,e P "__firstlineno__" 247 (J 10 246),e P "__static_attributes__" 248 (R 54),e P "__doc__" 249 N] 2
def P0:=cl "BadArgument" [(R 43)] [(R 56),(R 43),(Y "ValueError"),(Y "Exception"),(Y "BaseException"),(Y "object")] 55 "BadArgument" [] [o (R 47),none,o (S "BadArgument" 236),o (S "BadArgument" 244),o (B "ValueError.__new__"),o T]
def Q7:=fl "super" [(R 56),(R 56),(R 56)]
def Q8:=bf (B "object.__init_subclass__") (R 56)
def Q9:=tp [(R 43)]
def C5:=bf (B "type.__prepare__") (Y "type")
def Ra:=dc [e P "__module__" 259 jK,e P "__qualname__" 261 (S "Overflow" 260),e P "__firstlineno__" 263 (J 12 262),e P "__static_attributes__" 264 (R 66)] 4
def Rb:=co "Overflow" 254 "Overflow" 12 0 0 0 0 62 F 63 N N N N 257
def Rc:=fm [o (R 64),o (R 3),o (R 61),none,o jK,none,o (R 0)]
def P1:=dc [e P "__module__" 259 jK,e P "__firstlineno__" 263 (J 12 262),e P "__static_attributes__" 264 (R 66),e P "__doc__" 265 N] 2
def P2:=cl "Overflow" [(R 43)] [(R 68),(R 43),(Y "ValueError"),(Y "Exception"),(Y "BaseException"),(Y "object")] 67 "Overflow" [] [o (R 59),none,o (S "Overflow" 252),o (S "Overflow" 260),o (B "ValueError.__new__"),o T]
def Rd:=fl "super" [(R 68),(R 68),(R 68)]
def Re:=bf (B "object.__init_subclass__") (R 68)
def Rf:=tp [(R 43)]
def Rg:=bf (B "type.__prepare__") (Y "type")
def Rh:=dc [e P "__module__" 275 jK,e P "__qualname__" 277 (S "BadBox" 276),e P "__firstlineno__" 279 (J 14 278),e P "__static_attributes__" 280 (R 78)] 4
def Ri:=co "BadBox" 270 "BadBox" 14 0 0 0 0 74 F 75 N N N N 273
def Rj:=fm [o (R 76),o (R 3),o (R 73),none,o jK,none,o (R 0)]
def P3:=dc [e P "__module__" 275 jK,e P "__firstlineno__" 279 (J 14 278),e P "__static_attributes__" 280 (R 78),e P "__doc__" 281 N] 2
def P4:=cl "BadBox" [(R 43)] [(R 80),(R 43),(Y "ValueError"),(Y "Exception"),(Y "BaseException"),(Y "object")] 79 "BadBox" [] [o (R 71),none,o (S "BadBox" 268),o (S "BadBox" 276),o (B "ValueError.__new__"),o T]
def Rk:=fl "super" [(R 80),(R 80),(R 80)]
def Rm:=bf (B "object.__init_subclass__") (R 80)
def Rn:=tp [(R 43)]
def Ro:=bf (B "type.__prepare__") (Y "type")
def Rp:=dc [e P "__module__" 291 jK,e P "__qualname__" 293 (S "BadPage" 292),e P "__firstlineno__" 295 (J 16 294),e P "__static_attributes__" 296 (R 90)] 4
def Rq:=co "BadPage" 286 "BadPage" 16 0 0 0 0 86 F 87 N N N N 289
def Rs:=fm [o (R 88),o (R 3),o (R 85),none,o jK,none,o (R 0)]
def P5:=dc [e P "__module__" 291 jK,e P "__firstlineno__" 295 (J 16 294),e P "__static_attributes__" 296 (R 90),e P "__doc__" 297 N] 2
def P6:=cl "BadPage" [(R 43)] [(R 92),(R 43),(Y "ValueError"),(Y "Exception"),(Y "BaseException"),(Y "object")] 91 "BadPage" [] [o (R 83),none,o (S "BadPage" 284),o (S "BadPage" 292),o (B "ValueError.__new__"),o T]
def Rt:=fl "super" [(R 92),(R 92),(R 92)]
def Ru:=bf (B "object.__init_subclass__") (R 92)
def Rv:=tp [(J 0 318),(J 1 319),(J 2 320),(J 3 321)]
def Rw:=fl "tuple_iterator" [N,(I 4)]
def Rx:=fl "StopIteration" [(R 97),N,N,N,F,N]
def IA:=tp [(S "value" 329),(S "low" 330),(S "high" 331)]
def IB:=f0 "is_whole" "is_whole" (st 14)
def C6:=co "is_whole" 326 "is_whole" 24 3 0 0 3 99 T 100 N (R 101) (R 102) (R 103) 332
def C7:=f1 "is_whole" "is_whole" (st 14) fB 104
def IC:=tp [(S "value" 338)]
def ID:=f0 "check_whole" "check_whole" (st 15)
def C8:=co "check_whole" 335 "check_whole" 26 1 0 0 3 106 T 107 N (R 108) (R 109) (R 110) 339
def C9:=f1 "check_whole" "check_whole" (st 15) fB 111
def IE:=tp [(S "value" 345)]
def IF:=f0 "check_number" "check_number" (st 16)
def Da:=co "check_number" 342 "check_number" 30 1 0 0 3 113 T 114 N (R 115) (R 116) (R 117) 346
def Db:=f1 "check_number" "check_number" (st 16) fB 118
def IG:=tp [(S "value" 352)]
def IH:=f0 "check_dimen" "check_dimen" (st 17)
def Dc:=co "check_dimen" 349 "check_dimen" 34 1 0 0 3 120 T 121 N (R 122) (R 123) (R 124) 353
def Dd:=f1 "check_dimen" "check_dimen" (st 17) fB 125
def II:=tp [(S "number" 359),(S "by" 360)]
def IJ:=f0 "rounded" "rounded" (st 18)
def De:=co "rounded" 356 "rounded" 38 2 0 0 3 127 T 128 N (R 129) (R 130) (R 131) 361
def Df:=f1 "rounded" "rounded" (st 18) fB 132
def IK:=tp [(S "whole" 367),(S "scale" 368)]
def IL:=f0 "reading" "reading" (st 19)
def Dg:=co "reading" 364 "reading" 44 2 0 0 3 134 T 135 N (R 136) (R 137) (R 138) 369
def Dh:=f1 "reading" "reading" (st 19) fB 139
def IM:=tp [(S "value" 375),(S "sign" 376),(S "points" 377),(S "part" 378),(S "scale" 379),(S "near" 380),(S "places" 381)]
def IN:=f0 "decimal_text" "decimal_text" (st 20)
def Di:=co "decimal_text" 372 "decimal_text" 46 1 0 0 3 141 T 142 N (R 143) (R 144) (R 145) 382
def Dj:=f1 "decimal_text" "decimal_text" (st 20) fB 146
def IO:=tp [(S "count" 388),(S "value" 389),(S "more" 390)]
def IP:=f0 "times" "times" (st 21)
def Dk:=co "times" 385 "times" 57 3 0 0 3 148 T 149 N (R 150) (R 151) (R 152) 391
def Dl:=f1 "times" "times" (st 21) fB 153
def IQ:=tp [(S "value" 398),(S "by" 399),(S "quotient" 400),(S "rest" 401)]
def IR:=f0 "over" "over" (st 23)
def Dm:=co "over" 395 "over" 60 2 0 0 3 155 T 156 N (R 157) (R 158) (R 159) 402
def Dn:=f1 "over" "over" (st 23) fB 160
def IS:=tp [(S "excess" 409),(S "total" 410),(S "ratio" 411)]
def IT:=f0 "badness" "badness" (st 25)
def Do:=co "badness" 406 "badness" 70 2 0 0 3 162 T 163 N (R 164) (R 165) (R 166) 412
def Dp:=f1 "badness" "badness" (st 25) fB 167
def IU:=tp [(S "order" 418)]
def IV:=f0 "order_text" "order_text" (st 26)
def Dq:=co "order_text" 415 "order_text" 86 1 0 0 3 169 T 170 N (R 171) (R 172) (R 173) 419
def Dr:=f1 "order_text" "order_text" (st 26) fB 174
def IW:=tp [(S "value" 425),(S "order" 426),(S "unit" 427)]
def IX:=f0 "part_text" "part_text" (st 27)
def Ds:=co "part_text" 422 "part_text" 88 3 0 0 3 176 T 177 N (R 178) (R 179) (R 180) 428
def Dt:=f1 "part_text" "part_text" (st 27) fB 181
def IY:=bf (B "type.__prepare__") (Y "type")
def IZ:=dc [e P "__module__" 438 fB,e P "__qualname__" 440 (S "Glue" 439),e P "__firstlineno__" 442 (J 90 441),e P "__init__" 459 (R 197),e P "parts" 466 (R 204),e P "same" 474 (R 211),e P "added" 482 (R 218),e P "times" 492 (R 225),e P "over" 502 (R 232),e P "negated" 509 (R 239),e P "text" 519 (R 247),e P "__static_attributes__" 525 (R 248)] 12
def I8:=fx [(I 92),(I 4),(R 196),(I 101),(I 4),(R 203),(I 104),(I 4),(R 210),(I 107),(I 4),(R 217),(I 110),(I 4),(R 224),(I 114),(I 4),(R 231),(I 118),(I 4),(R 238),(I 121),(I 4),(R 246)]
def I9:=co "Glue" 433 "Glue" 90 0 0 0 0 186 F 187 N N N N 436
def Ja:=fm [o (R 188),o (R 3),o (R 185),none,o fB,none,o (R 0)]
def Du:=tp [(J 0 443),(J 0 444),(J 0 445),(J 0 446),(J 0 447)]
def Jb:=tp [(S "self" 451),(S "width" 452),(S "stretch" 453),(S "stretch_order" 454),(S "shrink" 455),(S "shrink_order" 456)]
def Jc:=f0 "__init__" "Glue.__init__" (ct 28 0)
def Dv:=co "__init__" 448 "Glue.__init__" 92 6 0 0 3 191 T 192 N (R 193) (R 194) (R 195) 457
def Dw:=fo (Y "function") "__init__" "Glue.__init__" (ct 28 0) 3 (R 190) fB (R 196)
def Jd:=tp [(S "self" 463)]
def Je:=f0 "parts" "Glue.parts" (ct 28 1)
def Dx:=co "parts" 460 "Glue.parts" 101 1 0 0 3 198 T 199 N (R 200) (R 201) (R 202) 464
def Dy:=f1 "parts" "Glue.parts" (ct 28 1) fB 203
def Jf:=tp [(S "self" 470),(S "other" 471)]
def Jg:=f0 "same" "Glue.same" (ct 28 2)
def Dz:=co "same" 467 "Glue.same" 104 2 0 0 3 205 T 206 N (R 207) (R 208) (R 209) 472
def DA:=f1 "same" "Glue.same" (ct 28 2) fB 210
def Jh:=tp [(S "self" 478),(S "other" 479)]
def Ji:=f0 "added" "Glue.added" (ct 28 3)
def DB:=co "added" 475 "Glue.added" 107 2 0 0 3 212 T 213 N (R 214) (R 215) (R 216) 480
def DC:=f1 "added" "Glue.added" (ct 28 3) fB 217
def Jj:=tp [(S "self" 486),(S "count" 487),(S "stretch" 488),(S "shrink" 489)]
def Jk:=f0 "times" "Glue.times" (ct 28 4)
def DD:=co "times" 483 "Glue.times" 110 2 0 0 3 219 T 220 N (R 221) (R 222) (R 223) 490
def DE:=f1 "times" "Glue.times" (ct 28 4) fB 224
def Jl:=tp [(S "self" 496),(S "by" 497),(S "stretch" 498),(S "shrink" 499)]
def Jm:=f0 "over" "Glue.over" (ct 28 5)
def DF:=co "over" 493 "Glue.over" 114 2 0 0 3 226 T 227 N (R 228) (R 229) (R 230) 500
def DG:=f1 "over" "Glue.over" (ct 28 5) fB 231
def Jn:=tp [(S "self" 506)]
def Jo:=f0 "negated" "Glue.negated" (ct 28 6)
def DH:=co "negated" 503 "Glue.negated" 118 1 0 0 3 233 T 234 N (R 235) (R 236) (R 237) 507
def DI:=f1 "negated" "Glue.negated" (ct 28 6) fB 238
def DJ:=tp [(S "pt" 510)]
def Jp:=tp [(S "self" 514),(S "unit" 515),(S "found" 516)]
def Jq:=f0 "text" "Glue.text" (ct 28 7)
def DK:=co "text" 511 "Glue.text" 121 2 0 0 3 241 T 242 N (R 243) (R 244) (R 245) 517
def DL:=fo (Y "function") "text" "Glue.text" (ct 28 7) 3 (R 240) fB (R 246)
def Jr:=tp [(S "shrink" 520),(S "shrink_order" 521),(S "stretch" 522),(S "stretch_order" 523),(S "width" 524)]
def DM:=dc [e P "__module__" 438 fB,e P "__firstlineno__" 442 (J 90 441),e P "__init__" 459 (R 197),e P "parts" 466 (R 204),e P "same" 474 (R 211),e P "added" 482 (R 218),e P "times" 492 (R 225),e P "over" 502 (R 232),e P "negated" 509 (R 239),e P "text" 519 (R 247),e P "__static_attributes__" 525 (R 248),e P "__dict__" 527 (R 251),e P "__weakref__" 529 (R 252),e P "__doc__" 530 N] 4
def DN:=cl "Glue" [(Y "object")] [(R 250),(Y "object")] 249 "Glue" [] [none,none,o (S "Glue" 431),o (S "Glue" 439),o (B "object.__new__"),o T]
def Js:=gd [(S "__dict__" 526),(R 250),(B "function.__dict__"),(B "function.__dict__#set")]
def Jt:=gd [(S "__weakref__" 528),(R 250),(B "ExceptionGroup.__weakref__"),N]
def Ju:=fl "super" [(R 250),(R 250),(R 250)]
def Jv:=bf (B "object.__init_subclass__") (R 250)
def Jw:=tp [(J 0 535),(J 1 536),(J 2 537),(J 3 538),(J 4 539),(J 5 540),(J 6 541),(J 7 542)]
def Jx:=fl "tuple_iterator" [N,(I 8)]
def Jy:=fl "StopIteration" [(R 257),N,N,N,F,N]
def Jz:=tp [(J 8 551),(J 9 552),(J 10 553),(J 11 554),(J 12 555),(J 13 556),(J 14 557)]
def JA:=fl "tuple_iterator" [N,(I 7)]
def JB:=fl "StopIteration" [(R 261),N,N,N,F,N]
def JC:=tp [(J 0 565),(J 1 566),(J 2 567)]
def JD:=fl "tuple_iterator" [N,(I 3)]
def JE:=fl "StopIteration" [(R 265),N,N,N,F,N]
def JF:=tp [(J 0 571),(J 1 572),(J 2 573),(J 3 574)]
def JG:=fl "tuple_iterator" [N,(I 4)]
def JH:=fl "StopIteration" [(R 269),N,N,N,F,N]
def JI:=tp [(J 0 579),(J 1 580),(J 2 581),(J 3 582),(J 4 583),(J 5 584),(J 100 585)]
def JJ:=fl "tuple_iterator" [N,(I 7)]
def JK:=fl "StopIteration" [(R 273),N,N,N,F,N]
def JL:=bf (B "type.__prepare__") (Y "type")
def JM:=dc [e P "__module__" 600 cQ,e P "__qualname__" 602 (S "Box" 601),e P "__firstlineno__" 604 (J 134 603),e P "__init__" 616 (R 288),e P "__static_attributes__" 626 (R 289)] 5
def JN:=fx [(I 136),(I 4),(R 287)]
def JO:=co "Box" 595 "Box" 134 0 0 0 0 278 F 279 N N N N 598
def JP:=fm [o (R 280),o (R 3),o (R 277),none,o cQ,none,o (R 0)]
def JQ:=tp [(S "self" 608),(S "kind" 609),(S "width" 610),(S "height" 611),(S "depth" 612),(S "items" 613)]
def JR:=f0 "__init__" "Box.__init__" (ct 35 0)
def DO:=co "__init__" 605 "Box.__init__" 136 6 0 0 3 282 T 283 N (R 284) (R 285) (R 286) 614
def DP:=f1 "__init__" "Box.__init__" (ct 35 0) cQ 287
def JS:=tp [(S "depth" 617),(S "height" 618),(S "items" 619),(S "kind" 620),(S "order" 621),(S "ratio" 622),(S "shift" 623),(S "sign" 624),(S "width" 625)]
def DQ:=dc [e P "__module__" 600 cQ,e P "__firstlineno__" 604 (J 134 603),e P "__init__" 616 (R 288),e P "__static_attributes__" 626 (R 289),e P "__dict__" 628 (R 292),e P "__weakref__" 630 (R 293),e P "__doc__" 631 N] 4
def DR:=cl "Box" [(Y "object")] [(R 291),(Y "object")] 290 "Box" [] [none,none,o (S "Box" 593),o (S "Box" 601),o (B "object.__new__"),o T]
def JT:=gd [(S "__dict__" 627),(R 291),(B "function.__dict__"),(B "function.__dict__#set")]
def JU:=gd [(S "__weakref__" 629),(R 291),(B "ExceptionGroup.__weakref__"),N]
def JV:=fl "super" [(R 291),(R 291),(R 291)]
def JW:=bf (B "object.__init_subclass__") (R 291)
def JX:=bf (B "type.__prepare__") (Y "type")
def JY:=dc [e P "__module__" 641 cQ,e P "__qualname__" 643 (S "Kern" 642),e P "__firstlineno__" 645 (J 148 644),e P "kind" 646 (J 5 540),e P "__init__" 655 (R 309),e P "__static_attributes__" 658 (R 310)] 6
def JZ:=fx [(I 151),(I 4),(R 308)]
def J0:=co "Kern" 636 "Kern" 148 0 0 0 0 299 F 300 N N N N 639
def J2:=fm [o (R 301),o (R 3),o (R 298),none,o cQ,none,o (R 0)]
def J3:=tp [(S "self" 650),(S "width" 651),(S "sort" 652)]
def J4:=f0 "__init__" "Kern.__init__" (ct 36 1)
def DS:=co "__init__" 647 "Kern.__init__" 151 3 0 0 3 303 T 304 N (R 305) (R 306) (R 307) 653
def DT:=f1 "__init__" "Kern.__init__" (ct 36 1) cQ 308
def J5:=tp [(S "sort" 656),(S "width" 657)]
def DU:=dc [e P "__module__" 641 cQ,e P "__firstlineno__" 645 (J 148 644),e P "kind" 646 (J 5 540),e P "__init__" 655 (R 309),e P "__static_attributes__" 658 (R 310),e P "__dict__" 660 (R 313),e P "__weakref__" 662 (R 314),e P "__doc__" 663 N] 4
def DV:=cl "Kern" [(Y "object")] [(R 312),(Y "object")] 311 "Kern" [] [none,none,o (S "Kern" 634),o (S "Kern" 642),o (B "object.__new__"),o T]
def J6:=gd [(S "__dict__" 659),(R 312),(B "function.__dict__"),(B "function.__dict__#set")]
def J7:=gd [(S "__weakref__" 661),(R 312),(B "ExceptionGroup.__weakref__"),N]
def J8:=fl "super" [(R 312),(R 312),(R 312)]
def J9:=bf (B "object.__init_subclass__") (R 312)
def Ka:=bf (B "type.__prepare__") (Y "type")
def Kb:=dc [e P "__module__" 673 cQ,e P "__qualname__" 675 (S "Skip" 674),e P "__firstlineno__" 677 (J 156 676),e P "kind" 678 (J 6 541),e P "__init__" 688 (R 331),e P "__static_attributes__" 692 (R 332)] 6
def Kc:=fx [(I 159),(I 4),(R 330)]
def Kd:=co "Skip" 668 "Skip" 156 0 0 0 0 320 F 321 N N N N 671
def Ke:=fm [o (R 322),o (R 3),o (R 319),none,o cQ,none,o (R 0)]
def DW:=tp [N]
def Kf:=tp [(S "self" 682),(S "glue" 683),(S "sort" 684),(S "leader" 685)]
def Kg:=f0 "__init__" "Skip.__init__" (ct 37 1)
def DX:=co "__init__" 679 "Skip.__init__" 159 4 0 0 3 325 T 326 N (R 327) (R 328) (R 329) 686
def DY:=fo (Y "function") "__init__" "Skip.__init__" (ct 37 1) 3 (R 324) cQ (R 330)
def Kh:=tp [(S "glue" 689),(S "leader" 690),(S "sort" 691)]
def DZ:=dc [e P "__module__" 673 cQ,e P "__firstlineno__" 677 (J 156 676),e P "kind" 678 (J 6 541),e P "__init__" 688 (R 331),e P "__static_attributes__" 692 (R 332),e P "__dict__" 694 (R 335),e P "__weakref__" 696 (R 336),e P "__doc__" 697 N] 4
def D0:=cl "Skip" [(Y "object")] [(R 334),(Y "object")] 333 "Skip" [] [none,none,o (S "Skip" 666),o (S "Skip" 674),o (B "object.__new__"),o T]
def Ki:=gd [(S "__dict__" 693),(R 334),(B "function.__dict__"),(B "function.__dict__#set")]
def Kj:=gd [(S "__weakref__" 695),(R 334),(B "ExceptionGroup.__weakref__"),N]
def Kk:=fl "super" [(R 334),(R 334),(R 334)]
def Kl:=bf (B "object.__init_subclass__") (R 334)
def Km:=bf (B "type.__prepare__") (Y "type")
def Kn:=dc [e P "__module__" 707 cQ,e P "__qualname__" 709 (S "Penalty" 708),e P "__firstlineno__" 711 (J 169 710),e P "kind" 712 (J 7 542),e P "__init__" 720 (R 352),e P "__static_attributes__" 722 (R 353)] 6
def Ko:=fx [(I 172),(I 4),(R 351)]
def Kp:=co "Penalty" 702 "Penalty" 169 0 0 0 0 342 F 343 N N N N 705
def Kq:=fm [o (R 344),o (R 3),o (R 341),none,o cQ,none,o (R 0)]
def Kr:=tp [(S "self" 716),(S "value" 717)]
def Kt:=f0 "__init__" "Penalty.__init__" (ct 38 1)
def D1:=co "__init__" 713 "Penalty.__init__" 172 2 0 0 3 346 T 347 N (R 348) (R 349) (R 350) 718
def D2:=f1 "__init__" "Penalty.__init__" (ct 38 1) cQ 351
def Ku:=tp [(S "value" 721)]
def D3:=dc [e P "__module__" 707 cQ,e P "__firstlineno__" 711 (J 169 710),e P "kind" 712 (J 7 542),e P "__init__" 720 (R 352),e P "__static_attributes__" 722 (R 353),e P "__dict__" 724 (R 356),e P "__weakref__" 726 (R 357),e P "__doc__" 727 N] 4
def D4:=cl "Penalty" [(Y "object")] [(R 355),(Y "object")] 354 "Penalty" [] [none,none,o (S "Penalty" 700),o (S "Penalty" 708),o (B "object.__new__"),o T]
def Kv:=gd [(S "__dict__" 723),(R 355),(B "function.__dict__"),(B "function.__dict__#set")]
def Kw:=gd [(S "__weakref__" 725),(R 355),(B "ExceptionGroup.__weakref__"),N]
def Kx:=fl "super" [(R 355),(R 355),(R 355)]
def Ky:=bf (B "object.__init_subclass__") (R 355)
def Kz:=bf (B "type.__prepare__") (Y "type")
def KA:=dc [e P "__module__" 737 cQ,e P "__qualname__" 739 (S "Mark" 738),e P "__firstlineno__" 741 (J 174 740),e P "kind" 742 (J 9 552),e P "__init__" 750 (R 373),e P "__static_attributes__" 752 (R 374)] 6
def KB:=fx [(I 177),(I 4),(R 372)]
def KC:=co "Mark" 732 "Mark" 174 0 0 0 0 363 F 364 N N N N 735
def KD:=fm [o (R 365),o (R 3),o (R 362),none,o cQ,none,o (R 0)]
def KE:=tp [(S "self" 746),(S "tokens" 747)]
def KF:=f0 "__init__" "Mark.__init__" (ct 39 1)
def D5:=co "__init__" 743 "Mark.__init__" 177 2 0 0 3 367 T 368 N (R 369) (R 370) (R 371) 748
def D6:=f1 "__init__" "Mark.__init__" (ct 39 1) cQ 372
def KG:=tp [(S "tokens" 751)]
def D7:=dc [e P "__module__" 737 cQ,e P "__firstlineno__" 741 (J 174 740),e P "kind" 742 (J 9 552),e P "__init__" 750 (R 373),e P "__static_attributes__" 752 (R 374),e P "__dict__" 754 (R 377),e P "__weakref__" 756 (R 378),e P "__doc__" 757 N] 4
def D8:=cl "Mark" [(Y "object")] [(R 376),(Y "object")] 375 "Mark" [] [none,none,o (S "Mark" 730),o (S "Mark" 738),o (B "object.__new__"),o T]
def KH:=gd [(S "__dict__" 753),(R 376),(B "function.__dict__"),(B "function.__dict__#set")]
def KI:=gd [(S "__weakref__" 755),(R 376),(B "ExceptionGroup.__weakref__"),N]
def KJ:=fl "super" [(R 376),(R 376),(R 376)]
def KK:=bf (B "object.__init_subclass__") (R 376)
def KL:=bf (B "type.__prepare__") (Y "type")
def KM:=dc [e P "__module__" 767 cQ,e P "__qualname__" 769 (S "Insert" 768),e P "__firstlineno__" 771 (J 179 770),e P "kind" 772 (J 10 553),e P "__init__" 785 (R 394),e P "__static_attributes__" 792 (R 395)] 6
def KN:=fx [(I 182),(I 4),(R 393)]
def KO:=co "Insert" 762 "Insert" 179 0 0 0 0 384 F 385 N N N N 765
def KP:=fm [o (R 386),o (R 3),o (R 383),none,o cQ,none,o (R 0)]
def KQ:=tp [(S "self" 776),(S "number" 777),(S "size" 778),(S "depth" 779),(S "top" 780),(S "cost" 781),(S "items" 782)]
def KR:=f0 "__init__" "Insert.__init__" (ct 40 1)
def D9:=co "__init__" 773 "Insert.__init__" 182 7 0 0 3 388 T 389 N (R 390) (R 391) (R 392) 783
def Ea:=f1 "__init__" "Insert.__init__" (ct 40 1) cQ 393
def KS:=tp [(S "cost" 786),(S "depth" 787),(S "items" 788),(S "number" 789),(S "size" 790),(S "top" 791)]
def Eb:=dc [e P "__module__" 767 cQ,e P "__firstlineno__" 771 (J 179 770),e P "kind" 772 (J 10 553),e P "__init__" 785 (R 394),e P "__static_attributes__" 792 (R 395),e P "__dict__" 794 (R 398),e P "__weakref__" 796 (R 399),e P "__doc__" 797 N] 4
def Ec:=cl "Insert" [(Y "object")] [(R 397),(Y "object")] 396 "Insert" [] [none,none,o (S "Insert" 760),o (S "Insert" 768),o (B "object.__new__"),o T]
def KT:=gd [(S "__dict__" 793),(R 397),(B "function.__dict__"),(B "function.__dict__#set")]
def KU:=gd [(S "__weakref__" 795),(R 397),(B "ExceptionGroup.__weakref__"),N]
def KV:=fl "super" [(R 397),(R 397),(R 397)]
def KW:=bf (B "object.__init_subclass__") (R 397)
def KX:=f0 "height_of" "height_of" (st 41)
def Ed:=co "height_of" 800 "height_of" 191 1 0 0 3 402 T 403 N N N (R 404) 803
def Ee:=f1 "height_of" "height_of" (st 41) cQ 405
def KY:=f0 "depth_of" "depth_of" (st 42)
def Ef:=co "depth_of" 806 "depth_of" 204 1 0 0 3 407 T 408 N N N (R 409) 809
def Eg:=f1 "depth_of" "depth_of" (st 42) cQ 410
def KZ:=tp [(S "node" 815)]
def K0:=f0 "line_height" "line_height" (st 43)
def Eh:=co "line_height" 812 "line_height" 217 1 0 0 3 412 T 413 N (R 414) (R 415) (R 416) 816
def Ei:=f1 "line_height" "line_height" (st 43) cQ 417
def K3:=tp [(S "node" 822)]
def K4:=f0 "line_depth" "line_depth" (st 44)
def Ej:=co "line_depth" 819 "line_depth" 221 1 0 0 3 419 T 420 N (R 421) (R 422) (R 423) 823
def Ek:=f1 "line_depth" "line_depth" (st 44) cQ 424
def K5:=tp [(S "node" 829)]
def K6:=f0 "is_discardable" "is_discardable" (st 45)
def El:=co "is_discardable" 826 "is_discardable" 225 1 0 0 3 426 T 427 N (R 428) (R 429) (R 430) 830
def Em:=f1 "is_discardable" "is_discardable" (st 45) cQ 431
def K7:=tp [(S "node" 836)]
def K8:=f0 "is_breakable_ahead" "is_breakable_ahead" (st 46)
def En:=co "is_breakable_ahead" 833 "is_breakable_ahead" 227 1 0 0 3 433 T 434 N (R 435) (R 436) (R 437) 837
def Eo:=f1 "is_breakable_ahead" "is_breakable_ahead" (st 46) cQ 438
def K9:=tp [(S "items" 845),(S "node" 846)]
def La:=f0 "check_column" "check_column" (st 48)
def Ep:=co "check_column" 842 "check_column" 230 1 0 0 3 440 T 441 N (R 442) (R 443) (R 444) 847
def Er:=fo (Y "function") "check_column" "check_column" (st 48) 3 N (S "gluepage.packing" 840) (R 445)
def Et:=tp [(J 2 537),(J 3 538),(J 4 539),(J 14 557)]
def Lb:=bf (B "type.__prepare__") (Y "type")
def Lc:=dc [e P "__module__" 873 mK,e P "__qualname__" 875 (S "Column" 874),e P "__firstlineno__" 877 (J 240 876),e P "__init__" 884 (R 461),e P "stand" 892 (R 468),e P "keep" 900 (R 475),e P "flow" 909 (R 482),e P "cost" 917 (R 489),e P "__static_attributes__" 922 (R 490)] 9
def Ld:=fx [(I 242),(I 4),(R 460),(I 248),(I 4),(R 467),(I 252),(I 4),(R 474),(I 257),(I 4),(R 481),(I 267),(I 4),(R 488)]
def Le:=co "Column" 868 "Column" 240 0 0 0 0 451 F 452 N N N N 871
def Lf:=fm [o (R 453),o (R 3),o (R 450),none,o mK,none,o (R 0)]
def Lg:=tp [(S "self" 881)]
def Lh:=f0 "__init__" "Column.__init__" (ct 55 0)
def Eu:=co "__init__" 878 "Column.__init__" 242 1 0 0 3 455 T 456 N (R 457) (R 458) (R 459) 882
def Ev:=f1 "__init__" "Column.__init__" (ct 55 0) mK 460
def Li:=tp [(S "self" 888),(S "node" 889)]
def Lj:=f0 "stand" "Column.stand" (ct 55 1)
def Ew:=co "stand" 885 "Column.stand" 248 2 0 0 3 462 T 463 N (R 464) (R 465) (R 466) 890
def Ey:=f1 "stand" "Column.stand" (ct 55 1) mK 467
def Lk:=tp [(S "self" 896),(S "most_depth" 897)]
def Ll:=f0 "keep" "Column.keep" (ct 55 2)
def Ez:=co "keep" 893 "Column.keep" 252 2 0 0 3 469 T 470 N (R 471) (R 472) (R 473) 898
def EA:=f1 "keep" "Column.keep" (ct 55 2) mK 474
def Lm:=tp [(S "self" 904),(S "node" 905),(S "size" 906)]
def Ln:=f0 "flow" "Column.flow" (ct 55 3)
def EB:=co "flow" 901 "Column.flow" 257 2 0 0 3 476 T 477 N (R 478) (R 479) (R 480) 907
def EC:=f1 "flow" "Column.flow" (ct 55 3) mK 481
def Lo:=tp [(S "self" 913),(S "goal" 914)]
def Lp:=f0 "cost" "Column.cost" (ct 55 4)
def ED:=co "cost" 910 "Column.cost" 267 2 0 0 3 483 T 484 N (R 485) (R 486) (R 487) 915
def EE:=f1 "cost" "Column.cost" (ct 55 4) mK 488
def Lq:=tp [(S "depth" 918),(S "height" 919),(S "shrink" 920),(S "stretch" 921)]
def EG:=dc [e P "__module__" 873 mK,e P "__firstlineno__" 877 (J 240 876),e P "__init__" 884 (R 461),e P "stand" 892 (R 468),e P "keep" 900 (R 475),e P "flow" 909 (R 482),e P "cost" 917 (R 489),e P "__static_attributes__" 922 (R 490),e P "__dict__" 924 (R 493),e P "__weakref__" 926 (R 494),e P "__doc__" 927 N] 4
def EH:=cl "Column" [(Y "object")] [(R 492),(Y "object")] 491 "Column" [] [none,none,o (S "Column" 866),o (S "Column" 874),o (B "object.__new__"),o T]
def Lr:=gd [(S "__dict__" 923),(R 492),(B "function.__dict__"),(B "function.__dict__#set")]
def Ls:=gd [(S "__weakref__" 925),(R 492),(B "ExceptionGroup.__weakref__"),N]
def Lu:=fl "super" [(R 492),(R 492),(R 492)]
def Lv:=bf (B "object.__init_subclass__") (R 492)
def Lw:=tp [(S "items" 933),(S "place" 934),(S "node" 935),(S "is_last" 936)]
def Lx:=f0 "break_penalty" "break_penalty" (st 56)
def EI:=co "break_penalty" 930 "break_penalty" 275 2 0 0 3 497 T 498 N (R 499) (R 500) (R 501) 937
def EJ:=f1 "break_penalty" "break_penalty" (st 56) mK 502
def Ly:=tp [(S "column" 943),(S "goal" 944),(S "penalty" 945),(S "bad" 946)]
def Lz:=f0 "cost_here" "cost_here" (st 57)
def EK:=co "cost_here" 940 "cost_here" 287 3 0 0 3 504 T 505 N (R 506) (R 507) (R 508) 947
def EL:=f1 "cost_here" "cost_here" (st 57) mK 509
def LA:=tp [(S "items" 953),(S "height" 954),(S "most_depth" 955),(S "column" 956),(S "best" 957),(S "least" 958),(S "size" 959),(S "place" 960),(S "penalty" 961),(S "cost" 962),(S "node" 963)]
def LB:=f0 "best_break" "best_break" (st 58)
def EM:=co "best_break" 950 "best_break" 294 3 0 0 3 511 T 512 N (R 513) (R 514) (R 515) 964
def EN:=f1 "best_break" "best_break" (st 58) mK 516
def LD:=tp [(S "items" 970),(S "height" 971),(S "most_depth" 972)]
def LE:=f0 "vert_break" "vert_break" (st 59)
def EO:=co "vert_break" 967 "vert_break" 315 3 0 0 3 518 T 519 N (R 520) (R 521) (R 522) 973
def EP:=f1 "vert_break" "vert_break" (st 59) mK 523
def LF:=tp [(S "items" 979),(S "top" 980),(S "kept" 981),(S "place" 982),(S "node" 983),(S "height" 984),(S "room" 985)]
def LG:=f0 "pruned" "pruned" (st 60)
def EQ:=co "pruned" 976 "pruned" 317 2 0 0 3 525 T 526 N (R 527) (R 528) (R 529) 986
def ER:=f1 "pruned" "pruned" (st 60) mK 530
def LH:=tp [(J 0 991),(J 1 992),(J 2 993)]
def LJ:=fl "tuple_iterator" [N,(I 3)]
def LK:=fl "StopIteration" [(R 534),N,N,N,F,N]
def ES:=tp [(J 2 537),(J 3 538),(J 4 539)]
def ET:=tp [(J 2 537),(J 3 538),(J 4 539),(J 5 540),(J 6 541),(J 7 542),(J 9 552),(J 10 553),(J 13 556)]
def LL:=tp [(S "items" 1020),(S "found" 1021),(S "node" 1022)]
def LM:=f0 "natural_size" "natural_size" (st 71)
def EU:=co "natural_size" 1017 "natural_size" 338 1 0 0 3 538 T 539 N (R 540) (R 541) (R 542) 1023
def EV:=f1 "natural_size" "natural_size" (st 71) cW 543
def LN:=tp [(S "glue" 1029)]
def LO:=f0 "check_finite" "check_finite" (st 72)
def EW:=co "check_finite" 1026 "check_finite" 348 1 0 0 3 545 T 546 N (R 547) (R 548) (R 549) 1030
def EX:=f1 "check_finite" "check_finite" (st 72) cW 550
def LP:=tp [(S "row" 1036),(S "free" 1037),(S "size" 1038),(S "room" 1039)]
def LQ:=f0 "split_room" "split_room" (st 73)
def EY:=co "split_room" 1033 "split_room" 351 3 0 0 3 552 T 553 N (R 554) (R 555) (R 556) 1040
def EZ:=f1 "split_room" "split_room" (st 73) cW 557
def LS:=bf (B "type.__prepare__") (Y "type")
def LT:=dc [e P "__module__" 1050 cW,e P "__qualname__" 1052 (S "InsertClass" 1051),e P "__firstlineno__" 1054 (J 356 1053),e P "__init__" 1068 (R 573),e P "taken" 1076 (R 580),e P "__static_attributes__" 1082 (R 581)] 6
def LU:=fx [(I 358),(I 4),(R 572),(I 367),(I 4),(R 579)]
def LV:=co "InsertClass" 1045 "InsertClass" 356 0 0 0 0 562 F 563 N N N N 1048
def LW:=fm [o (R 564),o (R 3),o (R 561),none,o cW,none,o (R 0)]
def E0:=tp [(J 1000 1055),(J 1073741823 308),N,(J 0 1056)]
def LX:=tp [(S "self" 1060),(S "number" 1061),(S "factor" 1062),(S "most" 1063),(S "skip" 1064),(S "held" 1065)]
def LY:=f0 "__init__" "InsertClass.__init__" (ct 74 0)
def E1:=co "__init__" 1057 "InsertClass.__init__" 358 6 0 0 3 567 T 568 N (R 569) (R 570) (R 571) 1066
def E2:=fo (Y "function") "__init__" "InsertClass.__init__" (ct 74 0) 3 (R 566) cW (R 572)
def LZ:=tp [(S "self" 1072),(S "size" 1073)]
def L0:=f0 "taken" "InsertClass.taken" (ct 74 1)
def E3:=co "taken" 1069 "InsertClass.taken" 367 2 0 0 3 574 T 575 N (R 576) (R 577) (R 578) 1074
def E4:=f1 "taken" "InsertClass.taken" (ct 74 1) cW 579
def L7:=tp [(S "factor" 1077),(S "held" 1078),(S "most" 1079),(S "number" 1080),(S "skip" 1081)]
def E5:=dc [e P "__module__" 1050 cW,e P "__firstlineno__" 1054 (J 356 1053),e P "__init__" 1068 (R 573),e P "taken" 1076 (R 580),e P "__static_attributes__" 1082 (R 581),e P "__dict__" 1084 (R 584),e P "__weakref__" 1086 (R 585),e P "__doc__" 1087 N] 4
def E6:=cl "InsertClass" [(Y "object")] [(R 583),(Y "object")] 582 "InsertClass" [] [none,none,o (S "InsertClass" 1043),o (S "InsertClass" 1051),o (B "object.__new__"),o T]
def L8:=gd [(S "__dict__" 1083),(R 583),(B "function.__dict__"),(B "function.__dict__#set")]
def L9:=gd [(S "__weakref__" 1085),(R 583),(B "ExceptionGroup.__weakref__"),N]
def Ma:=fl "super" [(R 583),(R 583),(R 583)]
def Mb:=bf (B "object.__init_subclass__") (R 583)
def Mc:=bf (B "type.__prepare__") (Y "type")
def Md:=dc [e P "__module__" 1097 cW,e P "__qualname__" 1099 (S "InsertTable" 1098),e P "__firstlineno__" 1101 (J 371 1100),e P "__init__" 1110 (R 603),e P "of" 1118 (R 610),e P "__static_attributes__" 1120 (R 611)] 6
def Me:=fx [(I 373),(I 4),(R 602),(I 378),(I 4),(R 609)]
def Mf:=co "InsertTable" 1092 "InsertTable" 371 0 0 0 0 591 F 592 N N N N 1095
def Mg:=fm [o (R 593),o (R 3),o (R 590),none,o cW,none,o (R 0)]
def E7:=tp [(R 595)]
def Mh:=tp [(S "self" 1105),(S "rows" 1106),(S "row" 1107)]
def Mi:=f0 "__init__" "InsertTable.__init__" (ct 75 0)
def E8:=co "__init__" 1102 "InsertTable.__init__" 373 2 0 0 3 597 T 598 N (R 599) (R 600) (R 601) 1108
def E9:=fo (Y "function") "__init__" "InsertTable.__init__" (ct 75 0) 3 (R 596) cW (R 602)
def Mj:=tp [(S "self" 1114),(S "number" 1115)]
def Mk:=f0 "of" "InsertTable.of" (ct 75 1)
def Fa:=co "of" 1111 "InsertTable.of" 378 2 0 0 3 604 T 605 N (R 606) (R 607) (R 608) 1116
def Fb:=f1 "of" "InsertTable.of" (ct 75 1) cW 609
def Ml:=tp [(S "rows" 1119)]
def Fc:=dc [e P "__module__" 1097 cW,e P "__firstlineno__" 1101 (J 371 1100),e P "__init__" 1110 (R 603),e P "of" 1118 (R 610),e P "__static_attributes__" 1120 (R 611),e P "__dict__" 1122 (R 614),e P "__weakref__" 1124 (R 615),e P "__doc__" 1125 N] 4
def Fd:=cl "InsertTable" [(Y "object")] [(R 613),(Y "object")] 612 "InsertTable" [] [none,none,o (S "InsertTable" 1090),o (S "InsertTable" 1098),o (B "object.__new__"),o T]
def Mm:=gd [(S "__dict__" 1121),(R 613),(B "function.__dict__"),(B "function.__dict__#set")]
def Mo:=gd [(S "__weakref__" 1123),(R 613),(B "ExceptionGroup.__weakref__"),N]
def Mp:=fl "super" [(R 613),(R 613),(R 613)]
def Mq:=bf (B "object.__init_subclass__") (R 613)
def Mr:=bf (B "type.__prepare__") (Y "type")
def Ms:=dc [e P "__module__" 1135 cW,e P "__qualname__" 1137 (S "Inserted" 1136),e P "__firstlineno__" 1139 (J 382 1138),e P "__init__" 1147 (R 631),e P "__static_attributes__" 1153 (R 632)] 5
def Mt:=fx [(I 384),(I 4),(R 630)]
def Mu:=co "Inserted" 1130 "Inserted" 382 0 0 0 0 621 F 622 N N N N 1133
def Mv:=fm [o (R 623),o (R 3),o (R 620),none,o cW,none,o (R 0)]
def Mw:=tp [(S "self" 1143),(S "size" 1144)]
def Mx:=f0 "__init__" "Inserted.__init__" (ct 76 0)
def Fe:=co "__init__" 1140 "Inserted.__init__" 384 2 0 0 3 625 T 626 N (R 627) (R 628) (R 629) 1145
def Ff:=f1 "__init__" "Inserted.__init__" (ct 76 0) cW 630
def My:=tp [(S "best" 1148),(S "last" 1149),(S "size" 1150),(S "split_at" 1151),(S "split_place" 1152)]
def Fg:=dc [e P "__module__" 1135 cW,e P "__firstlineno__" 1139 (J 382 1138),e P "__init__" 1147 (R 631),e P "__static_attributes__" 1153 (R 632),e P "__dict__" 1155 (R 635),e P "__weakref__" 1157 (R 636),e P "__doc__" 1158 N] 4
def Fh:=cl "Inserted" [(Y "object")] [(R 634),(Y "object")] 633 "Inserted" [] [none,none,o (S "Inserted" 1128),o (S "Inserted" 1136),o (B "object.__new__"),o T]
def Mz:=gd [(S "__dict__" 1154),(R 634),(B "function.__dict__"),(B "function.__dict__#set")]
def MA:=gd [(S "__weakref__" 1156),(R 634),(B "ExceptionGroup.__weakref__"),N]
def MB:=fl "super" [(R 634),(R 634),(R 634)]
def MC:=bf (B "object.__init_subclass__") (R 634)
def MD:=bf (B "type.__prepare__") (Y "type")
def ME:=dc [e P "__module__" 1168 cW,e P "__qualname__" 1170 (S "Page" 1169),e P "__firstlineno__" 1172 (J 390 1171),e P "__init__" 1183 (R 652),e P "__static_attributes__" 1188 (R 653)] 5
def MF:=fx [(I 392),(I 4),(R 651)]
def MG:=co "Page" 1163 "Page" 390 0 0 0 0 642 F 643 N N N N 1166
def MH:=fm [o (R 644),o (R 3),o (R 641),none,o cW,none,o (R 0)]
def MI:=tp [(S "self" 1176),(S "place" 1177),(S "penalty" 1178),(S "cost" 1179),(S "size" 1180)]
def MJ:=f0 "__init__" "Page.__init__" (ct 77 0)
def Fi:=co "__init__" 1173 "Page.__init__" 392 5 0 0 3 646 T 647 N (R 648) (R 649) (R 650) 1181
def Fj:=f1 "__init__" "Page.__init__" (ct 77 0) cW 651
def MK:=tp [(S "cost" 1184),(S "penalty" 1185),(S "place" 1186),(S "size" 1187)]
def Fk:=dc [e P "__module__" 1168 cW,e P "__firstlineno__" 1172 (J 390 1171),e P "__init__" 1183 (R 652),e P "__static_attributes__" 1188 (R 653),e P "__dict__" 1190 (R 656),e P "__weakref__" 1192 (R 657),e P "__doc__" 1193 N] 4
def Fm:=cl "Page" [(Y "object")] [(R 655),(Y "object")] 654 "Page" [] [none,none,o (S "Page" 1161),o (S "Page" 1169),o (B "object.__new__"),o T]
def ML:=gd [(S "__dict__" 1189),(R 655),(B "function.__dict__"),(B "function.__dict__#set")]
def MM:=gd [(S "__weakref__" 1191),(R 655),(B "ExceptionGroup.__weakref__"),N]
def MN:=fl "super" [(R 655),(R 655),(R 655)]
def MO:=bf (B "object.__init_subclass__") (R 655)
def MP:=bf (B "type.__prepare__") (Y "type")
def MQ:=dc [e P "__module__" 1203 cW,e P "__qualname__" 1205 (S "PageBuilder" 1204),e P "__firstlineno__" 1207 (J 397 1206),e P "__init__" 1216 (R 674),e P "start" 1223 (R 681),e P "clear" 1230 (R 688),e P "freeze" 1238 (R 695),e P "is_empty" 1245 (R 702),e P "contribute" 1254 (R 709),e P "build" 1267 (R 716),e P "remember" 1275 (R 723),e P "begin" 1286 (R 730),e P "penalty_ahead" 1294 (R 737),e P "cost" 1304 (R 744),e P "tried" 1316 (R 751),e P "take" 1325 (R 758),e P "insert" 1341 (R 765),e P "split" 1353 (R 772),e P "__static_attributes__" 1373 (R 773)] 19
def MR:=fx [(I 399),(I 4),(R 673),(I 407),(I 4),(R 680),(I 419),(I 4),(R 687),(I 426),(I 4),(R 694),(I 432),(I 4),(R 701),(I 435),(I 4),(R 708),(I 441),(I 4),(R 715),(I 461),(I 4),(R 722),(I 466),(I 4),(R 729),(I 475),(I 4),(R 736),(I 484),(I 4),(R 743),(I 498),(I 4),(R 750),(I 512),(I 4),(R 757),(I 532),(I 4),(R 764),(I 565),(I 4),(R 771)]
def MS:=co "PageBuilder" 1198 "PageBuilder" 397 0 0 0 0 663 F 664 N N N N 1201
def MT:=fm [o (R 665),o (R 3),o (R 662),none,o cW,none,o (R 0)]
def Fo:=tp [(J 1073741823 308),(J 1073741823 308)]
def MU:=tp [(S "self" 1211),(S "vsize" 1212),(S "max_depth" 1213)]
def MV:=f0 "__init__" "PageBuilder.__init__" (ct 78 0)
def Fp:=co "__init__" 1208 "PageBuilder.__init__" 399 3 0 0 3 668 T 669 N (R 670) (R 671) (R 672) 1214
def Fq:=fo (Y "function") "__init__" "PageBuilder.__init__" (ct 78 0) 3 (R 667) cW (R 673)
def MW:=tp [(S "self" 1220)]
def MX:=f0 "start" "PageBuilder.start" (ct 78 1)
def Fr:=co "start" 1217 "PageBuilder.start" 407 1 0 0 3 675 T 676 N (R 677) (R 678) (R 679) 1221
def Fs:=f1 "start" "PageBuilder.start" (ct 78 1) cW 680
def MY:=tp [(S "self" 1227)]
def MZ:=f0 "clear" "PageBuilder.clear" (ct 78 2)
def Ft:=co "clear" 1224 "PageBuilder.clear" 419 1 0 0 3 682 T 683 N (R 684) (R 685) (R 686) 1228
def Fu:=f1 "clear" "PageBuilder.clear" (ct 78 2) cW 687
def M0:=tp [(S "self" 1234),(S "state" 1235)]
def M1:=f0 "freeze" "PageBuilder.freeze" (ct 78 3)
def Fv:=co "freeze" 1231 "PageBuilder.freeze" 426 2 0 0 3 689 T 690 N (R 691) (R 692) (R 693) 1236
def Fw:=f1 "freeze" "PageBuilder.freeze" (ct 78 3) cW 694
def M2:=tp [(S "self" 1242)]
def M3:=f0 "is_empty" "PageBuilder.is_empty" (ct 78 4)
def Fx:=co "is_empty" 1239 "PageBuilder.is_empty" 432 1 0 0 3 696 T 697 N (R 698) (R 699) (R 700) 1243
def Fy:=f1 "is_empty" "PageBuilder.is_empty" (ct 78 4) cW 701
def M4:=tp [(S "self" 1249),(S "items" 1250),(S "node" 1251)]
def M5:=f0 "contribute" "PageBuilder.contribute" (ct 78 5)
def Fz:=co "contribute" 1246 "PageBuilder.contribute" 435 2 0 0 3 703 T 704 N (R 705) (R 706) (R 707) 1252
def FB:=f1 "contribute" "PageBuilder.contribute" (ct 78 5) cW 708
def M6:=tp [(S "self" 1258),(S "top_skip" 1259),(S "classes" 1260),(S "node" 1261),(S "found" 1262),(S "is_begun" 1263),(S "is_waiting" 1264)]
def M7:=f0 "build" "PageBuilder.build" (ct 78 6)
def FC:=co "build" 1255 "PageBuilder.build" 441 3 0 0 3 710 T 711 N (R 712) (R 713) (R 714) 1265
def FD:=f1 "build" "PageBuilder.build" (ct 78 6) cW 715
def M8:=tp [(S "self" 1271),(S "node" 1272)]
def M9:=f0 "remember" "PageBuilder.remember" (ct 78 7)
def FE:=co "remember" 1268 "PageBuilder.remember" 461 2 0 0 3 717 T 718 N (R 719) (R 720) (R 721) 1273
def FF:=f1 "remember" "PageBuilder.remember" (ct 78 7) cW 722
def Na:=tp [(S "self" 1279),(S "node" 1280),(S "top_skip" 1281),(S "width" 1282),(S "glue" 1283)]
def Nb:=f0 "begin" "PageBuilder.begin" (ct 78 8)
def FG:=co "begin" 1276 "PageBuilder.begin" 466 3 0 0 3 724 T 725 N (R 726) (R 727) (R 728) 1284
def FH:=f1 "begin" "PageBuilder.begin" (ct 78 8) cW 729
def Nc:=tp [(S "self" 1290),(S "node" 1291)]
def Nf:=f0 "penalty_ahead" "PageBuilder.penalty_ahead" (ct 78 9)
def FI:=co "penalty_ahead" 1287 "PageBuilder.penalty_ahead" 475 2 0 0 3 731 T 732 N (R 733) (R 734) (R 735) 1292
def FJ:=f1 "penalty_ahead" "PageBuilder.penalty_ahead" (ct 78 9) cW 736
def Ng:=tp [(S "self" 1298),(S "penalty" 1299),(S "excess" 1300),(S "bad" 1301)]
def Nh:=f0 "cost" "PageBuilder.cost" (ct 78 10)
def FK:=co "cost" 1295 "PageBuilder.cost" 484 2 0 0 3 738 T 739 N (R 740) (R 741) (R 742) 1302
def FL:=f1 "cost" "PageBuilder.cost" (ct 78 10) cW 743
def Ni:=tp [(S "self" 1308),(S "node" 1309),(S "penalty" 1310),(S "cost" 1311),(S "number" 1312),(S "entry" 1313)]
def Nj:=f0 "tried" "PageBuilder.tried" (ct 78 11)
def FM:=co "tried" 1305 "PageBuilder.tried" 498 2 0 0 3 745 T 746 N (R 747) (R 748) (R 749) 1314
def FN:=f1 "tried" "PageBuilder.tried" (ct 78 11) cW 750
def Nk:=tp [(S "self" 1320),(S "node" 1321),(S "classes" 1322)]
def Nl:=f0 "take" "PageBuilder.take" (ct 78 12)
def FO:=co "take" 1317 "PageBuilder.take" 512 3 0 0 3 752 T 753 N (R 754) (R 755) (R 756) 1323
def FP:=f1 "take" "PageBuilder.take" (ct 78 12) cW 757
def Nn:=tp [(S "self" 1329),(S "node" 1330),(S "row" 1331),(S "entry" 1332),(S "is_first" 1333),(S "goal" 1334),(S "shrink" 1335),(S "used" 1336),(S "need" 1337),(S "place" 1338)]
def No:=f0 "insert" "PageBuilder.insert" (ct 78 13)
def FQ:=co "insert" 1326 "PageBuilder.insert" 532 3 0 0 3 759 T 760 N (R 761) (R 762) (R 763) 1339
def FR:=f1 "insert" "PageBuilder.insert" (ct 78 13) cW 764
def Np:=tp [(S "self" 1345),(S "node" 1346),(S "row" 1347),(S "entry" 1348),(S "place" 1349),(S "size" 1350)]
def Nq:=f0 "split" "PageBuilder.split" (ct 78 14)
def FS:=co "split" 1342 "PageBuilder.split" 565 5 0 0 3 766 T 767 N (R 768) (R 769) (R 770) 1351
def FT:=f1 "split" "PageBuilder.split" (ct 78 14) cW 771
def Nr:=tp [(S "best" 1354),(S "contributions" 1355),(S "depth" 1356),(S "goal" 1357),(S "held" 1358),(S "insert_penalties" 1359),(S "inserts" 1360),(S "last_glue" 1361),(S "last_kern" 1362),(S "last_penalty" 1363),(S "max_depth" 1364),(S "most_depth" 1365),(S "no_glue" 1366),(S "page" 1367),(S "shrink" 1368),(S "state" 1369),(S "stretch" 1370),(S "total" 1371),(S "vsize" 1372)]
def FU:=dc [e P "__module__" 1203 cW,e P "__firstlineno__" 1207 (J 397 1206),e P "__init__" 1216 (R 674),e P "start" 1223 (R 681),e P "clear" 1230 (R 688),e P "freeze" 1238 (R 695),e P "is_empty" 1245 (R 702),e P "contribute" 1254 (R 709),e P "build" 1267 (R 716),e P "remember" 1275 (R 723),e P "begin" 1286 (R 730),e P "penalty_ahead" 1294 (R 737),e P "cost" 1304 (R 744),e P "tried" 1316 (R 751),e P "take" 1325 (R 758),e P "insert" 1341 (R 765),e P "split" 1353 (R 772),e P "__static_attributes__" 1373 (R 773),e P "__dict__" 1375 (R 776),e P "__weakref__" 1377 (R 777),e P "__doc__" 1378 N] 4
def FV:=cl "PageBuilder" [(Y "object")] [(R 775),(Y "object")] 774 "PageBuilder" [] [none,none,o (S "PageBuilder" 1196),o (S "PageBuilder" 1204),o (B "object.__new__"),o T]
def Nt:=gd [(S "__dict__" 1374),(R 775),(B "function.__dict__"),(B "function.__dict__#set")]
def Nu:=gd [(S "__weakref__" 1376),(R 775),(B "ExceptionGroup.__weakref__"),N]
def Nv:=fl "super" [(R 775),(R 775),(R 775)]
def Nw:=bf (B "object.__init_subclass__") (R 775)
def Nx:=bf (B "type.__prepare__") (Y "type")
def Ny:=dc [e P "__module__" 1390 xr,e P "__qualname__" 1392 (S "Sent" 1391),e P "__firstlineno__" 1394 (J 576 1393),e P "__init__" 1403 (R 793),e P "__static_attributes__" 1413 (R 794)] 5
def Nz:=fx [(I 578),(I 4),(R 792)]
def NA:=co "Sent" 1385 "Sent" 576 0 0 0 0 783 F 784 N N N N 1388
def NB:=fm [o (R 785),o (R 3),o (R 782),none,o xr,none,o (R 0)]
def NC:=tp [(S "self" 1398),(S "found" 1399),(S "most_depth" 1400)]
def ND:=f0 "__init__" "Sent.__init__" (ct 80 0)
def FW:=co "__init__" 1395 "Sent.__init__" 578 3 0 0 3 787 T 788 N (R 789) (R 790) (R 791) 1401
def FX:=f1 "__init__" "Sent.__init__" (ct 80 0) xr 792
def NE:=tp [(S "cost" 1404),(S "held" 1405),(S "inserted" 1406),(S "items" 1407),(S "marks" 1408),(S "most_depth" 1409),(S "penalty" 1410),(S "rest" 1411),(S "size" 1412)]
def FY:=dc [e P "__module__" 1390 xr,e P "__firstlineno__" 1394 (J 576 1393),e P "__init__" 1403 (R 793),e P "__static_attributes__" 1413 (R 794),e P "__dict__" 1415 (R 797),e P "__weakref__" 1417 (R 798),e P "__doc__" 1418 N] 4
def FZ:=cl "Sent" [(Y "object")] [(R 796),(Y "object")] 795 "Sent" [] [none,none,o (S "Sent" 1383),o (S "Sent" 1391),o (B "object.__new__"),o T]
def NF:=gd [(S "__dict__" 1414),(R 796),(B "function.__dict__"),(B "function.__dict__#set")]
def NG:=gd [(S "__weakref__" 1416),(R 796),(B "ExceptionGroup.__weakref__"),N]
def NH:=fl "super" [(R 796),(R 796),(R 796)]
def NI:=bf (B "object.__init_subclass__") (R 796)
def NJ:=tp [(S "builder" 1424),(S "found" 1425),(S "sent" 1426),(S "number" 1427),(S "place" 1428),(S "node" 1429)]
def NK:=f0 "send" "send" (st 81)
def F0:=co "send" 1421 "send" 588 2 0 0 3 801 T 802 N (R 803) (R 804) (R 805) 1430
def F2:=f1 "send" "send" (st 81) xr 806
def NL:=tp [(S "sent" 1436),(S "node" 1437),(S "place" 1438),(S "entry" 1439),(S "rest" 1440)]
def NM:=f0 "send_insert" "send_insert" (st 82)
def F3:=co "send_insert" 1433 "send_insert" 604 4 0 0 3 808 T 809 N (R 810) (R 811) (R 812) 1441
def F4:=f1 "send_insert" "send_insert" (st 82) xr 813
def NN:=tp [(S "builder" 1447),(S "sent" 1448)]
def NO:=f0 "next_page" "next_page" (st 83)
def F5:=co "next_page" 1444 "next_page" 615 2 0 0 3 815 T 816 N (R 817) (R 818) (R 819) 1449
def F6:=f1 "next_page" "next_page" (st 83) xr 820
def NP:=f0 "_law_jar" "_law_jar" (st 85)
def F7:=co "_law_jar" 1454 "_law_jar" 619 1 0 0 3 822 T 823 N N N (R 824) 1457
def F8:=fo (Y "function") "_law_jar" "_law_jar" (st 85) 3 N (S "law_rg0166_01" 1452) (R 825)
def NQ:=tp [(S "jar" 1463),(S "many" 1464),(S "cells" 1465),(S "at" 1466),(S "digit" 1467)]
def NS:=f0 "_law_take" "_law_take" (st 86)
def F9:=co "_law_take" 1460 "_law_take" 621 2 0 0 3 827 T 828 N (R 829) (R 830) (R 831) 1468
def Ga:=fo (Y "function") "_law_take" "_law_take" (st 86) 3 N (S "law_rg0166_01" 1452) (R 832)
def NT:=tp [(S "jar" 1474),(S "breadth" 1475),(S "up" 1476),(S "down" 1477),(S "order" 1478)]
def NU:=f0 "_law_glue" "_law_glue" (st 87)
def Gb:=co "_law_glue" 1471 "_law_glue" 631 1 0 0 3 834 T 835 N (R 836) (R 837) (R 838) 1479
def Gc:=fo (Y "function") "_law_glue" "_law_glue" (st 87) 3 N (S "law_rg0166_01" 1452) (R 839)
def NV:=tp [(S "jar" 1485),(S "label" 1486)]
def NW:=f0 "_law_box" "_law_box" (st 88)
def Gd:=co "_law_box" 1482 "_law_box" 635 2 0 0 3 841 T 842 N (R 843) (R 844) (R 845) 1487
def Ge:=fo (Y "function") "_law_box" "_law_box" (st 88) 3 N (S "law_rg0166_01" 1452) (R 846)
def NX:=tp [(S "items" 1493),(S "found" 1494),(S "item" 1495)]
def NY:=f0 "_law_size" "_law_size" (st 89)
def Gf:=co "_law_size" 1490 "_law_size" 637 1 0 0 3 848 T 849 N (R 850) (R 851) (R 852) 1496
def Gh:=fo (Y "function") "_law_size" "_law_size" (st 89) 3 N (S "law_rg0166_01" 1452) (R 853)
def NZ:=tp [(S "jar" 1502),(S "label" 1503),(S "parts" 1504),(S "more" 1505)]
def N0:=f0 "_law_insert" "_law_insert" (st 90)
def Gi:=co "_law_insert" 1499 "_law_insert" 645 2 0 0 3 855 T 856 N (R 857) (R 858) (R 859) 1506
def Gj:=fo (Y "function") "_law_insert" "_law_insert" (st 90) 3 N (S "law_rg0166_01" 1452) (R 860)
def N1:=tp [(S "jar" 1512),(S "label" 1513),(S "sort" 1514)]
def N2:=f0 "_law_item" "_law_item" (st 91)
def Gk:=co "_law_item" 1509 "_law_item" 651 2 0 0 3 862 T 863 N (R 864) (R 865) (R 866) 1515
def Gl:=fo (Y "function") "_law_item" "_law_item" (st 91) 3 N (S "law_rg0166_01" 1452) (R 867)
def N3:=tp [(S "jar" 1521),(S "share" 1522),(S "most" 1523)]
def N4:=f0 "_law_class" "_law_class" (st 92)
def Gm:=co "_law_class" 1518 "_law_class" 664 1 0 0 3 869 T 870 N (R 871) (R 872) (R 873) 1524
def Go:=fo (Y "function") "_law_class" "_law_class" (st 92) 3 N (S "law_rg0166_01" 1452) (R 874)
def N5:=f0 "_law_node" "_law_node" (st 93)
def Gp:=co "_law_node" 1527 "_law_node" 667 2 0 0 3 876 T 877 N N N (R 878) 1530
def Gq:=fo (Y "function") "_law_node" "_law_node" (st 93) 3 N (S "law_rg0166_01" 1452) (R 879)
def N6:=f0 "_law_told" "_law_told" (st 94)
def Gr:=co "_law_told" 1533 "_law_told" 679 1 0 0 3 881 T 882 N N N (R 883) 1536
def Gs:=fo (Y "function") "_law_told" "_law_told" (st 94) 3 N (S "law_rg0166_01" 1452) (R 884)
def N7:=tp [(S "tall" 1542),(S "goal" 1543),(S "stretch" 1544),(S "shrink" 1545),(S "price" 1546),(S "extra" 1547),(S "far" 1548),(S "give" 1549),(S "ratio" 1550)]
def N8:=f0 "_law_cost" "_law_cost" (st 95)
def Gu:=co "_law_cost" 1539 "_law_cost" 691 6 0 0 3 886 T 887 N (R 888) (R 889) (R 890) 1551
def Gv:=fo (Y "function") "_law_cost" "_law_cost" (st 95) 3 N (S "law_rg0166_01" 1452) (R 891)
def N9:=tp [(S "line" 1557),(S "at" 1558),(S "item" 1559)]
def Oa:=f0 "_law_penalty" "_law_penalty" (st 96)
def Gw:=co "_law_penalty" 1554 "_law_penalty" 702 2 0 0 3 893 T 894 N (R 895) (R 896) (R 897) 1560
def Gx:=fo (Y "function") "_law_penalty" "_law_penalty" (st 96) 3 N (S "law_rg0166_01" 1452) (R 898)
def Ob:=tp [(S "items" 1566),(S "deep" 1567),(S "stretch" 1568),(S "shrink" 1569),(S "depth" 1570),(S "item" 1571)]
def Oc:=f0 "_law_column" "_law_column" (st 97)
def Gy:=co "_law_column" 1563 "_law_column" 711 2 0 0 3 900 T 901 N (R 902) (R 903) (R 904) 1572
def Gz:=fo (Y "function") "_law_column" "_law_column" (st 97) 3 N (S "law_rg0166_01" 1452) (R 905)
def Od:=tp [(S "parts" 1578),(S "room" 1579),(S "deep" 1580),(S "best" 1581),(S "least" 1582),(S "at" 1583),(S "price" 1584),(S "tall" 1585),(S "depth" 1586),(S "stretch" 1587),(S "shrink" 1588),(S "cost" 1589)]
def Oe:=f0 "_law_split" "_law_split" (st 98)
def GA:=co "_law_split" 1575 "_law_split" 722 3 0 0 3 907 T 908 N (R 909) (R 910) (R 911) 1590
def GB:=fo (Y "function") "_law_split" "_law_split" (st 98) 3 N (S "law_rg0166_01" 1452) (R 912)
def Of:=tp [(S "size" 1596),(S "share" 1597)]
def Og:=f0 "_law_taken" "_law_taken" (st 99)
def GC:=co "_law_taken" 1593 "_law_taken" 734 2 0 0 3 914 T 915 N (R 916) (R 917) (R 918) 1598
def GD:=fo (Y "function") "_law_taken" "_law_taken" (st 99) 3 N (S "law_rg0166_01" 1452) (R 919)
def Oh:=f0 "_law_sums" "_law_sums" (st 100)
def GE:=co "_law_sums" 1601 "_law_sums" 736 3 0 0 3 921 T 922 N N N (R 923) 1604
def GF:=fo (Y "function") "_law_sums" "_law_sums" (st 100) 3 N (S "law_rg0166_01" 1452) (R 924)
def Oi:=f0 "_law_line" "_law_line" (st 101)
def GG:=co "_law_line" 1607 "_law_line" 774 2 0 0 3 926 T 927 N N N (R 928) 1610
def GH:=fo (Y "function") "_law_line" "_law_line" (st 101) 3 N (S "law_rg0166_01" 1452) (R 929)
def Oj:=tp [(S "line" 1616),(S "sizes" 1617),(S "classes" 1618),(S "best" 1619),(S "at" 1620),(S "item" 1621),(S "price" 1622),(S "goal" 1623),(S "sums" 1624),(S "extra" 1625),(S "rows" 1626),(S "cost" 1627)]
def Ol:=f0 "_law_end" "_law_end" (st 102)
def GI:=co "_law_end" 1613 "_law_end" 780 3 0 0 3 931 T 932 N (R 933) (R 934) (R 935) 1628
def GJ:=fo (Y "function") "_law_end" "_law_end" (st 102) 3 N (S "law_rg0166_01" 1452) (R 936)
def Om:=tp [(S "parts" 1634),(S "breadth" 1635),(S "at" 1636),(S "item" 1637)]
def On:=f0 "_law_pruned" "_law_pruned" (st 103)
def GK:=co "_law_pruned" 1631 "_law_pruned" 792 2 0 0 3 938 T 939 N (R 940) (R 941) (R 942) 1638
def GL:=fo (Y "function") "_law_pruned" "_law_pruned" (st 103) 3 N (S "law_rg0166_01" 1452) (R 943)
def Oo:=tp [(S "line" 1644),(S "place" 1645),(S "rows" 1646),(S "kept" 1647),(S "gone" 1648),(S "held" 1649),(S "which" 1650),(S "at" 1651),(S "item" 1652),(S "row" 1653),(S "parts" 1654),(S "cut" 1655),(S "left" 1656),(S "behind" 1657)]
def Op:=f0 "_law_sent" "_law_sent" (st 104)
def GM:=co "_law_sent" 1641 "_law_sent" 797 3 0 0 3 945 T 946 N (R 947) (R 948) (R 949) 1658
def GN:=fo (Y "function") "_law_sent" "_law_sent" (st 104) 3 N (S "law_rg0166_01" 1452) (R 950)
def Oq:=f0 "_law_same_page" "_law_same_page" (st 105)
def GO:=co "_law_same_page" 1661 "_law_same_page" 817 6 0 0 3 952 T 953 N N N (R 954) 1664
def GP:=fo (Y "function") "_law_same_page" "_law_same_page" (st 105) 3 N (S "law_rg0166_01" 1452) (R 955)
def Os:=f0 "_law_same_sums" "_law_same_sums" (st 106)
def GQ:=co "_law_same_sums" 1667 "_law_same_sums" 835 4 0 0 3 957 T 958 N N N (R 959) 1670
def GR:=fo (Y "function") "_law_same_sums" "_law_same_sums" (st 106) 3 N (S "law_rg0166_01" 1452) (R 960)
def Ot:=f0 "law" "law" (st 107)
def GS:=co "law" 1673 "law" 844 1 0 0 3 962 T 963 N N N (R 964) 1676
def GT:=fo (Y "function") "law" "law" (st 107) 3 N (S "law_rg0166_01" 1452) (R 965)
def Ry(P:Params):List DictEntry:=[e P "__doc__" 166 N,e P "__package__" 167 N,e P "__loader__" 168 (B "__main__.__loader__#opaque"),e P "__spec__" 169 N,e P "__annotations__" 170 (R 6),e P "__builtins__" 171 (R 4),e P "__file__" 173 (S "/claim/cut.py" 172),e P "__cached__" 174 N,e P "_wall" 193 (R 21),e P "TOP_SKIP" 200 (J 7 194),e P "SPLIT_TOP_SKIP" 201 (J 8 195),e P "TAB_SKIP" 202 (J 9 196),e P "SPACE_SKIP" 203 (J 10 197),e P "XSPACE_SKIP" 204 (J 11 198),e P "PAR_FILL_SKIP" 205 (J 12 199),e P "PageError" 235 (R 43),e P "BadArgument" 251 (R 56),e P "Overflow" 267 (R 68),e P "BadBox" 283 (R 80),e P "BadPage" 299 (R 92),e P "UNITY" 303 (J 65536 302),e P "MAX_DIMEN" 309 (J 1073741823 308),e P "MAX_NUMBER" 315 (J 2147483647 314),e P "INF_BAD" 317 (J 10000 316),e P "NORMAL" 322 (J 0 318),e P "FIL" 323 (J 1 319),e P "FILL" 324 (J 2 320),e P "FILLL" 325 (J 3 321),e P "is_whole" 334 (R 105),e P "check_whole" 341 (R 112),e P "check_number" 348 (R 119),e P "check_dimen" 355 (R 126),e P "rounded" 363 (R 133),e P "reading" 371 (R 140),e P "decimal_text" 384 (R 147),e P "times" 393 (R 154),e P "times_scaled" 394 (R 154),e P "over" 404 (R 161),e P "over_scaled" 405 (R 161),e P "badness" 414 (R 168),e P "order_text" 421 (R 175),e P "part_text" 430 (R 182),e P "Glue" 532 (R 250),e P "CHAR" 543 (J 0 535),e P "LIGATURE" 544 (J 1 536),e P "HBOX" 545 (J 2 537),e P "VBOX" 546 (J 3 538),e P "RULE" 547 (J 4 539),e P "KERN" 548 (J 5 540),e P "GLUE" 549 (J 6 541),e P "PENALTY" 550 (J 7 542),e P "DISC" 558 (J 8 551),e P "MARK" 559 (J 9 552),e P "INSERT" 560 (J 10 553),e P "ADJUST" 561 (J 11 554),e P "MATH" 562 (J 12 555),e P "SPECIAL" 563 (J 13 556),e P "UNSET" 564 (J 14 557),e P "NATURAL" 568 (J 0 565),e P "STRETCHED" 569 (J 1 566),e P "SHRUNK" 570 (J 2 567),e P "FONT_KERN" 575 (J 0 571),e P "EXPLICIT" 576 (J 1 572),e P "ACCENT_KERN" 577 (J 2 573),e P "MU_KERN" 578 (J 3 574),e P "PLAIN" 586 (J 0 579),e P "ALEADERS" 587 (J 1 580),e P "CLEADERS" 588 (J 2 581),e P "XLEADERS" 589 (J 3 582),e P "MU_SKIP" 590 (J 4 583),e P "NONSCRIPT" 591 (J 5 584),e P "NAMED" 592 (J 100 585),e P "Box" 633 (R 291),e P "Kern" 665 (R 312),e P "Skip" 699 (R 334),e P "Penalty" 729 (R 355),e P "Mark" 759 (R 376),e P "Insert" 799 (R 397),e P "height_of" 805 (R 406),e P "depth_of" 811 (R 411),e P "line_height" 818 (R 418),e P "line_depth" 825 (R 425),e P "is_discardable" 832 (R 432),e P "is_breakable_ahead" 839 (R 439),e P "check_column" 849 (R 446),e P "AWFUL_boxops" 857 (J 1073741823 856),e P "DEPLORABLE_boxops" 859 (J 100000 858),e P "INF_PENALTY_boxops" 861 (J 10000 860),e P "EJECT_boxops" 864 (J (-10000) 863),e P "STANDING" 865 (R 447),e P "Column" 929 (R 492),e P "break_penalty" 939 (R 503),e P "cost_here" 949 (R 510),e P "best_break" 966 (R 517),e P "vert_break" 975 (R 524),e P "pruned" 988 (R 531),e P "EMPTY" 994 (J 0 991),e P "INSERTS" 995 (J 1 992),e P "BOXES" 996 (J 2 993),e P "AWFUL_pages" 1002 (J 1073741823 1001),e P "DEPLORABLE_pages" 1004 (J 100000 1003),e P "EJECT_pages" 1007 (J (-10000) 1006),e P "INF_PENALTY_pages" 1009 (J 10000 1008),e P "MOST_CLASS" 1011 (J 254 1010),e P "SIZED" 1012 (R 536),e P "PARTS" 1013 (R 537),e P "TOP_SORT" 1016 (J 107 1015),e P "natural_size" 1025 (R 544),e P "check_finite" 1032 (R 551),e P "split_room" 1042 (R 558),e P "InsertClass" 1089 (R 583),e P "InsertTable" 1127 (R 613),e P "Inserted" 1160 (R 634),e P "Page" 1195 (R 655),e P "PageBuilder" 1380 (R 775),e P "Sent" 1420 (R 796),e P "send" 1432 (R 807),e P "send_insert" 1443 (R 814),e P "next_page" 1451 (R 821),e P "_law_jar" 1459 (R 826),e P "_law_take" 1470 (R 833),e P "_law_glue" 1481 (R 840),e P "_law_box" 1489 (R 847),e P "_law_size" 1498 (R 854),e P "_law_insert" 1508 (R 861),e P "_law_item" 1517 (R 868),e P "_law_class" 1526 (R 875),e P "_law_node" 1532 (R 880),e P "_law_told" 1538 (R 885),e P "_law_cost" 1553 (R 892),e P "_law_penalty" 1562 (R 899),e P "_law_column" 1574 (R 906),e P "_law_split" 1592 (R 913),e P "_law_taken" 1600 (R 920),e P "_law_sums" 1606 (R 925),e P "_law_line" 1612 (R 930),e P "_law_end" 1630 (R 937),e P "_law_pruned" 1640 (R 944),e P "_law_sent" 1660 (R 951),e P "_law_same_page" 1666 (R 956),e P "_law_same_sums" 1672 (R 961),e P "law" 1678 (R 966)]
def h3(P:Params)(k n:Nat)(v:Value):Obj:=dc ((e P "__name__" 165 v::Ry P).take k) n
def Rz:List Value:=[(I 1),(I 0),(R 20),(I 6),(I 0),(R 31),(I 10),(I 0),(R 52),(I 12),(I 0),(R 64),(I 14),(I 0),(R 76),(I 16),(I 0),(R 88),(I 24),(I 0),(R 104),(I 26),(I 0),(R 111),(I 30),(I 0),(R 118),(I 34),(I 0),(R 125),(I 38),(I 0),(R 132),(I 44),(I 0),(R 139),(I 46),(I 0),(R 146),(I 57),(I 0),(R 153),(I 60),(I 0),(R 160),(I 70),(I 0),(R 167),(I 86),(I 0),(R 174),(I 88),(I 0),(R 181),(I 90),(I 0),(R 188),(I 134),(I 0),(R 280),(I 148),(I 0),(R 301),(I 156),(I 0),(R 322),(I 169),(I 0),(R 344),(I 174),(I 0),(R 365),(I 179),(I 0),(R 386),(I 191),(I 0),(R 405),(I 204),(I 0),(R 410),(I 217),(I 0),(R 417),(I 221),(I 0),(R 424),(I 225),(I 0),(R 431),(I 227),(I 0),(R 438),(I 230),(I 0),(R 445),(I 240),(I 0),(R 453),(I 275),(I 0),(R 502),(I 287),(I 0),(R 509),(I 294),(I 0),(R 516),(I 315),(I 0),(R 523),(I 317),(I 0),(R 530),(I 338),(I 0),(R 543),(I 348),(I 0),(R 550),(I 351),(I 0),(R 557),(I 356),(I 0),(R 564),(I 371),(I 0),(R 593),(I 382),(I 0),(R 623),(I 390),(I 0),(R 644),(I 397),(I 0),(R 665),(I 576),(I 0),(R 785),(I 588),(I 0),(R 806),(I 604),(I 0),(R 813),(I 615),(I 0),(R 820),(I 619),(I 0),(R 825),(I 621),(I 0),(R 832),(I 631),(I 0),(R 839),(I 635),(I 0),(R 846),(I 637),(I 0),(R 853),(I 645),(I 0),(R 860),(I 651),(I 0),(R 867),(I 664),(I 0),(R 874),(I 667),(I 0),(R 879),(I 679),(I 0),(R 884),(I 691),(I 0),(R 891),(I 702),(I 0),(R 898),(I 711),(I 0),(R 905),(I 722),(I 0),(R 912),(I 734),(I 0),(R 919),(I 736),(I 0),(R 924),(I 774),(I 0),(R 929),(I 780),(I 0),(R 936),(I 792),(I 0),(R 943),(I 797),(I 0),(R 950),(I 817),(I 0),(R 955),(I 835),(I 0),(R 960),(I 844),(I 0),(R 965)]
def pb(k:Nat):Obj:=fx (Rz.take k)
def Ou(k:Nat):Obj:=cl "PageError" [(Y "ValueError")] [(R 43),(Y "ValueError"),(Y "Exception"),(Y "BaseException"),(Y "object")] 42 "PageError" ([(R 56),(R 68),(R 80),(R 92)].take k) [o (R 26),none,o (S "PageError" 208),o (S "PageError" 216),o (B "ValueError.__new__"),o T]
def hA(P:Params)(a b c:Obj):List Obj:=[boot_o_0 P,boot_o_1 P,boot_o_2 P,a,boot_o_4 P,boot_o_5 P,boot_o_6 P,boot_o_7 P,boot_o_8 P,boot_o_9 P,boot_o_10 P,e0,b,QK,QL,e0,n0,QM,e0,QN,PQ,PT,QO,QP,e0,QQ,QR,QS,QT P,e0,QU,QV,QW,PV,e0,n0,QX,e0,QY,PW,PX,Iz,PY P,c,QZ,Q0,Q1,Q2,Q3,Q4 P,e0,n0,Q5,Q6,e0,PZ P,P0,Q7,Q8,Q9,C5,Ra P,e0,n0,Rb,Rc,e0,P1 P,P2,Rd,Re,Rf,Rg,Rh P,e0,n0,Ri,Rj,e0,P3 P,P4,Rk,Rm,Rn,Ro,Rp P,e0,n0,Rq,Rs,e0,P5 P,P6,Rt,Ru,Rv,Rw,e0,Rx,e0,n0,IA,e0,IB,C6,C7,e0,n0,IC,e0,ID,C8,C9,e0,n0,IE,e0,IF,Da,Db,e0,n0,IG,e0,IH,Dc,Dd,e0,n0,II,e0,IJ,De,Df,e0,n0,IK,e0,IL,Dg,Dh,e0,n0,IM,e0,IN,Di,Dj,e0,n0,IO,e0,IP,Dk,Dl,e0,n0,IQ,e0,IR,Dm,Dn,e0,n0,IS,e0,IT,Do,Dp,e0,n0,IU,e0,IV,Dq,Dr,e0,n0,IW,e0,IX,Ds,Dt,e0,IY,IZ P,e0,I8,I9,Ja,Du,e0,n0,Jb,e0,Jc,Dv,Dw,e0,n0,Jd,e0,Je,Dx,Dy,e0,n0,Jf,e0,Jg,Dz,DA,e0,n0,Jh,e0,Ji,DB,DC,e0,n0,Jj,e0,Jk,DD,DE,e0,n0,Jl,e0,Jm,DF,DG,e0,n0,Jn,e0,Jo,DH,DI,DJ,e0,n0,Jp,e0,Jq,DK,DL,Jr,DM P,DN,Js,Jt,Ju,Jv,Jw,Jx,e0,Jy,Jz,JA,e0,JB,JC,JD,e0,JE,JF,JG,e0,JH,JI,JJ,e0,JK,e0,JL,JM P,e0,JN,JO,JP,e0,n0,JQ,e0,JR,DO,DP,JS,DQ P,DR,JT,JU,JV,JW,e0,JX,JY P,e0,JZ,J0,J2,e0,n0,J3,e0,J4,DS,DT,J5,DU P,DV,J6,J7,J8,J9,e0,Ka,Kb P,e0,Kc,Kd,Ke,DW,e0,n0,Kf,e0,Kg,DX,DY,Kh,DZ P,D0,Ki,Kj,Kk,Kl,e0,Km,Kn P,e0,Ko,Kp,Kq,e0,n0,Kr,e0,Kt,D1,D2,Ku,D3 P,D4,Kv,Kw,Kx,Ky,e0,Kz,KA P,e0,KB,KC,KD,e0,n0,KE,e0,KF,D5,D6,KG,D7 P,D8,KH,KI,KJ,KK,e0,KL,KM P,e0,KN,KO,KP,e0,n0,KQ,e0,KR,D9,Ea,KS,Eb P,Ec,KT,KU,KV,KW,e0,n0,KX,Ed,Ee,e0,n0,KY,Ef,Eg,e0,n0,KZ,e0,K0,Eh,Ei,e0,n0,K3,e0,K4,Ej,Ek,e0,n0,K5,e0,K6,El,Em,e0,n0,K7,e0,K8,En,Eo,e0,n0,K9,e0,La,Ep,Er,Et,e0,Lb,Lc P,e0,Ld,Le,Lf,e0,n0,Lg,e0,Lh,Eu,Ev,e0,n0,Li,e0,Lj,Ew,Ey,e0,n0,Lk,e0,Ll,Ez,EA,e0,n0,Lm,e0,Ln,EB,EC,e0,n0,Lo,e0,Lp,ED,EE,Lq,EG P,EH,Lr,Ls,Lu,Lv,e0,n0,Lw,e0,Lx,EI,EJ,e0,n0,Ly,e0,Lz,EK,EL,e0,n0,LA,e0,LB,EM,EN,e0,n0,LD,e0,LE,EO,EP,e0,n0,LF,e0,LG,EQ,ER,LH,LJ,e0,LK,ES,ET,e0,n0,LL,e0,LM,EU,EV,e0,n0,LN,e0,LO,EW,EX,e0,n0,LP,e0,LQ,EY,EZ,e0,LS,LT P,e0,LU,LV,LW,E0,e0,n0,LX,e0,LY,E1,E2,e0,n0,LZ,e0,L0,E3,E4,L7,E5 P,E6,L8,L9,Ma,Mb,e0,Mc,Md P,e0,Me,Mf,Mg,e0,E7,e0,n0,Mh,e0,Mi,E8,E9,e0,n0,Mj,e0,Mk,Fa,Fb,Ml,Fc P,Fd,Mm,Mo,Mp,Mq,e0,Mr,Ms P,e0,Mt,Mu,Mv,e0,n0,Mw,e0,Mx,Fe,Ff,My,Fg P,Fh,Mz,MA,MB,MC,e0,MD,ME P,e0,MF,MG,MH,e0,n0,MI,e0,MJ,Fi,Fj,MK,Fk P,Fm,ML,MM,MN,MO,e0,MP,MQ P,e0,MR,MS,MT,Fo,e0,n0,MU,e0,MV,Fp,Fq,e0,n0,MW,e0,MX,Fr,Fs,e0,n0,MY,e0,MZ,Ft,Fu,e0,n0,M0,e0,M1,Fv,Fw,e0,n0,M2,e0,M3,Fx,Fy,e0,n0,M4,e0,M5,Fz,FB,e0,n0,M6,e0,M7,FC,FD,e0,n0,M8,e0,M9,FE,FF,e0,n0,Na,e0,Nb,FG,FH,e0,n0,Nc,e0,Nf,FI,FJ,e0,n0,Ng,e0,Nh,FK,FL,e0,n0,Ni,e0,Nj,FM,FN,e0,n0,Nk,e0,Nl,FO,FP,e0,n0,Nn,e0,No,FQ,FR,e0,n0,Np,e0,Nq,FS,FT,Nr,FU P,FV,Nt,Nu,Nv,Nw,e0,Nx,Ny P,e0,Nz,NA,NB,e0,n0,NC,e0,ND,FW,FX,NE,FY P,FZ,NF,NG,NH,NI,e0,n0,NJ,e0,NK,F0,F2,e0,n0,NL,e0,NM,F3,F4,e0,n0,NN,e0,NO,F5,F6,e0,n0,NP,F7,F8,e0,n0,NQ,e0,NS,F9,Ga,e0,n0,NT,e0,NU,Gb,Gc,e0,n0,NV,e0,NW,Gd,Ge,e0,n0,NX,e0,NY,Gf,Gh,e0,n0,NZ,e0,N0,Gi,Gj,e0,n0,N1,e0,N2,Gk,Gl,e0,n0,N3,e0,N4,Gm,Go,e0,n0,N5,Gp,Gq,e0,n0,N6,Gr,Gs,e0,n0,N7,e0,N8,Gu,Gv,e0,n0,N9,e0,Oa,Gw,Gx,e0,n0,Ob,e0,Oc,Gy,Gz,e0,n0,Od,e0,Oe,GA,GB,e0,n0,Of,e0,Og,GC,GD,e0,n0,Oh,GE,GF,e0,n0,Oi,GG,GH,e0,n0,Oj,e0,Ol,GI,GJ,e0,n0,Om,e0,On,GK,GL,e0,n0,Oo,e0,Op,GM,GN,e0,n0,Oq,GO,GP,e0,n0,Os,GQ,GR,e0,n0,Ot,GS,GT]
def HP:List Obj->List Obj
 | []=>[]
 | [a]=>[a]
 |a::_::r=>a::HP r
def P7:List Obj->List Obj
 | []=>[]
 | [_]=>[]
 |_::b::r=>b::P7 r
def bt:Nat->List Obj->BT
 |0,_=>.nil
 |_,[]=>.nil
 |f+1,x::l=>.node x (bt f (HP l)) (bt f (P7 l))
def ev:Env:={scope:=pg.main.scope,locals:=mainNs,globals:=mainNs,cells:=[],code:=.ref 13,frame:=some 14}
abbrev cd:Code:=.body (behindTheImports pg) ev
def hT(P:Params)(n k3 n3:Nat)(v:Value)(k12 k43:Nat):BT:=bt 12 ((hA P (h3 P k3 n3 v) (pb k12) (Ou k43)).take n)
abbrev sT(w:World)(os:OsState)(n t k3 n3:Nat)(v:Value)(k12 k43:Nat):SharedT:=⟨hT w.params n k3 n3 v k12 k43,n,{}, #[],{},t,os⟩
end Mine.D
end
noncomputable section
open PySem PySem.W PySem.Calls PyProof.Rows
set_option maxRecDepth 100000
set_option maxHeartbeats 0
namespace Mine.D
abbrev sq:= @PySem.W.Fast.tw10110043849684766642
abbrev tq:=PySem.W.Fast.tw14364793385576792824
theorem gq{p:Program}{w:World}{n₀ b n:Nat}{ann:Option Value}{s:SharedT}{t:Thread}{r}(h:sq tq p w n₀ ann b n s t=r):segRunT treeTable p w n₀ ann b n s t=r:=by
 rw [PySem.W.Fast.te10110043849684766642,PySem.W.Fast.te14364793385576792824];exact h
abbrev q0:Pos:=⟨0,0,0,0⟩
abbrev Ov(k m:Nat):List Stmt:=(pg.main.body.drop k).take m
abbrev yS:String:="special-get-raises"
def Gg(n k m:Nat)(q q':Pos)(s s':World->OsState->SharedT)(w:World):Prop:=∀os,segRunT treeTable pg w 11 (some (.ref 6)) 1 n (s w os) (piecesOf (Ov k m) ev cd q [topFrame q0])=some (.next,s' w os,cd,q')
theorem Gg.of{n k m:Nat}{q q':Pos}{s s':World->OsState->SharedT}{w:World}(h:∀os,sq tq pg w 11 (some (.ref 6)) 1 n (s w os) (piecesOf (Ov k m) ev cd q [topFrame q0])=some (.next,s' w os,cd,q')):Gg n k m q q' s s' w:=λos=>gq (h os)
theorem g0:∀w:World,Gg 30 0 1 q0 ⟨1,0,3,12⟩ (λw os=>sT w os 15 187 9 9 wd 0 0) (λw os=>sT w os 22 194 10 10 wd 3 0) w:=λw=>.of λos=>by kernel_rfl
theorem g1:∀w:World,Gg 138 1 1 ⟨1,0,3,12⟩ ⟨4,61,4,74⟩ (λw os=>sT w os 22 194 10 10 wd 3 0) (λw os=>sT w os 26 206 16 16 wd 3 0) w:=byRow2 yS (λw=>.of λos=>by kernel_rfl) (λw=>.of λos=>by kernel_rfl)
theorem g2:∀w:World,Gg 230 2 2 ⟨4,61,4,74⟩ ⟨6,0,9,28⟩ (λw os=>sT w os 26 206 16 16 wd 3 0) (λw os=>sT w os 47 236 17 17 jK 6 0) w:=λw=>.of λos=>by kernel_rfl
theorem g3:∀w:World,Gg 214 4 1 ⟨6,0,9,28⟩ ⟨10,0,11,8⟩ (λw os=>sT w os 47 236 17 17 jK 6 0) (λw os=>sT w os 59 252 18 18 jK 9 1) w:=λw=>.of λos=>by kernel_rfl
theorem g4:∀w:World,Gg 214 5 1 ⟨10,0,11,8⟩ ⟨12,0,13,8⟩ (λw os=>sT w os 59 252 18 18 jK 9 1) (λw os=>sT w os 71 268 19 19 jK 12 2) w:=λw=>.of λos=>by kernel_rfl
theorem g5:∀w:World,Gg 214 6 1 ⟨12,0,13,8⟩ ⟨14,0,15,8⟩ (λw os=>sT w os 71 268 19 19 jK 12 2) (λw os=>sT w os 83 284 20 20 jK 15 3) w:=λw=>.of λos=>by kernel_rfl
theorem g6:∀w:World,Gg 232 7 3 ⟨14,0,15,8⟩ ⟨19,0,19,5⟩ (λw os=>sT w os 83 284 20 20 jK 15 3) (λw os=>sT w os 95 304 22 22 fB 18 4) w:=λw=>.of λos=>by kernel_rfl
theorem g7:∀w:World,Gg 52 10 3 ⟨19,0,19,5⟩ ⟨22,0,22,7⟩ (λw os=>sT w os 95 304 22 22 fB 18 4) (λw os=>sT w os 95 318 25 25 fB 18 4) w:=λw=>.of λos=>by kernel_rfl
theorem g8:∀w:World,Gg 102 13 1 ⟨22,0,22,7⟩ ⟨23,19,23,24⟩ (λw os=>sT w os 95 318 25 25 fB 18 4) (λw os=>sT w os 99 326 29 29 fB 18 4) w:=byRow2 yS (λw=>.of λos=>by kernel_rfl) (λw=>.of λos=>by kernel_rfl)
theorem g9:∀w:World,Gg 245 14 8 ⟨23,19,23,24⟩ ⟨57,0,58,83⟩ (λw os=>sT w os 99 326 29 29 fB 18 4) (λw os=>sT w os 155 394 37 37 fB 42 4) w:=λw=>.of λos=>by kernel_rfl
theorem RA:∀w:World,Gg 144 22 6 ⟨57,0,58,83⟩ ⟨88,0,89,81⟩ (λw os=>sT w os 155 394 37 37 fB 42 4) (λw os=>sT w os 183 431 43 43 fB 54 4) w:=λw=>.of λos=>by kernel_rfl
theorem RC:∀w:World,Gg 466 28 1 ⟨88,0,89,81⟩ ⟨90,0,127,20⟩ (λw os=>sT w os 183 431 43 43 fB 54 4) (λw os=>sT w os 255 533 44 44 fB 57 4) w:=λw=>.of λos=>by kernel_rfl
theorem RD:∀w:World,Gg 10 29 1 ⟨90,0,127,20⟩ ⟨128,0,128,8⟩ (λw os=>sT w os 255 533 44 44 fB 57 4) (λw os=>sT w os 255 535 44 44 cQ 57 4) w:=λw=>.of λos=>by kernel_rfl
theorem RE:∀w:World,Gg 174 30 1 ⟨128,0,128,8⟩ ⟨129,46,129,53⟩ (λw os=>sT w os 255 535 44 44 cQ 57 4) (λw os=>sT w os 259 551 52 52 cQ 57 4) w:=byRow2 yS (λw=>.of λos=>by kernel_rfl) (λw=>.of λos=>by kernel_rfl)
theorem RF:∀w:World,Gg 156 31 1 ⟨129,46,129,53⟩ ⟨130,43,130,48⟩ (λw os=>sT w os 259 551 52 52 cQ 57 4) (λw os=>sT w os 263 565 59 59 cQ 57 4) w:=byRow2 yS (λw=>.of λos=>by kernel_rfl) (λw=>.of λos=>by kernel_rfl)
theorem RG:∀w:World,Gg 84 32 1 ⟨130,43,130,48⟩ ⟨131,20,131,26⟩ (λw os=>sT w os 263 565 59 59 cQ 57 4) (λw os=>sT w os 267 571 62 62 cQ 57 4) w:=byRow2 yS (λw=>.of λos=>by kernel_rfl) (λw=>.of λos=>by kernel_rfl)
theorem RH:∀w:World,Gg 102 33 1 ⟨131,20,131,26⟩ ⟨132,34,132,41⟩ (λw os=>sT w os 267 571 62 62 cQ 57 4) (λw os=>sT w os 271 579 66 66 cQ 57 4) w:=byRow2 yS (λw=>.of λos=>by kernel_rfl) (λw=>.of λos=>by kernel_rfl)
theorem RI:∀w:World,Gg 156 34 1 ⟨132,34,132,41⟩ ⟨133,57,133,62⟩ (λw os=>sT w os 271 579 66 66 cQ 57 4) (λw os=>sT w os 275 593 73 73 cQ 57 4) w:=byRow2 yS (λw=>.of λos=>by kernel_rfl) (λw=>.of λos=>by kernel_rfl)
theorem RJ:∀w:World,Gg 235 35 1 ⟨133,57,133,62⟩ ⟨134,0,147,27⟩ (λw os=>sT w os 275 593 73 73 cQ 57 4) (λw os=>sT w os 296 634 74 74 cQ 60 4) w:=λw=>.of λos=>by kernel_rfl
theorem RL:∀w:World,Gg 238 36 1 ⟨134,0,147,27⟩ ⟨148,0,155,24⟩ (λw os=>sT w os 296 634 74 74 cQ 60 4) (λw os=>sT w os 317 666 75 75 cQ 63 4) w:=λw=>.of λos=>by kernel_rfl
theorem RM:∀w:World,Gg 241 37 1 ⟨148,0,155,24⟩ ⟨156,0,168,28⟩ (λw os=>sT w os 317 666 75 75 cQ 63 4) (λw os=>sT w os 339 700 76 76 cQ 66 4) w:=λw=>.of λos=>by kernel_rfl
theorem RN:∀w:World,Gg 236 38 1 ⟨156,0,168,28⟩ ⟨169,0,173,40⟩ (λw os=>sT w os 339 700 76 76 cQ 66 4) (λw os=>sT w os 360 730 77 77 cQ 69 4) w:=λw=>.of λos=>by kernel_rfl
theorem RO:∀w:World,Gg 236 39 1 ⟨169,0,173,40⟩ ⟨174,0,178,35⟩ (λw os=>sT w os 360 730 77 77 cQ 69 4) (λw os=>sT w os 381 760 78 78 cQ 72 4) w:=λw=>.of λos=>by kernel_rfl
theorem RP:∀w:World,Gg 246 40 1 ⟨174,0,178,35⟩ ⟨179,0,190,26⟩ (λw os=>sT w os 381 760 78 78 cQ 72 4) (λw os=>sT w os 402 800 79 79 cQ 75 4) w:=λw=>.of λos=>by kernel_rfl
theorem RQ:∀w:World,Gg 247 41 11 ⟨179,0,190,26⟩ ⟨236,0,236,17⟩ (λw os=>sT w os 402 800 79 79 cQ 75 4) (λw os=>sT w os 447 860 88 88 mK 96 4) w:=λw=>.of λos=>by kernel_rfl
theorem RR:∀w:World,Gg 42 52 3 ⟨236,0,236,17⟩ ⟨239,0,239,8⟩ (λw os=>sT w os 447 860 88 88 mK 96 4) (λw os=>sT w os 448 866 91 91 mK 96 4) w:=λw=>.of λos=>by kernel_rfl
theorem RS:∀w:World,Gg 354 55 1 ⟨239,0,239,8⟩ ⟨240,0,274,55⟩ (λw os=>sT w os 448 866 91 91 mK 96 4) (λw os=>sT w os 497 930 92 92 mK 99 4) w:=λw=>.of λos=>by kernel_rfl
theorem RT:∀w:World,Gg 179 56 6 ⟨240,0,274,55⟩ ⟨328,0,328,8⟩ (λw os=>sT w os 497 930 92 92 mK 99 4) (λw os=>sT w os 532 991 97 97 cW 114 4) w:=λw=>.of λos=>by kernel_rfl
theorem RU:∀w:World,Gg 84 62 1 ⟨328,0,328,8⟩ ⟨329,16,329,21⟩ (λw os=>sT w os 532 991 97 97 cW 114 4) (λw os=>sT w os 536 997 100 100 cW 114 4) w:=byRow2 yS (λw=>.of λos=>by kernel_rfl) (λw=>.of λos=>by kernel_rfl)
theorem RW:∀w:World,Gg 215 63 11 ⟨329,16,329,21⟩ ⟨351,0,355,65⟩ (λw os=>sT w os 536 997 100 100 cW 114 4) (λw os=>sT w os 559 1043 111 111 cW 123 4) w:=λw=>.of λos=>by kernel_rfl
theorem RX:∀w:World,Gg 270 74 1 ⟨351,0,355,65⟩ ⟨356,0,370,55⟩ (λw os=>sT w os 559 1043 111 111 cW 123 4) (λw os=>sT w os 588 1090 112 112 cW 126 4) w:=λw=>.of λos=>by kernel_rfl
theorem RY:∀w:World,Gg 259 75 1 ⟨356,0,370,55⟩ ⟨371,0,381,40⟩ (λw os=>sT w os 588 1090 112 112 cW 126 4) (λw os=>sT w os 618 1128 113 113 cW 129 4) w:=λw=>.of λos=>by kernel_rfl
theorem RZ:∀w:World,Gg 227 76 1 ⟨371,0,381,40⟩ ⟨382,0,389,28⟩ (λw os=>sT w os 618 1128 113 113 cW 129 4) (λw os=>sT w os 639 1161 114 114 cW 132 4) w:=λw=>.of λos=>by kernel_rfl
theorem R0:∀w:World,Gg 229 77 1 ⟨382,0,389,28⟩ ⟨390,0,396,24⟩ (λw os=>sT w os 639 1161 114 114 cW 132 4) (λw os=>sT w os 660 1196 115 115 cW 135 4) w:=λw=>.of λos=>by kernel_rfl
theorem R1:∀w:World,Gg 724 78 1 ⟨390,0,396,24⟩ ⟨397,0,574,60⟩ (λw os=>sT w os 660 1196 115 115 cW 135 4) (λw os=>sT w os 780 1381 116 116 cW 138 4) w:=λw=>.of λos=>by kernel_rfl
theorem R2:∀w:World,Gg 241 79 2 ⟨397,0,574,60⟩ ⟨576,0,587,23⟩ (λw os=>sT w os 780 1381 116 116 cW 138 4) (λw os=>sT w os 801 1421 117 117 xr 141 4) w:=λw=>.of λos=>by kernel_rfl
theorem R3:∀w:World,Gg 229 81 8 ⟨576,0,587,23⟩ ⟨635,0,636,108⟩ (λw os=>sT w os 801 1421 117 117 xr 141 4) (λw os=>sT w os 848 1490 124 124 (S "law_rg0166_01" 1452) 162 4) w:=λw=>.of λos=>by kernel_rfl
theorem R4:∀w:World,Gg 246 89 8 ⟨635,0,636,108⟩ ⟨702,0,710,16⟩ (λw os=>sT w os 848 1490 124 124 (S "law_rg0166_01" 1452) 162 4) (λw os=>sT w os 900 1563 132 132 (S "law_rg0166_01" 1452) 186 4) w:=λw=>.of λos=>by kernel_rfl
theorem R5:∀w:World,Gg 229 97 7 ⟨702,0,710,16⟩ ⟨792,0,796,13⟩ (λw os=>sT w os 900 1563 132 132 (S "law_rg0166_01" 1452) 186 4) (λw os=>sT w os 945 1641 139 139 (S "law_rg0166_01" 1452) 207 4) w:=λw=>.of λos=>by kernel_rfl
theorem R6:∀w:World,Gg 121 104 4 ⟨792,0,796,13⟩ ⟨844,0,865,15⟩ (λw os=>sT w os 945 1641 139 139 (S "law_rg0166_01" 1452) 207 4) (λw os=>sT w os 967 1679 143 143 (S "law_rg0166_01" 1452) 219 4) w:=λw=>.of λos=>by kernel_rfl
abbrev P8(k:Nat)(q:Pos):Thread:=restOf (pg.main.body.drop k) ev cd q [topFrame q0]
abbrev S0(w:World)(os:OsState):Shared:=⟨boot_heap w.params,Array.mk [],boot_drawn,boot_toks,os⟩
abbrev Sb(w:World)(os:OsState):SharedT:=sT w os 15 187 9 9 wd 0 0
def Hf(P:Params):Heap:=⟨Array.mk (hA P (h3 P 143 143 (S "law_rg0166_01" 1452)) (pb 219) (Ou 4)),{}⟩
abbrev Sf(w:World)(os:OsState):Shared:=⟨Hf w.params, #[],{},1679,os⟩
theorem R7:topGo= @PySem.W.Fast.tw15667345088766844465:=PySem.W.Fast.te15667345088766844465
theorem R8:segRun= @PySem.W.Fast.tw14374325043358763698:=PySem.W.Fast.te14374325043358763698
theorem R9:topRun= @PySem.W.Fast.tw14082659384304107361:=PySem.W.Fast.te14082659384304107361
theorem Sa:denote= @PySem.W.Fast.tw11892475500146522536:=PySem.W.Fast.te11892475500146522536
theorem zY(w:World)(os:OsState):topGo treeTable pg w 11 (some (.ref 6)) 12 (S0 w os) (topStub pg)=some ((Sb w os).abs,⟨denote treeTable cd,cd,q0,[topFrame q0]⟩):=by
 rw [R7,Sa,PySem.W.Fast.te14364793385576792824];kernel_rfl
theorem zZ(w:World)(os:OsState):segRun treeTable pg w 11 (some (.ref 6)) 1 1 (Sb w os).abs (blockOf (behindTheImports pg) ev cd q0 [topFrame q0])=some (.next,(Sb w os).abs,cd,q0):=by
 rw [R8,PySem.W.Fast.te14364793385576792824];kernel_rfl
theorem z0(w:World)(os:OsState):topRun treeTable pg w 11 (some (.ref 6)) 2 (sT w os 967 1679 143 143 (S "law_rg0166_01" 1452) 219 4).abs (P8 108 ⟨844,0,865,15⟩)=some (Sf w os):=by
 rw [R9,PySem.W.Fast.te14364793385576792824];kernel_rfl
theorem xW:behindTheImports pg=pg.main.body.drop 0:=by kernel_rfl
def Rr(N k:Nat)(q:Pos)(s:World->OsState->SharedT)(w:World):Prop:=∀os,topRun treeTable pg w 11 (some (.ref 6)) N (s w os).abs (P8 k q)=some (Sf w os)
theorem bh{n k m j N M:Nat}{q q':Pos}{s s':World->OsState->SharedT}{w:World}(h:Gg n k m q q' s s' w)(K:Rr N j q' s' w)(hj:(Nat.beq (k+m) j&&Nat.beq (n+N) M)=true):Rr M k q s w:=λos=>by
 obtain⟨h1,h2⟩:=Bool.and_eq_true_iff.mp hj;have h1:=Nat.eq_of_beq_eq_true h1;have h2:=Nat.eq_of_beq_eq_true h2;have e:pg.main.body.drop k=Ov k m++pg.main.body.drop j:=by
  subst h1;show _=(pg.main.body.drop k).take m++_;rw [←List.drop_drop,List.take_append_drop]
 subst h2;show topRun _ _ _ _ _ _ _ (restOf (pg.main.body.drop k) ev cd q [topFrame q0])=_;rw [e];exact piece_app (segRun_of (h os)) (K os)
theorem Ow(w:World):Rr 2 108 ⟨844,0,865,15⟩ (λw os=>sT w os 967 1679 143 143 (S "law_rg0166_01" 1452) 219 4) w:=z0 w
theorem Sc(w:World):Rr 123 104 ⟨792,0,796,13⟩ (λw os=>sT w os 945 1641 139 139 (S "law_rg0166_01" 1452) 207 4) w:=bh (R6 w) (Ow w) rfl
theorem Sd(w:World):Rr 352 97 ⟨702,0,710,16⟩ (λw os=>sT w os 900 1563 132 132 (S "law_rg0166_01" 1452) 186 4) w:=bh (R5 w) (Sc w) rfl
theorem Se(w:World):Rr 598 89 ⟨635,0,636,108⟩ (λw os=>sT w os 848 1490 124 124 (S "law_rg0166_01" 1452) 162 4) w:=bh (R4 w) (Sd w) rfl
theorem Sg(w:World):Rr 827 81 ⟨576,0,587,23⟩ (λw os=>sT w os 801 1421 117 117 xr 141 4) w:=bh (R3 w) (Se w) rfl
theorem Si(w:World):Rr 1068 79 ⟨397,0,574,60⟩ (λw os=>sT w os 780 1381 116 116 cW 138 4) w:=bh (R2 w) (Sg w) rfl
theorem Sj(w:World):Rr 1792 78 ⟨390,0,396,24⟩ (λw os=>sT w os 660 1196 115 115 cW 135 4) w:=bh (R1 w) (Si w) rfl
theorem Sk(w:World):Rr 2021 77 ⟨382,0,389,28⟩ (λw os=>sT w os 639 1161 114 114 cW 132 4) w:=bh (R0 w) (Sj w) rfl
theorem Sl(w:World):Rr 2248 76 ⟨371,0,381,40⟩ (λw os=>sT w os 618 1128 113 113 cW 129 4) w:=bh (RZ w) (Sk w) rfl
theorem Sn(w:World):Rr 2507 75 ⟨356,0,370,55⟩ (λw os=>sT w os 588 1090 112 112 cW 126 4) w:=bh (RY w) (Sl w) rfl
theorem So(w:World):Rr 2777 74 ⟨351,0,355,65⟩ (λw os=>sT w os 559 1043 111 111 cW 123 4) w:=bh (RX w) (Sn w) rfl
theorem Sq(w:World):Rr 2992 63 ⟨329,16,329,21⟩ (λw os=>sT w os 536 997 100 100 cW 114 4) w:=bh (RW w) (So w) rfl
theorem Sr(w:World):Rr 3076 62 ⟨328,0,328,8⟩ (λw os=>sT w os 532 991 97 97 cW 114 4) w:=bh (RU w) (Sq w) rfl
theorem Ss(w:World):Rr 3255 56 ⟨240,0,274,55⟩ (λw os=>sT w os 497 930 92 92 mK 99 4) w:=bh (RT w) (Sr w) rfl
theorem Su(w:World):Rr 3609 55 ⟨239,0,239,8⟩ (λw os=>sT w os 448 866 91 91 mK 96 4) w:=bh (RS w) (Ss w) rfl
theorem Sv(w:World):Rr 3651 52 ⟨236,0,236,17⟩ (λw os=>sT w os 447 860 88 88 mK 96 4) w:=bh (RR w) (Su w) rfl
theorem Sw(w:World):Rr 3898 41 ⟨179,0,190,26⟩ (λw os=>sT w os 402 800 79 79 cQ 75 4) w:=bh (RQ w) (Sv w) rfl
theorem Sx(w:World):Rr 4144 40 ⟨174,0,178,35⟩ (λw os=>sT w os 381 760 78 78 cQ 72 4) w:=bh (RP w) (Sw w) rfl
theorem Sy(w:World):Rr 4380 39 ⟨169,0,173,40⟩ (λw os=>sT w os 360 730 77 77 cQ 69 4) w:=bh (RO w) (Sx w) rfl
theorem Sz(w:World):Rr 4616 38 ⟨156,0,168,28⟩ (λw os=>sT w os 339 700 76 76 cQ 66 4) w:=bh (RN w) (Sy w) rfl
theorem SA(w:World):Rr 4857 37 ⟨148,0,155,24⟩ (λw os=>sT w os 317 666 75 75 cQ 63 4) w:=bh (RM w) (Sz w) rfl
theorem SB(w:World):Rr 5095 36 ⟨134,0,147,27⟩ (λw os=>sT w os 296 634 74 74 cQ 60 4) w:=bh (RL w) (SA w) rfl
theorem SC(w:World):Rr 5330 35 ⟨133,57,133,62⟩ (λw os=>sT w os 275 593 73 73 cQ 57 4) w:=bh (RJ w) (SB w) rfl
theorem SD(w:World):Rr 5486 34 ⟨132,34,132,41⟩ (λw os=>sT w os 271 579 66 66 cQ 57 4) w:=bh (RI w) (SC w) rfl
theorem SE(w:World):Rr 5588 33 ⟨131,20,131,26⟩ (λw os=>sT w os 267 571 62 62 cQ 57 4) w:=bh (RH w) (SD w) rfl
theorem SF(w:World):Rr 5672 32 ⟨130,43,130,48⟩ (λw os=>sT w os 263 565 59 59 cQ 57 4) w:=bh (RG w) (SE w) rfl
theorem SG(w:World):Rr 5828 31 ⟨129,46,129,53⟩ (λw os=>sT w os 259 551 52 52 cQ 57 4) w:=bh (RF w) (SF w) rfl
theorem SH(w:World):Rr 6002 30 ⟨128,0,128,8⟩ (λw os=>sT w os 255 535 44 44 cQ 57 4) w:=bh (RE w) (SG w) rfl
theorem SI(w:World):Rr 6012 29 ⟨90,0,127,20⟩ (λw os=>sT w os 255 533 44 44 fB 57 4) w:=bh (RD w) (SH w) rfl
theorem SJ(w:World):Rr 6478 28 ⟨88,0,89,81⟩ (λw os=>sT w os 183 431 43 43 fB 54 4) w:=bh (RC w) (SI w) rfl
theorem SK(w:World):Rr 6622 22 ⟨57,0,58,83⟩ (λw os=>sT w os 155 394 37 37 fB 42 4) w:=bh (RA w) (SJ w) rfl
theorem r9(w:World):Rr 6867 14 ⟨23,19,23,24⟩ (λw os=>sT w os 99 326 29 29 fB 18 4) w:=bh (g9 w) (SK w) rfl
theorem r8(w:World):Rr 6969 13 ⟨22,0,22,7⟩ (λw os=>sT w os 95 318 25 25 fB 18 4) w:=bh (g8 w) (r9 w) rfl
theorem r7(w:World):Rr 7021 10 ⟨19,0,19,5⟩ (λw os=>sT w os 95 304 22 22 fB 18 4) w:=bh (g7 w) (r8 w) rfl
theorem r6(w:World):Rr 7253 7 ⟨14,0,15,8⟩ (λw os=>sT w os 83 284 20 20 jK 15 3) w:=bh (g6 w) (r7 w) rfl
theorem r5(w:World):Rr 7467 6 ⟨12,0,13,8⟩ (λw os=>sT w os 71 268 19 19 jK 12 2) w:=bh (g5 w) (r6 w) rfl
theorem r4(w:World):Rr 7681 5 ⟨10,0,11,8⟩ (λw os=>sT w os 59 252 18 18 jK 9 1) w:=bh (g4 w) (r5 w) rfl
theorem r3(w:World):Rr 7895 4 ⟨6,0,9,28⟩ (λw os=>sT w os 47 236 17 17 jK 6 0) w:=bh (g3 w) (r4 w) rfl
theorem r2(w:World):Rr 8125 2 ⟨4,61,4,74⟩ (λw os=>sT w os 26 206 16 16 wd 3 0) w:=bh (g2 w) (r3 w) rfl
theorem r1(w:World):Rr 8263 1 ⟨1,0,3,12⟩ (λw os=>sT w os 22 194 10 10 wd 3 0) w:=bh (g1 w) (r2 w) rfl
theorem r0(w:World):Rr 8293 0 q0 (λw os=>sT w os 15 187 9 9 wd 0 0) w:=bh (g0 w) (r1 w) rfl
theorem z3(w:World)(os:OsState):topRun treeTable pg w 11 (some (.ref 6)) 8306 (S0 w os) (topStub pg)=some (Sf w os):=
 go_top (n:=12) (N:=8294) (zY w os) (piece_block (n:=1) (N:=8293) (zZ w os) (by have:=r0 w os;rw [xW];exact this))
def kp(P:Params):Frag:=[(3,h3 P 143 143 (S "law_rg0166_01" 1452)),(0,boot_o_0 P),(2,boot_o_2 P),(43,Ou 4),(42,PY P),(56,P0),(55,PZ P),(68,P2),(67,P1 P),(80,P4),(79,P3 P),(92,P6),(91,P5 P),(250,DN),(249,DM P),(291,DR),(290,DQ P),(312,DV),(311,DU P),(334,D0),(333,DZ P),(355,D4),(354,D3 P),(376,D8),(375,D7 P),(397,Ec),(396,Eb P),(492,EH),(491,EG P),(583,E6),(582,E5 P),(613,Fd),(612,Fc P),(634,Fh),(633,Fg P),(655,Fm),(654,Fk P),(775,FV),(774,FU P),(796,FZ),(795,FY P),(21,PT),(20,PQ),(40,PX),(39,PW),(33,PV),(105,C7),(104,C6),(112,C9),(111,C8),(119,Db),(118,Da),(126,Dd),(125,Dc),(133,Df),(132,De),(140,Dh),(139,Dg),(147,Dj),(146,Di),(154,Dl),(153,Dk),(161,Dn),(160,Dm),(168,Dp),(167,Do),(175,Dr),(174,Dq),(182,Dt),(181,Ds),(197,Dw),(196,Dv),(190,Du),(204,Dy),(203,Dx),(211,DA),(210,Dz),(218,DC),(217,DB),(225,DE),(224,DD),(232,DG),(231,DF),(239,DI),(238,DH),(247,DL),(246,DK),(240,DJ),(288,DP),(287,DO),(309,DT),(308,DS),(331,DY),(330,DX),(324,DW),(352,D2),(351,D1),(373,D6),(372,D5),(394,Ea),(393,D9),(406,Ee),(405,Ed),(411,Eg),(410,Ef),(418,Ei),(417,Eh),(425,Ek),(424,Ej),(432,Em),(431,El),(439,Eo),(438,En),(446,Er),(445,Ep),(461,Ev),(460,Eu),(468,Ey),(467,Ew),(475,EA),(474,Ez),(482,EC),(481,EB),(489,EE),(488,ED),(503,EJ),(502,EI),(510,EL),(509,EK),(517,EN),(516,EM),(524,EP),(523,EO),(531,ER),(530,EQ),(544,EV),(543,EU),(551,EX),(550,EW),(558,EZ),(557,EY),(573,E2),(572,E1),(566,E0),(580,E4),(579,E3),(603,E9),(602,E8),(596,E7),(610,Fb),(609,Fa),(631,Ff),(630,Fe),(652,Fj),(651,Fi),(674,Fq),(673,Fp),(667,Fo),(681,Fs),(680,Fr),(688,Fu),(687,Ft),(695,Fw),(694,Fv),(702,Fy),(701,Fx),(709,FB),(708,Fz),(716,FD),(715,FC),(723,FF),(722,FE),(730,FH),(729,FG),(737,FJ),(736,FI),(744,FL),(743,FK),(751,FN),(750,FM),(758,FP),(757,FO),(765,FR),(764,FQ),(772,FT),(771,FS),(793,FX),(792,FW),(807,F2),(806,F0),(814,F4),(813,F3),(821,F6),(820,F5),(826,F8),(825,F7),(833,Ga),(832,F9),(840,Gc),(839,Gb),(847,Ge),(846,Gd),(854,Gh),(853,Gf),(861,Gj),(860,Gi),(868,Gl),(867,Gk),(875,Go),(874,Gm),(880,Gq),(879,Gp),(885,Gs),(884,Gr),(892,Gv),(891,Gu),(899,Gx),(898,Gw),(906,Gz),(905,Gy),(913,GB),(912,GA),(920,GD),(919,GC),(925,GF),(924,GE),(930,GH),(929,GG),(937,GJ),(936,GI),(944,GL),(943,GK),(951,GN),(950,GM),(956,GP),(955,GO),(961,GR),(960,GQ),(966,GT),(965,GS),(447,Et),(536,ES),(537,ET),(595,e0)]
def ka:List Addr:=[3,0,2,43,42,56,55,68,67,80,79,92,91,250,249,291,290,312,311,334,333,355,354,376,375,397,396,492,491,583,582,613,612,634,633,655,654,775,774,796,795,21,20,40,39,33,105,104,112,111,119,118,126,125,133,132,140,139,147,146,154,153,161,160,168,167,175,174,182,181,197,196,190,204,203,211,210,218,217,225,224,232,231,239,238,247,246,240,288,287,309,308,331,330,324,352,351,373,372,394,393,406,405,411,410,418,417,425,424,432,431,439,438,446,445,461,460,468,467,475,474,482,481,489,488,503,502,510,509,517,516,524,523,531,530,544,543,551,550,558,557,573,572,566,580,579,603,602,596,610,609,631,630,652,651,674,673,667,681,680,688,687,695,694,702,701,709,708,716,715,723,722,730,729,737,736,744,743,751,750,758,757,765,764,772,771,793,792,807,806,814,813,821,820,826,825,833,832,840,839,847,846,854,853,861,860,868,867,875,874,880,879,885,884,892,891,899,898,906,905,913,912,920,919,925,924,930,929,937,936,944,943,951,950,956,955,961,960,966,965,447,536,537,595]
def AS:List Str:=(["_wall","TOP_SKIP","SPLIT_TOP_SKIP","TAB_SKIP","SPACE_SKIP","XSPACE_SKIP","PAR_FILL_SKIP","PageError","BadArgument","Overflow","BadBox","BadPage","UNITY","MAX_DIMEN","MAX_NUMBER","INF_BAD","NORMAL","FIL","FILL","FILLL","is_whole","check_whole","check_number","check_dimen","rounded","reading","decimal_text","times","times_scaled","over","over_scaled","badness","order_text","part_text","Glue","CHAR","LIGATURE","HBOX","VBOX","RULE","KERN","GLUE","PENALTY","DISC","MARK","INSERT","ADJUST","MATH","SPECIAL","UNSET","NATURAL","STRETCHED","SHRUNK","FONT_KERN","EXPLICIT","ACCENT_KERN","MU_KERN","PLAIN","ALEADERS","CLEADERS","XLEADERS","MU_SKIP","NONSCRIPT","NAMED","Box","Kern","Skip","Penalty","Mark","Insert","height_of","depth_of","line_height","line_depth","is_discardable","is_breakable_ahead","check_column","AWFUL_boxops","DEPLORABLE_boxops","INF_PENALTY_boxops","EJECT_boxops","STANDING","Column","break_penalty","cost_here","best_break","vert_break","pruned","EMPTY","INSERTS","BOXES","AWFUL_pages","DEPLORABLE_pages","EJECT_pages","INF_PENALTY_pages","MOST_CLASS","SIZED","PARTS","TOP_SORT","natural_size","check_finite","split_room","InsertClass","InsertTable","Inserted","Page","PageBuilder","Sent","send","send_insert","next_page","_law_jar","_law_take","_law_glue","_law_box","_law_size","_law_insert","_law_item","_law_class","_law_node","_law_told","_law_cost","_law_penalty","_law_column","_law_split","_law_taken","_law_sums","_law_line","_law_end","_law_pruned","_law_sent","_law_same_page","_law_same_sums"]:List String).map Str.ofString
def qv:Program:={pg with main:={pg.main with body:=[st 107]}}
theorem SL:openSeen= @PySem.W.Fast.tw4187177175401517315:=PySem.W.Fast.te4187177175401517315
theorem SM:opening pg=plainProg pg.main.scope.names:=by kernel_rfl
theorem SN:∀s,fenceModules? pg s=some s:=λs=>by kernel_rfl
theorem SO(w:World):((boot_heap w.params).isNs mainGlobals&&(#[]:Array GenState).size==0,(boot_heap w.params).objs.size,(boot_heap w.params).nsMap mainGlobals "__annotations__")=(true,11,some (.ref 6)):=by kernel_rfl
theorem SP(w:World)(os:OsState):(staticsOk (importedModules pg.main.body) (boot_heap w.params) (Hf w.params)&&namesBound pg (Hf w.params)&&gensDone (Sf w os)&&laidKept (boot_heap w.params) (Hf w.params))=true:=by kernel_rfl
theorem SQ(w:World)(os:OsState):ka.map (Sf w os).heap.get?=(kp w.params).map λp=>some p.2:=by kernel_rfl
theorem SR(w:World)(os:OsState):openSeen qv AS (importedModules pg.main.body) (λ_=>true) true (Sf w os)=openGood qv AS:=by
 rw [SL];kernel_rfl
theorem left:LeftO pg qv AS (λ_=>true) (λs=>ka.map s.heap.get?) (λw=>(kp w.params).map λp=>some p.2) 20000:=
 LeftO.of_pieces (H₀:=boot_heap) (H₁:=Hf) (gs₀:= #[]) (gs₁:= #[]) (d₀:=boot_drawn) (d₁:={}) (k₀:=boot_toks) (k₁:=1679) (m₀:=11) (ann:=some (.ref 6)) (M:=8306)
  (boot_open SM rfl SN) SO z3 rfl λw=>funext λos=>Prod.ext (SP w os) (Prod.ext (SR w os) (SQ w os))
abbrev lw:=PySem.Challenge.rw_rg0166_01
theorem ST:(sreFenced lw.row.prog.main)=true:=by rw [PySem.W.Fast.te11788848310118352699];kernel_rfl
theorem SU:(namesResolve lw.row.prog)=true:=by rw [PySem.W.Fast.te8377067652309620493];kernel_rfl
theorem SV:(noRoadLSs {strict:= !(importedModules lw.row.prog.main.body).all cThrough.contains,foot:=none,bare:=(["vars","dir","locals"]:List Str).filter (readsOut lw.row.prog lw.row.prog.main.body)} lw.row.prog.main.body)=true:=by rw [PySem.W.Fast.te8326940854005059898];kernel_rfl
theorem SW:(namesMeet lw.row.prog lw.row.prog.main.body λ_ n=>attrL n)=true:=by rw [PySem.W.Fast.te17119622794617984870];kernel_rfl
theorem Ox:(lw.footing.all footLine)=true:=by rw [PySem.W.Fast.te10501279942588096481];kernel_rfl
theorem Oy:(noClassBlock lw.prog lw.footing)=true:=by rw [PySem.W.Fast.te8179353310426384613];kernel_rfl
theorem Oz:(noRoadLSs {strict:=true,foot:=some lw.bound',writes:=lw.writes,may:=lw.may} lw.footing)=true:=by rw [PySem.W.Fast.te8326940854005059898];kernel_rfl
theorem OA:(lw.namesIt)=true:=by rw [PySem.W.Fast.te16286561074155671207];kernel_rfl
theorem OB:(lw.bound'.all (λn=> !builtinNamed n||lw.about== [n]|| !lw.reads n))=true:=by simp only [PySem.W.Fast.named_eq];kernel_rfl
theorem OC:(namesMeet lw.prog lw.footing (λsc n=>(!(["type","isinstance","issubclass","getattr","hasattr"]:List Str).contains n||sc.names.lookup n==some .globalImplicit)&&(lw.may != some n||sc.kind== .module||sc.names.lookup n==some .globalImplicit)))=true:=by rw [PySem.W.Fast.te17119622794617984870];kernel_rfl
theorem OD:(lw.own.all (λn=> !builtinNamed n))=true:=by simp only [PySem.W.Fast.named_eq];kernel_rfl
theorem OE:(namesMeet lw.prog lw.above (λ_ n=> !lw.own.contains n))=true:=by rw [PySem.W.Fast.te17119622794617984870];kernel_rfl
theorem OF:(namesMeet lw.prog lw.footing (λsc n=>sc.kind== .module||sc.names.lookup n != some .globalExplicit))=true:=by rw [PySem.W.Fast.te17119622794617984870];kernel_rfl
theorem OG:PySem.Challenge.rw_rg0166_01.wellSaid=true:=by
 unfold OpenLaw.wellSaid OpenRow.wellSaid OpenRow.partSaid looksOpen
 repeat' (with_reducible refine look_both ?_ ?_)
 ·exact ST
 ·kernel_rfl
 ·exact SU
 ·kernel_rfl
 ·exact SV
 ·exact SW
 ·kernel_rfl
 ·kernel_rfl
 ·kernel_rfl
 ·kernel_rfl
 ·kernel_rfl
 ·kernel_rfl
 ·kernel_rfl
 ·kernel_rfl
 ·kernel_rfl
 ·kernel_rfl
 ·kernel_rfl
 ·kernel_rfl
 ·kernel_rfl
 ·kernel_rfl
 ·kernel_rfl
 ·kernel_rfl
 ·exact Ox
 ·exact Oy
 ·kernel_rfl
 ·kernel_rfl
 ·exact Oz
 ·kernel_rfl
 ·exact OA
 ·kernel_rfl
 ·exact OB
 ·kernel_rfl
 ·kernel_rfl
 ·exact OC
 ·kernel_rfl
 ·kernel_rfl
 ·exact OD
 ·exact OE
 ·exact OF
end Mine.D
end
noncomputable section
open PySem PySem.W PySem.Calls PyProof.Rows
set_option maxRecDepth 100000
set_option maxHeartbeats 1000000
namespace Mine
open D (kp)
abbrev pg:Program:=PySem.Challenge.pw_rg0166_01
def OH:Tb:=⟨xq,yR,eK,uD,lV,Iy⟩
def cx(w:World)(os:OsState):Cx:=⟨OH,PM,pg,w,kp w.params,os⟩
theorem fk{n:Nat}{p:Nat->Bool}(h:((List.range n).all p)=true){i:Nat}(hi:i<n):p i=true:=List.all_eq_true.mp h i (List.mem_range.mpr hi)
theorem sr{f:Nat}(h:(xq f).isSome=true):f<80:=by
 rcases Nat.lt_or_ge f 80 with h1|h1
 ·exact h1
 ·obtain⟨k,rfl⟩:=Nat.exists_eq_add_of_le' h1;exact absurd h (by show¬(false=true);exact Bool.false_ne_true)
theorem we{f:Nat}(h:(yR f).isSome=true):f<14:=by
 rcases Nat.lt_or_ge f 14 with h1|h1
 ·exact h1
 ·obtain⟨k,rfl⟩:=Nat.exists_eq_add_of_le' h1;exact absurd h (by show¬(false=true);exact Bool.false_ne_true)
theorem qw{c f k:Nat}(h:eK c f=some k):c<14/\f<50:=by
 rcases Nat.lt_or_ge c 14 with h1|h1
 ·refine⟨h1,?_⟩;rcases Nat.lt_or_ge f 50 with h2|h2
  ·exact h2
  ·obtain⟨j,rfl⟩:=Nat.exists_eq_add_of_le' h2;have:∀c<14,eK c (j+50)=none:=by
    intro c hc;match c,hc with
    |0,_=>rfl|1,_=>rfl|2,_=>rfl|3,_=>rfl|4,_=>rfl|5,_=>rfl|6,_=>rfl|7,_=>rfl|8,_=>rfl|9,_=>rfl|10,_=>rfl|11,_=>rfl|12,_=>rfl|13,_=>rfl
    |n+14,h=>omega
   rw [this c h1]at h;cases h
 ·obtain⟨k,rfl⟩:=Nat.exists_eq_add_of_le' h1
  cases h
theorem tF{c f:Nat}{x:V}(h:uD c f=some x):f=5/\((c=2/\x= .int 5)\/(c=3/\x= .int 6)\/(c=4/\x= .int 7)\/(c=5/\x= .int 9)\/(c=6/\x= .int 10)):=by
 unfold uD at h;split at h<;>first|cases h|skip
 all_goals(simp)
theorem qx{c m f:Nat}(h:lV c m=some f):c<14/\m<20:=by
 unfold lV at h;split at h<;>first|(cases h;done)|(constructor<;>decide)
section
variable (P:Params)
theorem GU:(bB.map λp=>(nsIn (kp P) mainGlobals p.1,nsIn (kp P) builtinsNs p.1))=bB.map λp=>(some none,some (some p.2)):=by kernel_rfl
def yT(K:Frag)(x:Str):Value:=match nsIn K mainGlobals x with
 |some (some v)=>v
 |_=>.none
theorem GV:((List.range 44).map λn=>nsIn (kp P) mainGlobals (xU n))=(List.range 44).map λn=>some (some (yT (kp P) (xU n))):=by kernel_rfl
theorem GW:((List.range 80).map λf=>(nsIn (kp P) mainGlobals (xV f),keepIn (kp P) (.ref (vx f))))=(List.range 80).map λf=>match xV f with
 |⟨⟨[]⟩⟩=>(some none,true)
 |_=>(some (some (.ref (vx f))),true):=by kernel_rfl
theorem GX:((List.range 14).map λc=>(nsIn (kp P) mainGlobals (C4 c),keepIn (kp P) (.ref (o9 c))))=(List.range 14).map λc=>(some (some (.ref (o9 c))),true):=by kernel_rfl
end
mutual
def GY(tab:List (Addr×List Value)):Nat->Value->V->Bool
 |_,.none,.none=>true
 |_,.bool b,.bool c=>b==c
 |_,.int i _,.int j=>i==j
 |n+1,.ref a,.ao xs=>match tab.lookup a with
  |some vs=>Nat.ble vs.length 1000&&uE tab n vs xs
  |none=>false
 |_,_,_=>false
def uE(tab:List (Addr×List Value)):Nat->List Value->List V->Bool
 |_,[],[]=>true
 |n+1,v::vs,x::xs=>GY tab n v x&&uE tab n vs xs
 |_,_,_=>false
end
section
variable {C:Cx}{I:Im}{π:Pi}{tab:List (Addr×List Value)}
theorem yU(ht:∀a vs,tab.lookup a=some vs->I a=some (kR vs 0)):∀n,(∀v x,GY tab n v x=true->RV C I π v x)/\∀vs xs,uE tab n vs xs=true->bx C I π vs xs:=by
 intro n;induction n with
 |zero=>
  refine⟨λv x h=>?_,λvs xs h=>?_⟩
  ·unfold GY at h;split at h<;>first|cases h;done|skip
   ·exact .none
   ·cases eq_of_beq h;exact .bool _
   ·cases eq_of_beq h;exact .int _ _
   ·rename_i hm;cases hm
  ·unfold uE at h;split at h<;>first|cases h;done|exact .nil|(rename_i hm;cases hm;done)
 |succ n ih=>
  refine⟨λv x h=>?_,λvs xs h=>?_⟩
  ·unfold GY at h;split at h<;>first|cases h;done|skip
   ·exact .none
   ·cases eq_of_beq h;exact .bool _
   ·cases eq_of_beq h;exact .int _ _
   ·rename_i m a xs hm
    cases hm;split at h
    ·rename_i vs hl;rw [Bool.and_eq_true]at h;have h1:=Nat.le_of_ble_eq_true h.1;exact .ao (ht _ _ hl) (by omega) (ih.2 _ _ h.2)
    ·cases h
  ·unfold uE at h;split at h<;>first|cases h;done|exact .nil|skip
   rename_i m v vs x xs hm
   cases hm;rw [Bool.and_eq_true]at h;exact .cons (ih.1 _ _ h.1) (ih.2 _ _ h.2)
end
def jU:List (Addr×List Value):=[(595,[]),(33,[(D.S "" 220)]),(190,[(D.J 0 443),(D.J 0 444),(D.J 0 445),(D.J 0 446),(D.J 0 447)]),(240,[(D.S "pt" 510)]),(324,[D.N]),(447,[(D.J 2 537),(D.J 3 538),(D.J 4 539),(D.J 14 557)]),(536,[(D.J 2 537),(D.J 3 538),(D.J 4 539)]),(537,[(D.J 2 537),(D.J 3 538),(D.J 4 539),(D.J 5 540),(D.J 6 541),(D.J 7 542),(D.J 9 552),(D.J 10 553),(D.J 13 556)]),(566,[(D.J 1000 1055),(D.J 1073741823 308),D.N,(D.J 0 1056)]),(596,[(D.R 595)]),(667,[(D.J 1073741823 308),(D.J 1073741823 308)])]
section
variable (P:Params)
theorem GZ:(jU.map λp=>(kp P).lookup p.1)=jU.map λp=>some (kR p.2 0):=by kernel_rfl
theorem nB{β:Type}:∀{l:List (Nat×β)} {a:Nat} {b:β},l.lookup a=some b->(a,b)∈l
 |(k,v)::r,a,b,h=>by
  rw [List.lookup_cons]at h;split at h
  ·rename_i q;cases h;rw [beq_iff_eq.mp q];exact .head _
  ·exact .tail _ (nB h)
theorem wf{P:Params}{I:Im}(h:∀a o,(kp P).lookup a=some o->I a=some o):∀a vs,jU.lookup a=some vs->I a=some (kR vs 0):=λa vs e=>
 h _ _ (List.map_inj_left.mp (GZ P) (a,vs) (nB e))
theorem OI:((List.range 44).all λn=>GY jU 12 (yT (kp P) (xU n)) (Iy n))=true:=by kernel_rfl
end
def fb(c:Nat):List (Nat×Nat):=(List.range 50).filterMap λf=>(eK c f).map (f, ·)
theorem eB{c f k:Nat}(h:eK c f=some k):(f,k)∈fb c:=List.mem_filterMap.mpr ⟨f,List.mem_range.mpr (qw h).2,by rw [h];rfl⟩
section
variable (P:Params)
def yV(K:Frag)(c f:Nat):Option (Option Value)×Bool×Option (Option Value):=(findIn K (.ref (o9 c)) (gB f),noGet K ((findIn K (.ref (o9 c)) (gB f)).getD none),takerIn K (o9 c) (gB f))
theorem G0:((List.range 14).map λc=>(fb c).map λp=>yV (kp P) c p.1)=(List.range 14).map λc=>(fb c).map λp=>(some ((findIn (kp P) (.ref (o9 c)) (gB p.1)).getD none),true,some none):=by kernel_rfl
theorem G1:((List.range 14).all λc=>(fb c).all λp=>(fb c).all λq=>(p.2==q.2)==(gB p.1==gB q.1))=true:=by kernel_rfl
theorem G2:((List.range 14).map λc=>(plainGet (kp P) (o9 c) Str.empty,hasDictIn (kp P) (o9 c),findIn (kp P) (.ref (o9 c)) "__setattr__",plainOver (kp P) (o9 c)))=(List.range 14).map λ_=>(true,true,some (some (.builtin "object.__setattr__")),true):=by kernel_rfl
def lW:List (Nat×Int):=[(2,5),(3,6),(4,7),(5,9),(6,10)]
theorem G3:(lW.map λp=>(findIn (kp P) (.ref (o9 p.1)) (gB 5),specialIn (kp P) (match findIn (kp P) (.ref (o9 p.1)) (gB 5)with|some (some v)=>v|_=>.none) "__get__"))=
  lW.map λp=>(some (some (match findIn (kp P) (.ref (o9 p.1)) (gB 5)with|some (some (.int _ t))=>.int p.2 t|_=>.none)),some none):=by kernel_rfl
theorem z4:(lW.all λp=>match findIn (kp P) (.ref (o9 p.1)) (gB 5)with|some (some (.int _ _))=>true|_=>false)=true:=by kernel_rfl
theorem z5:copiedNames.contains (gB 5)=false:=by kernel_rfl
theorem z6:((List.range 14).all λc=>(eK c 5).isSome||(fb c).all λp=> !(gB p.1==gB 5))=true:=by kernel_rfl
theorem OJ:((List.range 14).map λc=>(makesIn (kp P) (o9 c),findIn (kp P) (.ref (o9 c)) "__init__",typeIn (kp P) (.ref (vx ((yR c).elim 0 (·.init))))))=(List.range 14).map λc=>(true,some (some (.ref (vx ((yR c).elim 0 (·.init))))),some (.type "function")):=by kernel_rfl
theorem G4:((List.range 14).all λc=>match yR c with
 |some g=>(xq g.init).isSome&&(fb c).all (λp=>Nat.blt p.2 g.nf)&&Nat.ble g.nf 500
 |none=>false)=true:=by kernel_rfl
def jr(c:Nat):List (Nat×Nat):=(List.range 20).filterMap λm=>(lV c m).map (m, ·)
theorem nC{c m f:Nat}(h:lV c m=some f):(m,f)∈jr c:=List.mem_filterMap.mpr ⟨m,List.mem_range.mpr (qx h).2,by rw [h];rfl⟩
theorem G5:((List.range 14).map λc=>(jr c).map λp=>(plainGet (kp P) (o9 c) Str.empty,findIn (kp P) (.ref (o9 c)) (xT p.1),typeIn (kp P) (.ref (vx p.2)),keepIn (kp P) (.ref (vx p.2))))=
  (List.range 14).map λc=>(jr c).map λp=>(true,some (some (.ref (vx p.2))),some (.type "function"),true):=by kernel_rfl
theorem z7:((List.range 14).all λc=>(jr c).all λp=>(xq p.2).isSome&&(fb c).all λq=> !(gB q.1==xT p.1))=true:=by kernel_rfl
end
theorem jt{α:Type}{n:Nat}{F G:Nat->α}(h:(List.range n).map F=(List.range n).map G){i:Nat}(hi:i<n):F i=G i:=List.map_inj_left.mp h i (List.mem_range.mpr hi)
theorem lX{α β:Type}{l:List β}{F G:β->α}(h:l.map F=l.map G){x:β}(hx:x∈l):F x=G x:=List.map_inj_left.mp h x hx
theorem wg(P:Params):∃o es ep,(kp P).lookup cStatics=some o/\o.data= .dict es ep/\es= #[]:=⟨_,_,_,rfl,rfl,rfl⟩
section
variable (w:World)(os:OsState)
theorem z8{c f:Nat}(h:(eK c f).isSome=true\/(uD c f).isSome=true):m9 (cx w os) c:=by
 have hc:c<14:=by
  rcases h with h|h
  ·obtain⟨k,e⟩:=Option.isSome_iff_exists.mp h;exact(qw e).1
  ·obtain⟨k,e⟩:=Option.isSome_iff_exists.mp h;obtain⟨-,h⟩:=tF e;omega
 have hk:=jt (G2 w.params) hc;simp only [Prod.mk.injEq]at hk;obtain⟨k1,k2,k3,k4⟩:=hk;refine⟨k1,k2,k3,k4,λf k e=>?_,λf x e1 e2=>?_,λf f' k k' e e'=>?_⟩
 ·have e:eK c f=some k:=e;have:=lX (jt (G0 w.params) hc) (eB e);unfold yV at this;simp only [Prod.mk.injEq]at this;refine⟨_,this.1,?_,this.2.2⟩;exact this.2.1
 ·have e1:eK c f=none:=e1;have e2:uD c f=some x:=e2;obtain⟨rfl,hx⟩:=tF e2;obtain⟨i,hi,rfl⟩:∃i,(c,i)∈lW/\x= .int i:=by
   rcases hx with⟨rfl,rfl⟩|⟨rfl,rfl⟩|⟨rfl,rfl⟩|⟨rfl,rfl⟩|⟨rfl,rfl⟩<;>exact⟨_,by simp [lW],rfl⟩
  have hk:=lX (G3 w.params) hi;have hk2:=List.all_eq_true.mp (z4 w.params) _ hi;simp only [Prod.mk.injEq]at hk;dsimp only at hk2;obtain⟨q1,q2⟩:=hk;split at hk2
  ·rename_i j t ej;rw [ej]at q1 q2;dsimp only at q1 q2;simp only [Option.some.injEq,Value.int.injEq,and_true]at q1;subst q1;refine⟨.int j t,ej,q2,rfl,z5,λI π=>.int _ _,λf' k' e'=>?_⟩;have e':eK c f'=some k':=e';have:=List.all_eq_true.mp z6 c (List.mem_range.mpr hc);rw [e1]at this;simp only [Option.isSome_none,Bool.false_or]at this;have:=List.all_eq_true.mp this _ (eB e');intro q;have q:gB f'=gB 5:=q;rw [q]at this;simp at this
  ·cases hk2
 ·have e:eK c f=some k:=e;have e':eK c f'=some k':=e';have:=List.all_eq_true.mp (List.all_eq_true.mp (List.all_eq_true.mp G1 c (List.mem_range.mpr hc)) _ (eB e)) _ (eB e');dsimp only at this;have:=eq_of_beq this;rw [Bool.eq_iff_iff,beq_iff_eq,beq_iff_eq]at this;exact this
theorem G6{c:Nat}{g:Cl}(h:yR c=some g):xx (cx w os) c g:=by
 have hc:c<14:=we (by rw [h];rfl);have hk:=jt (OJ w.params) hc;simp only [h,Option.elim,Prod.mk.injEq]at hk;have h2:=List.all_eq_true.mp G4 c (List.mem_range.mpr hc);simp only [h,Bool.and_eq_true]at h2;refine⟨hk.1,hk.2.1,hk.2.2,h2.1.1,λf k e=>?_,Nat.le_of_ble_eq_true h2.2⟩;have:=List.all_eq_true.mp h2.1.2 _ (eB (show eK c f=some k from e));exact Nat.le_of_ble_eq_true this
theorem G7:eF (cx w os):=by
 refine⟨λp hp=>?_,λn hn=>?_,λf hf hne=>?_,λc hc=>?_,λc m f h=>?_,λh X=>?_,λh X=>?_,λc g h=>G6 w os h,λc f h=>z8 w os h⟩
 ·have:=lX (GU w.params) hp;simp only [Prod.mk.injEq]at this;exact this
 ·have hn:n<44:=Nat.le_of_ble_eq_true hn;refine⟨_,jt (GV w.params) hn,λI π hI=>?_⟩;exact(yU (wf hI) _).1 _ _ (List.all_eq_true.mp (OI w.params) n (List.mem_range.mpr hn))
 ·have hf:(xq f).isSome=true:=hf;have hne:xV f≠Str.empty:=hne;have:=jt (GW w.params) (sr hf);split at this
  ·rename_i e;exact absurd (by rw [e];rfl) hne
  ·simp only [Prod.mk.injEq]at this;exact this
 ·have:=jt (GX w.params) (we (show(yR c).isSome=true from hc));simp only [Prod.mk.injEq]at this;exact this
 ·have h:lV c m=some f:=h;have hc:=(qx h).1;have h1:=lX (jt (G5 w.params) hc) (nC h);simp only [Prod.mk.injEq]at h1;have h2:=List.all_eq_true.mp (List.all_eq_true.mp z7 c (List.mem_range.mpr hc)) _ (nC h);rw [Bool.and_eq_true]at h2;refine⟨h2.1,h1.1,h1.2.1,h1.2.2.1,h1.2.2.2,λf' k' e=>?_⟩;have:=List.all_eq_true.mp h2.2 _ (eB (show eK c f'=some k' from e));intro q;have q:gB f'=xT m:=q;simp only [q]at this;simp at this
 ·obtain⟨o,es,ep,h1,h2,rfl⟩:=wg w.params;refine⟨λ_=>none,⟨o, #[],ep,X _ _ h1,h2,?_,λname=>rfl⟩,rfl⟩;intro e he
  cases he with|mk h=>cases h
 ·exact⟨3,_,by decide,X 3 _ rfl⟩
end
def pN(P:Params)(f:Nat):FuncData:=match(kp P).lookup (vx f)with
 |some ⟨_,_,.func fd,_⟩=>fd
 |_=>default
def wh(P:Params)(f:Nat):List Stmt:=match(pN P f).body with
 |.stmts b=>b
 |_=>[]
def OK(P:Params)(f:Nat):List Value:=match(pN P f).defaults with
 |.ref a=>(jU.lookup a).getD []
 |_=>[]
def gF(f:Nat):Fn:=(xq f).getD ⟨0,[],0,.nil,true⟩
def yW(sc:Scope)(x:Str):Bool:=match sc.names.lookup x with
 |some .local=>true
 |some .cell=>true
 |_=>false
section
variable (P:Params)
theorem G8:((List.range 80).map λf=>((kp P).lookup (vx f)).map (·.data))=(List.range 80).map λf=>some (.func (pN P f)):=by kernel_rfl
theorem G9:((List.range 80).map λf=>((pN P f).body,(pN P f).globals,(pN P f).builtins,(pN P f).closure,(pN P f).scope.isCoroutine,(pN P f).scope.isGenerator,(pN P f).scope.kind))=
  (List.range 80).map λf=>(.stmts (wh P f),mainGlobals,builtinsNs,[],false,false,.function):=by kernel_rfl
theorem Ha:((List.range 80).all λf=>codeIn (kp P) (pN P f).code (pN P f).qualname)=true:=by kernel_rfl
theorem OL:((List.range 80).all λf=>uE jU 12 (OK P f) (gF f).dfl)=true:=by kernel_rfl
theorem OM:((List.range 80).all λf=>Nat.beq (nA f).length (gF f).nl&&Nat.ble (gF f).np (gF f).nl&&decide (nA f).Nodup&&((nA f).take (gF f).np).all (yW (pN P f).scope))=true:=by kernel_rfl
theorem ON:((List.range 80).all λf=>((pN P f).scope.names.all λx=> !(x.2== .free))&&decide ((pN P f).scope.names.map (·.1)).Nodup)=true:=by kernel_rfl
def qy(f:Nat):Bool:=iC ⟨PM,OH,(pN P f).scope,nA f,true⟩ (gF f).body (wh P f)
theorem OO:((List.range 20).all λf=>qy P f)=true:=by kernel_rfl
theorem OP:((List.range 15).all λf=>qy P (f+20))=true:=by kernel_rfl
theorem OQ:((List.range 5).all λf=>qy P (f+35))=true:=by kernel_rfl
theorem OR:((List.range 5).all λf=>qy P (f+40))=true:=by kernel_rfl
theorem OS:((List.range 20).all λf=>qy P (f+45))=true:=by kernel_rfl
theorem OT:((List.range 15).all λf=>qy P (f+65))=true:=by kernel_rfl
def z9:List (Nat×Nat):=(List.range 80).flatMap λf=>(List.range ((gF f).dfl.length+1)).map λk=>(f,(gF f).np-k)
theorem OU(v:Nat->Value)(S:Setting):(z9.map λp=>peek (kp P) S (bindArgs (pN P p.1) ⟨(List.range p.2).map v,[]⟩))=
  z9.map λp=>some (((nA p.1).take (gF p.1).np).zip ((List.range p.2).map v++(OK P p.1).drop ((gF p.1).dfl.length+p.2-(gF p.1).np))):=by kernel_rfl
theorem SX:((List.range 80).all λf=>Nat.ble (gF f).dfl.length (gF f).np)=true:=by kernel_rfl
end
theorem xX(P:Params){f:Nat}(hf:f<80):qy P f=true:=by
 rcases Nat.lt_or_ge f 20 with h|h
 ·exact fk (OO P) h
 rcases Nat.lt_or_ge f 35 with h1|h1
 ·have:=fk (OP P) (i:=f-20) (by omega);rwa [Nat.sub_add_cancel h]at this
 rcases Nat.lt_or_ge f 40 with h2|h2
 ·have:=fk (OQ P) (i:=f-35) (by omega);rwa [Nat.sub_add_cancel h1]at this
 rcases Nat.lt_or_ge f 45 with h3|h3
 ·have:=fk (OR P) (i:=f-40) (by omega);rwa [Nat.sub_add_cancel h2]at this
 rcases Nat.lt_or_ge f 65 with h4|h4
 ·have:=fk (OS P) (i:=f-45) (by omega);rwa [Nat.sub_add_cancel h3]at this
 ·have:=fk (OT P) (i:=f-65) (by omega);rwa [Nat.sub_add_cancel h4]at this
theorem su(vals:List Value):(List.range vals.length).map (λi=>(vals[i]?).getD .none)=vals:=by
 apply List.ext_getElem
 ·simp
 ·intro i h1 h2;simp [List.getElem?_eq_getElem h2]
theorem Hb(w:World)(os:OsState){f:Nat}{g:Fn}(h:xq f=some g):vP (cx w os) f g (pN w.params f) (wh w.params f) (nA f) (OK w.params f):=by
 have hf:f<80:=sr (by rw [h];rfl);have hg:gF f=g:=by unfold gF;rw [h];rfl
 have h1:=jt (G8 w.params) hf;have h2:=jt (G9 w.params) hf;simp only [Prod.mk.injEq]at h2;obtain⟨a1,a2,a3,a4,a5,a6,a7⟩:=h2;have h3:=fk (OM w.params) hf;have h4:=fk (ON w.params) hf;simp only [hg,Bool.and_eq_true,decide_eq_true_eq,List.all_eq_true]at h3 h4;obtain⟨⟨⟨n1,n2⟩,n3⟩,n4⟩:=h3;have n1:=Nat.eq_of_beq_eq_true n1;have n2:=Nat.le_of_ble_eq_true n2;refine⟨?_,a1,a2,a3,a4,a5,a6,a7,fk (Ha w.params) hf,λvals s X l1 l2=>?_,λI π hI=>?_,n1,n2,n3,λx hx=>?_,λx hx=>?_,h4.2⟩
 ·obtain⟨o,e1,e2⟩:=Option.map_eq_some_iff.mp h1;exact⟨o,e1,e2⟩
 ·refine kp_binds X λS=>?_;have hw:(f,vals.length)∈z9:=by
   refine List.mem_flatMap.mpr ⟨f,List.mem_range.mpr hf,List.mem_map.mpr ⟨g.np-vals.length,List.mem_range.mpr ?_,?_⟩⟩
   ·rw [hg];omega
   ·rw [hg];congr 1;omega
  have:=lX (OU w.params (λi=>(vals[i]?).getD .none) S) hw;dsimp only at this;rw [su,hg]at this;exact this
 ·have:=fk (OL w.params) hf;rw [hg]at this;exact(yU (wf hI) _).2 _ _ this
 ·have:=n4 x hx;unfold yW at this;split at this
  ·rename_i e;exact .inl e
  ·rename_i e;exact .inr e
  ·cases this
 ·have:=h4.1 _ (mem_of_lookup hx);exact absurd (show(!(NameKind.free==NameKind.free))=true from this) (by decide)
theorem xY(w:World)(os:OsState):v9 (cx w os):=λf g h=>by
 have h:xq f=some g:=h;have hg:gF f=g:=by unfold gF;rw [h];rfl
 refine⟨_,_,_,_,Hb w os h,?_⟩;have:=xX w.params (sr (by rw [h];rfl:(xq f).isSome=true));unfold qy at this;rw [hg]at this;exact this
theorem xZ(w:World)(os:OsState)(d:Nat):fP (cx w os) d:=rV (G7 w os) (xY w os) d
end Mine
end
noncomputable section
open PySem PySem.W PySem.Calls PyProof.Rows
set_option maxRecDepth 100000
set_option maxHeartbeats 1000000
namespace Mine
open D (kp ka qv AS)
theorem SY(P:Params):ka=(kp P).map (·.1):=by kernel_rfl
def OV:Stmt->Pos
 |.FunctionDef (pos:=p) .. =>p
 |_=>default
def dl:DefRec:=⟨"law",D.PP (D.st 107),D.PN (D.st 107),D.PO (D.st 107),OV (D.st 107)⟩
theorem Hc:defOf qv D.lw.row.name=some (dl,[]):=by kernel_rfl
theorem SZ:D.lw.row.prog.theDef D.lw.row.name=some (dl.params,dl.body,dl.scope):=by kernel_rfl
theorem Ta:kwWritten? dl.params.kwonlyargs dl.params.kw_defaults=some []:=by kernel_rfl
theorem OW:(chainsOk qv&&opensWell D.lw.row.prog&&(frees D.lw.row.toRowW&&D.lw.row.within.isEmpty))=true:=by kernel_rfl
theorem Aa:D.lw.row.prog.bare:=⟨rfl,rfl,rfl,rfl,rfl,by decide+kernel⟩
theorem Ab:D.lw.row.toRowW.promised:=⟨[.list []],by decide+kernel,by decide+kernel⟩
theorem Hd:dF callerA 20:=⟨by decide+kernel,by decide+kernel,rfl⟩
theorem Ac{h:Heap}{mg:Str->Option Value}{P:Params}(X:(kp P).In h)(g:h.Ns mainGlobals mg):mg "law"=some (.ref (vx 44)):=by
 obtain⟨o,es,ep,e1,e2,-,e4⟩:=g;have e3:h.get? mainGlobals=some _:=X 3 _ rfl;rw [e1]at e3
 cases e3
 cases e2;rw [←e4]
 kernel_rfl
theorem qz:∀{xs:List WData},WShape.hasItems [] xs .int=true->∃is:List Int,xs=is.map .int
 | [],_=>⟨[],rfl⟩
 |x::xs,h=>by
  have h':(WShape.has [] x .int&&WShape.hasItems [] xs .int)=true:=h;rw [Bool.and_eq_true]at h';obtain⟨is,rfl⟩:=qz h'.2;have h1:=h'.1
  cases x with
  |int i=>exact⟨i::is,rfl⟩
  |_=>simp [WShape.has,WShape.arms]at h1
theorem wj{args:List WData}(hpre:D.lw.row.toRowW.claim.pre args=true):∃is:List Int,args=[.list (is.map .int)]/\is.length<=63:=by
 have h1:=(pre_splitW hpre).1;have h2:=(pre_splitW hpre).2;obtain⟨d,r,rfl,e1,e2⟩:=hasAllW_cons (show WShape.hasAll [] args [.list .int]=true from h1)
 cases r with
 |cons=>cases e2
 |nil=>
 obtain⟨xs,rfl,e3⟩:=hasW_list e1;obtain⟨is,rfl⟩:=qz e3;refine⟨is,rfl,?_⟩;have h2':WTm.holds [] (.and (.not (.lt (.lit (.int 63)) (.len (.arg 0)))) (.lit (.bool true))) {args:=[.list (is.map .int)]}=true:=h2;obtain⟨h3,h4⟩:=holds_andW h2';simp [WTm.holds,WTm.value]at h3;have h5:less? (.int 63) (.int (is.length:Int))=some (decide ((63:Int)<is.length)):=rfl;rw [h5]at h3;by_cases hc:(63:Int)<is.length
 ·rw [decide_eq_true hc]at h3;simp at h3
 ·omega
theorem pf{C:Cx}{I:Im}{π:Pi}{P:Params}{h:Heap}:∀{is:List Int} {vs:List Value},WellAll P h vs (is.map .int)->bx C I π vs (is.map .int)
 | [],_,.nil=>.nil
 |i::is,_,.cons a b=>by
  cases a with|int _ t=>exact .cons (.int _ _) (pf b)
theorem holds_of(plain:∀is:List Int,is.length<=63->aG OH 20 44 [.ad (is.map .int)] [] (λv _=>v= .bool true)):PySem.Challenge.rw_rg0166_01.Holds:=by
 have L:LeftO D.lw.row.prog qv AS (λ_=>true) (λs=>ka.map s.heap.get?) (λw=>(kp w.params).map λp=>some p.2) 20000:=D.left;refine holds_law D.OG λsd=>PySem.W.holds_open (q:=qv) (loose:=AS) (Xt:=λ_=>true) (XP:=λ_ _=>True) (Yf:=λs=>ka.map s.heap.get?) (Ya:=λw=>(kp w.params).map λp=>some p.2) (YP:=λw h=>(kp w.params).In h) (d:=dl) (kwd:=[]) (N:=20000)
  L (λw s e=>Frag.in_of (SY w.params) e) (λw h h' X k=>X.keeps k) (λ_ _=>trivial) (λ_ _ _ _ _=>trivial) Hc SZ Ta (λs _=>recFacts_of rfl) rfl sd OW Aa Ab ?_
 intro w s₀ s₁ mg mb G Y a o pm cd doc dV kV ho hd hcd hD hmg hg args vals as hpre hlay hrd hwl hlo;obtain⟨is,rfl,hlen⟩:=wj hpre;have Y:(kp w.params).In s₁.heap:=Y;have ha:a=vx 44:=by
  have:=Ac Y G.T.g;have hmg:mg "law"=some (.ref a):=hmg;rw [this]at hmg
  cases hmg;rfl
 subst ha;obtain⟨v,vs',rfl,hw,hw'⟩:=wellAll_cons_inv hwl
 cases hw' with
 |nil=>
 cases hw with
 | @list x vs _ hx hall=>
 refine enter_call ?_;let I:Im:=λb=>match(kp w.params).lookup b with
  |some o=>some o
  |none=>if b=x then some (fM vs 0)else none
 have hI:∀b o,I b=some o->s₁.heap.get? b=some o:=λb o e=>by
  have e:(match(kp w.params).lookup b with|some o=>some o|none=>if b=x then some (fM vs 0)else none)=some o:=e
  cases hq:(kp w.params).lookup b with
  |some o'=>rw [hq]at e;cases e;exact Y _ _ hq
  |none=>
   rw [hq]at e;by_cases hb:b=x
   ·subst hb;rw [hx];simpa using e
   ·simp [hb]at e
 have hk:∀b o,(kp w.params).lookup b=some o->I b=some o:=λb o e=>by
  show(match(kp w.params).lookup b with|some o=>some o|none=>if b=x then some (fM vs 0)else none)=some o;rw [e]
 have hIx:I x=some (fM vs 0):=by
  show(match(kp w.params).lookup x with|some o=>some o|none=>if x=x then some (fM vs 0)else none)=_;split
  ·rename_i o' e';have:=Y _ _ e';rw [hx]at this;exact this.symm
  ·rw [if_pos rfl]
 have inv:aK (cx w s₁.os) I [] [] s₁:=⟨hI,hk,rfl,λi p co h=>by simp at h,by simp,λp h=>by simp at h,hg,rfl⟩
 have hl:vs.length=is.length:=by
  have:=(pf (C:=cx w s₁.os) (I:=I) (π:=[]) hall).length;simpa using this
 have rv:bx (cx w s₁.os) I [] [.ref x] [.ad (is.map .int)]:=.cons (.ad hIx (by omega) (pf hall)) .nil;have:=xZ w s₁.os 20 44 [.ad (is.map .int)] [] (λv _=>v= .bool true) I [] s₁ [.ref x] callerA Hd (plain is hlen) inv rv;refine codeAny_mono this λr s' h=>?_;rcases r with ee|(v|_|_|_)<;>first|exact h.elim|skip
 obtain⟨I',π',y,H',e,i,r,k⟩:=h;subst k
 cases r with
 |bool _=>
 have hpost:D.lw.row.toRowW.claim.post [.list (is.map .int)] (.bool true) [.list (is.map .int)]=true:=by wrow_post
 refine⟨.inl ⟨.bool true,.bool true,[],rfl,λ_=>rfl,.bool _,hpost,λ_=>⟨by simp,λ_ h=>by simp at h⟩⟩,.of_keep λb o hb=>e.stay b o hb (by simp) (by simp),i.os,.of_eq i.gens⟩
end Mine
end
noncomputable section
namespace Mine
theorem ku{X Y:Prop}(h:X):gf true X Y:=⟨(λ_=>h),(λe=>nomatch e)⟩
theorem nD{X Y:Prop}(h:Y):gf false X Y:=⟨(λe=>nomatch e),(λ_=>h)⟩
theorem lY{p:Prop}[Decidable p]{X Y:Prop}(x:p->X)(y:¬p->Y):gf (decide p) X Y:=⟨(λe=>x (of_decide_eq_true e)),(λe=>y (of_decide_eq_false e))⟩
theorem Ad{p:Prop}[Decidable p]{X Y:Prop}(x:¬p->X)(y:p->Y):gf (!decide p) X Y:=⟨(λe=>x (by simpa using e)),(λe=>y (by simpa using e))⟩
theorem wk{a b:Int}{X Y:Prop}(x:a<b->X)(y:b<=a->Y):gf (iz .lt a b) X Y:=lY x λh=>y (Int.not_lt.mp h)
theorem wm{a b:Int}{X Y:Prop}(x:a<=b->X)(y:b<a->Y):gf (iz .le a b) X Y:=lY x λh=>y (Int.not_le.mp h)
theorem wn{a b:Int}{X Y:Prop}(x:b<a->X)(y:a<=b->Y):gf (iz .gt a b) X Y:=lY x λh=>y (Int.not_lt.mp h)
theorem wp{a b:Int}{X Y:Prop}(x:b<=a->X)(y:a<b->Y):gf (iz .ge a b) X Y:=lY x λh=>y (Int.not_le.mp h)
theorem wq{a b:Int}{X Y:Prop}(x:a=b->X)(y:a≠b->Y):gf (iz .eq a b) X Y:=lY x y
theorem wu{a b:Int}{X Y:Prop}(x:a≠b->X)(y:a=b->Y):gf (iz .ne a b) X Y:=Ad x y
theorem tG{n:Nat}{H:Hp}{i:Int}{K:V->Prop}(h:K (.int i)):mN n H (.int i) K:=⟨_,rfl,.int _,h⟩
theorem qA{n:Nat}{H:Hp}{i:Bool}{K:V->Prop}(h:K (.bool i)):mN n H (.bool i) K:=⟨_,rfl,.bool _,h⟩
theorem qB{n:Nat}{H:Hp}{K:V->Prop}(h:K .none):mN n H .none K:=⟨_,rfl,.none,h⟩
end Mine
end
noncomputable section
namespace Mine
set_option maxRecDepth 10000
section
theorem wv{b:Bool}{X Y:Prop}(x:b=true->X)(y:b=false->Y):gf b X Y:=⟨x,y⟩
theorem tH{b:Bool}{X Y:Prop}(h:gf b Y X):gf (!b) X Y:=⟨λe=>h.f (by simpa using e),λe=>h.t (by simpa using e)⟩
theorem uF{H:Hp}:H.take H.length=H:=List.take_length
theorem cX{H:Hp}{K:Prop}(h:K):av (H.take H.length=H) K:=⟨uF,h⟩
theorem nE{K:V->Hp->Prop}{v v':V}{H:Hp}(h:K v' H)(e:v=v'):K v H:=e▸h
theorem aw{d f:Nat}{g:Fn}{vs:List V}{H:Hp}{K:V->Hp->Prop}(e:tb.fn f=some g)(hl:(Nat.ble vs.length g.np&&Nat.ble g.np (vs.length+g.dfl.length))=true)(h:aM tb (aG tb d) g.body (pR g vs) H (fL g.pure H K)):aG tb (d+1) f vs H K:=by
 show(match tb.fn f with|some g=>A7 tb (aG tb d) g vs H K|Option.none=>_);rw [e];rw [Bool.and_eq_true]at hl;exact⟨⟨Nat.le_of_ble_eq_true hl.1,Nat.le_of_ble_eq_true hl.2⟩,h⟩
def fz:Nat->V->Bool
 |0,_=>false
 |_+1,.ref _=>false
 |d+1,.ao xs=>xs.all (fz d)
 |_+1,_=>true
theorem df{f:V->Option V}:∀{xs:List V},(∀x∈xs,f x=some x)->xs.mapM f=some xs
 | [],_=>rfl
 |a::l,h=>by rw [List.mapM_cons,h a (.head _),df λx hx=>h x (.tail _ hx)];rfl
theorem lZ{n:Nat}{H:Hp}:∀{d:Nat} {v:V},fz d v=true->frz n H d v=some v
 |0,_,h=>by cases h
 |d+1,v,h=>by
  cases v with
  |ref=>cases h
  |ao xs=>
   show(xs.mapM (frz n H d)).map V.ao=_;rw [df λx hx=>lZ (List.all_eq_true.mp h x hx)];rfl
  |_=>rfl
def Ae:Nat->V->Bool
 |0,_=>false
 |_+1,.ref _=>false
 |d+1,.ao xs=>xs.all (Ae d)
 |d+1,.ad xs=>xs.all (Ae d)
 |d+1,.obj _ xs=>xs.all (Ae d)
 |d+1,.dct xs=>xs.all λp=>Ae d p.2
 |_+1,_=>true
theorem dC:∀{d:Nat} {v:V},Ae d v=true->NR v
 |0,_,h=>by cases h
 |d+1,v,h=>by
  cases v with
  |ref=>cases h
  |ao xs=>exact .ao λx hx=>dC (List.all_eq_true.mp h x hx)
  |ad xs=>exact .ad λx hx=>dC (List.all_eq_true.mp h x hx)
  |obj c xs=>exact .obj λx hx=>dC (List.all_eq_true.mp h x hx)
  |dct xs=>exact .dct λx hx=>dC (List.all_eq_true.mp h x hx)
  |none=>exact .none
  |bool=>exact .bool _
  |int=>exact .int _
  |chr=>exact .chr _
  |st=>exact .st _
theorem tI{n:Nat}{H:Hp}{v:V}{K:V->Prop}(e:(fz 8 v&&Ae 8 v)=true)(h:K v):mN n H v K:=by
 rw [Bool.and_eq_true]at e;exact⟨v,lZ e.1,dC e.2,h⟩
inductive aA where
 |b (l h d:Int)|g (w s:Int) (z:Nat) (k so:Int)|p (v:Int)
inductive Nd where
 |pt (x:aA)|k (w:Int)|m (c:Int)|i (n s c:Int) (ps:List aA) (t:Int)
def gl(w s:Int)(z:Nat)(k:Int):V:=.obj 0 [.int w,.int s,.int z,.int k,.int 0]
def aQ:aA->V
 |.b l h d=>.ao [.chr 98,.int l,.int h,.int d]
 |.g w s z k _=>.ao [.chr 103,.int w,.int s,.int z,.int k]
 |.p v=>.ao [.chr 112,.int v]
def ci:aA->V
 |.b l h d=>.obj 1 [.int 2,.int l,.int h,.int d,.ad [],.int 0,.int 0,.int 0,.ao [.int 0,.int 1]]
 |.g w s z k so=>.obj 3 [gl w s z k,.int so,.none]
 |.p v=>.obj 4 [.int v]
def aP:Nd->V
 |.pt x=>aQ x
 |.k w=>.ao [.chr 107,.int w]
 |.m c=>.ao [.chr 109,.ao [.ao [.int 11,.int c]]]
 |.i n s c ps t=>.ao [.chr 105,.int n,.int s,.int c,.ao (ps.map aQ),.int t]
def nd(aa:Int):Nd->V
 |.pt x=>ci x
 |.k w=>.obj 2 [.int w,.int 1]
 |.m c=>.obj 5 [.ao [.ao [.int 11,.int c]]]
 |.i n s c ps t=>.obj 6 [.int n,.int s,.int aa,gl t 0 0 0,.int c,.ad (ps.map ci)]
local macro_rules | `(tactic| fail "w") => `(tactic| ((try (conv => whnf)); (first
 |(with_reducible refine ku ?_)
 |(with_reducible refine nD ?_)
 |(with_reducible refine tH ?_)
 |(with_reducible (first|refine wk (λhb=>?_) (λhb=>?_)|refine wm (λhb=>?_) (λhb=>?_)|refine wn (λhb=>?_) (λhb=>?_)|refine wp (λhb=>?_) (λhb=>?_)|refine wq (λhb=>?_) (λhb=>?_)|refine wu (λhb=>?_) (λhb=>?_)|refine lY (λhb=>?_) (λhb=>?_))<;>(try (exfalso;omega)))
 |refine ku ?_
 |refine nD ?_
 |(with_reducible refine cX ?_)
 |refine aS.mk ⟨_,rfl,?_⟩
 |refine av.mk (by first|decide|omega|exact .inr (by decide)|exact .inl (by decide)|exact .inr (by omega)|exact .inl (by omega)) ?_
 |(with_reducible (first|refine tG ?_|refine qA ?_|refine qB ?_))
 |refine tI rfl ?_
 |fail "c"
 |(with_reducible refine wv (λhb=>?_) (λhb=>?_)))))
structure S0(C:CT):Prop where c:∀{v lo hi H K},K (.bool (decide (lo<=v/\v<=hi))) H->C 0 [.int v,.int lo,.int hi] H K
theorem s0(d:Nat):S0 (aG tb (d+1)):=⟨λ{v lo hi H K} h=>by
 refine aw rfl rfl ?_;generalize aG tb d=C
 repeat' fail "w"
 ·exact nE h (congrArg V.bool (by simp [iz, *]))
 ·exact nE h (congrArg V.bool (by simp;omega))⟩
structure S1(C:CT):Prop where c:∀{v H K},K (.int v) H->C 1 [.int v] H K
theorem s1(d:Nat):S1 (aG tb (d+1)):=⟨λ{v H K} h=>by
 refine aw rfl rfl ?_;generalize aG tb d=C
 repeat' fail "w"
 exact h⟩
local macro_rules | `(tactic| fail "c") => `(tactic| with_reducible refine S1.c (by assumption) ?_)
structure S2(C:CT):Prop where c:∀{v H K},-(2^31-1)<=v->v<=2^31-1->K (.int v) H->C 2 [.int v] H K
theorem s2(d:Nat):S2 (aG tb (d+2)):=⟨λ{v H K} h1 h2 h=>by
 refine aw rfl rfl ?_;have c1:=s1 d;generalize aG tb (d+1)=C at*
 repeat' fail "w"
 exact h⟩
structure S3(C:CT):Prop where c:∀{v H K},-(2^30-1)<=v->v<=2^30-1->K (.int v) H->C 3 [.int v] H K
theorem s3(d:Nat):S3 (aG tb (d+2)):=⟨λ{v H K} h1 h2 h=>by
 refine aw rfl rfl ?_;have c1:=s1 d;generalize aG tb (d+1)=C at*
 repeat' fail "w"
 exact h⟩
def ju(v b:Int):Int:=if v<0 then-((v.natAbs:Int).fdiv b.natAbs)else(v.natAbs:Int).fdiv b.natAbs
def tJ(v b:Int):Int:=if v<0 then-((v.natAbs:Int).fmod b.natAbs)else(v.natAbs:Int).fmod b.natAbs
structure S4(f:Nat)(C:CT):Prop where c:∀{v b H K},0<b->b<2^30->K (.ao [.int (ju v b),.int (tJ v b)]) H->C f [.int v,.int b] H K
theorem tK{C:CT}(c1:S1 C){v b:Int}{H:Hp}{K:V->Hp->Prop}(h1:0<b)(h2:b<2^30)(h:K (.ao [.int (ju v b),.int (tJ v b)]) H):aM tb C oV (pR ⟨2,[],4,oV,true⟩ [.int v,.int b]) H (fL true H K):=by
 have hb:¬b<0:=by omega
 repeat' fail "w"
 all_goals
  rename_i h3 h4;simp only [b0,iz,decide_eq_false hb]at h3;refine nE h ?_;by_cases hv:v<0
  ·first|(exfalso;omega)|(simp [hv]at h3;done)|simp [ju,tJ,hv]
  ·first|(exfalso;omega)|(simp [hv]at h3;done)|simp [ju,tJ,hv]
theorem s4(d:Nat):S4 4 (aG tb (d+2)):=⟨λ{v b H K} h1 h2 h=>aw rfl rfl (tK (s1 d) h1 h2 h)⟩
theorem P9(d:Nat):S4 79 (aG tb (d+2)):=⟨λ{v b H K} h1 h2 h=>aw rfl rfl (tK (s1 d) h1 h2 h)⟩
def nF(e t:Int):Int:=
 if e=0 then 0 else if t<=0 then 10000 else
 if 1290<(e*297).fdiv t then 10000 else((e*297).fdiv t*(e*297).fdiv t*(e*297).fdiv t+131072).fdiv 262144
structure S5(C:CT):Prop where c:∀{e t H K},0<=e->e<=7230584->t<2^30->K (.int (nF e t)) H->C 5 [.int e,.int t] H K
theorem s5(d:Nat):S5 (aG tb (d+1)):=⟨λ{e t H K} h1 h2 h3 h=>by
 refine aw rfl rfl ?_;generalize aG tb d=C at*;have hr:0<t->0<=(e*297).fdiv t:=λht=>Int.fdiv_nonneg (by omega) (by omega)
 repeat' fail "w"
 all_goals exact nE h (by simp only [nF];(repeat' split)<;>first|rfl|(exfalso;omega))⟩
structure S6(C:CT):Prop where c:∀{l h d H K},K (.int h) H->C 6 [ci (.b l h d)] H K
theorem s6(d:Nat):S6 (aG tb (d+1)):=⟨λ{l h d' H K} k=>by
 refine aw rfl rfl ?_;generalize aG tb d=C at*
 repeat' fail "w"
 exact k⟩
structure S7(C:CT):Prop where c:∀{l h d H K},K (.int d) H->C 7 [ci (.b l h d)] H K
theorem s7(d:Nat):S7 (aG tb (d+1)):=⟨λ{l h d' H K} k=>by
 refine aw rfl rfl ?_;generalize aG tb d=C at*
 repeat' fail "w"
 exact k⟩
def iY:Nd->Bool
 |.pt (.b ..)=>false
 |.pt _=>true
 |.k _=>true
 |.m _=>false
 |.i .. =>false
structure S8(C:CT):Prop where c:∀{aa x H K},K (.bool (iY x)) H->C 8 [nd aa x] H K
theorem s8(d:Nat):S8 (aG tb (d+1)):=⟨λ{aa x H K} k=>by
 refine aw rfl rfl ?_;generalize aG tb d=C at*;rcases x with(x|x|x)|x|x|x;all_goals
  repeat' fail "w"
  exact k⟩
structure S9(C:CT):Prop where c:∀{aa x H K},K (.bool (!iY x)) H->C 9 [nd aa x] H K
local macro_rules | `(tactic| fail "c") => `(tactic| with_reducible refine S8.c (by assumption) ?_)
theorem s9(d:Nat):S9 (aG tb (d+2)):=⟨λ{aa x H K} k=>by
 refine aw rfl rfl ?_;have c1:=s8 d;generalize aG tb (d+1)=C at*
 repeat' fail "w"
 exact k⟩
structure AT(C:CT):Prop where c:∀{w s z k H K},K .none H->C 17 [gl w s z k] H K
theorem OX(d:Nat):AT (aG tb (d+1)):=⟨λ{w s z k' H K} k=>by
 refine aw rfl rfl ?_;generalize aG tb d=C at*
 repeat' fail "w"
 exact k⟩
def aR(size ai:Int):Int:=if ai=1000 then size else size.fdiv 1000*ai
structure Af(C:CT):Prop where c:∀{size ai H K},0<=ai->ai<=1000->K (.int (aR size ai)) H->C 36 [.int size,.int ai] H K
theorem Tc(d:Nat):Af (aG tb (d+1)):=⟨λ{size ai H K} h1 h2 k=>by
 refine aw rfl rfl ?_;generalize aG tb d=C at*
 repeat' fail "w"
 ·exact nE k (by simp [aR, *])
 ·exact nE k (by simp [aR, *])⟩
end
theorem bP{H:Hp}{x:CO}:(H++[x])[H.length]?=some x:=by rw [List.getElem?_append_right (Nat.le_refl _),Nat.sub_self];rfl
theorem ww{n d:Nat}{H:Hp}{is:List Int}:(is.map V.int).mapM (frz n H (d+1))=some (is.map V.int):=df λx hx=>by obtain⟨i,-,rfl⟩:=List.mem_map.mp hx;rfl
theorem dH{n:Nat}{H:Hp}{v u:V}{K:V->Prop}(e:frz n H 8 v=some u)(r:NR u)(h:K u):mN n H v K:=⟨u,e,r,h⟩
theorem dg{H X:Hp}{K:Prop}(h:K):av ((H++X).take H.length=H) K:=⟨List.take_left' rfl,h⟩
theorem cA{H:Hp}{x y:CO}:(H++[x]).set H.length y=H++[y]:=by
 rw [List.set_append_right _ _ (Nat.le_refl _),Nat.sub_self];rfl
theorem uG{H:Hp}{x:CO}{K:CO->Prop}(k:K x):bL (H++[x]) H.length K:=⟨⟨x,by rw [List.getElem?_append_right (Nat.le_refl _),Nat.sub_self];rfl,k⟩⟩
theorem ya{xs:List Int}{z:Nat}(h:z<xs.length){K:V->Prop}(k:K (.int (xs.getD z 0))):aS (dm (xs.map .int) (z:Int)) K:=⟨⟨_,by
 show(xs.map V.int)[z]?=_;rw [List.getElem?_map,List.getElem?_eq_getElem h];rfl,by rw [List.getD_eq_getElem?_getD,List.getElem?_eq_getElem h]at k;exact k⟩⟩
theorem wz{n z:Nat}(h:z<n){K:Nat->Prop}(k:K z):aS (oA n (z:Int)) K:=⟨⟨z,by show(if z<n then some z else none)=_;rw [if_pos h],k⟩⟩
theorem yb{xs:List Int}{z:Nat}{i:Int}:(xs.map V.int).set z (.int i)=(xs.set z i).map .int:=by rw [List.map_set]
local macro_rules | `(tactic| fail "w") => `(tactic| ((try (conv => whnf)); (first
  | (with_reducible refine ku ?_)
  | (with_reducible refine nD ?_)
  | (with_reducible refine tH ?_)
  | (with_reducible (first | refine wk (λhb => ?_) (λhb => ?_) | refine wm (λhb => ?_) (λhb => ?_) | refine wn (λhb => ?_) (λhb => ?_) | refine wp (λhb => ?_) (λhb => ?_) | refine wq (λhb => ?_) (λhb => ?_) | refine wu (λhb => ?_) (λhb => ?_) | refine lY (λhb => ?_) (λhb => ?_)) <;> (try (exfalso; omega)))
  | refine ku ?_
  | refine nD ?_
  | (with_reducible refine cX ?_)
  | refine aS.mk ⟨_, rfl, ?_⟩
  | refine av.mk (by first | decide | omega | exact .inr (by decide) | exact .inl (by decide) | exact .inr (by omega) | exact .inl (by omega)) ?_
  | (with_reducible (first | refine tG ?_ | refine qA ?_ | refine qB ?_))
  | refine tI rfl ?_
  | (with_reducible refine uG ?_)
  | refine ya (by omega) ?_
  | (refine wz (by first | omega | (rw [List.length_map]; omega)) ?_; (try rw [cA]); (try rw [yb]))
  | fail "c"
  | (with_reducible refine wv (λhb => ?_) (λhb => ?_)))))
local macro_rules | `(tactic| fail "r") => `(tactic| repeat' fail "w")
local macro_rules | `(tactic| fail "v") => `(tactic| (try (conv => whnf)))
local macro_rules | `(tactic| fail "x") => `(tactic| ((repeat' fail "w"); (try (conv => whnf))))
variable {H H' H0:Hp}{v:V}{K:Fl->aE->Hp->Prop}{ys is:List Int}{ps:List aA}{room free G U:Int}{C:CT}{pre af L W:List Nd}{x10 x11 x12 x13 x14 x16 x17 x3 x4 x5 x6 x7 x8 x9 x1 x2 y13 y15 y18:Option V}{rj rc rb j:Nat}{y:CO}{fs:List V}{bb:Bool}
section

inductive fD(H:Hp):V->List V->Prop where
 |ad (xs):fD H (.ad xs) xs
 |ao (xs):fD H (.ao xs) xs
 |ref {r xs}:H[r]?=some (.ad xs)->fD H (.ref r) xs
def jv(H H':Hp):Prop:=∀r:Nat,r<H.length->H'[r]?=H[r]?
theorem jv.refl:jv H H:=λ_ _=>rfl
theorem jv.app(X:Hp)(h:jv H H'):jv H (H'++X):=λr hr=>by
 have:=h r hr;rw [List.getElem?_append_left]
 ·exact this
 ·rw [List.getElem?_eq_getElem hr]at this;exact(List.getElem?_eq_some_iff.mp this).1
theorem aF{r:Nat}{x:CO}(h:H[r]?=some x):r<H.length:=(List.getElem?_eq_some_iff.mp h).1
theorem fD.kept{xs:List V}(h:fD H v xs)(k:jv H H'):fD H' v xs:=by
 cases h with
 |ad=>exact .ad _
 |ao=>exact .ao _
 |ref e=>exact .ref (by rw [k _ (aF e)];exact e)
theorem qC{H1:Hp}{xs:List V}{K:List V->(Hp->Prop)->Prop}(h:fD H v xs)(kp:jv H H1)(k:∀ck:Hp->Prop,(∀H',jv H H'->ck H')->K xs ck):pO H1 v K:=by
 cases h with
 |ad=>exact k _ λ_ _=>trivial
 |ao=>exact k _ λ_ _=>trivial
 | @ref r _ e=>exact bL.mk ⟨_,by rw [kp _ (aF e)];exact e,k (λH'=>H'[r]?=some (.ad xs)) λH' hk=>by rw [hk _ (aF e)];exact e⟩
theorem tL{xs:List V}{K:List V->(Hp->Prop)->Prop}(h:fD H v xs)(k:∀ck:Hp->Prop,(∀H',jv H H'->ck H')->K xs ck):pO H v K:=qC h .refl k
theorem Ag{xs:List V}{K:List V->Prop}(h:fD H v xs)(k:K xs):aY H v K:=by
 cases h with
 |ad=>exact k
 |ao=>exact k
 |ref e=>exact bL.mk ⟨_,e,k⟩
def uH:aA->Int
 |.b _ h d=>h+d
 |.g w .. =>w
 |.p _=>0
def sz:Nd->Int
 |.pt x=>uH x
 |.k w=>w
 |_=>0
def size:List Nd->Int
 | []=>0
 |x::xs=>sz x+size xs
theorem iG{C:CT}{ck:Hp->Prop}{v:V}{H:Hp}{K:Fl->aE->Hp->Prop}(hc:ck H):∀(xs:List Nd) (acc:Int) (x0:Option V),(∀x1,K .next [some v,some (.int (acc+size xs)),x1] H)->
  ba (λρ=>ec ρ (.one 2)) (λρ H=>aM tb C iD ρ H) ck (xs.map aP) [some v,some (.int acc),x0] H K
 | [],acc,x0,k=>⟨hc,by have:=k x0;rw [show acc+size []=acc from Int.add_zero _]at this;exact this⟩
 |a::xs,acc,x0,k=>by
  refine⟨hc,?_⟩;rcases a with(a|a|a)|a|a|a;all_goals
   fail "r";refine iG hc xs _ _ λx1=>?_;have:=k x1;simp only [size,sz,uH]at this;first
    |(rw [Int.add_assoc];exact this)
    |(rw [Int.zero_add]at this;exact this)
structure AU(C:CT):Prop where c:∀{v xs H K},fD H v (xs.map aP)->K (.int (size xs)) H->C 26 [v] H K
theorem HQ(d:Nat):AU (aG tb (d+1)):=⟨λ{v xs H K} hs k=>by
 refine aw rfl rfl ?_;generalize aG tb d=C at*;fail "r";refine tL hs λck hc=>?_;refine ed.mk ?_;refine iG (hc _ .refl) xs 0 _ λx1=>?_;fail "r";exact nE k (by rw [Int.zero_add])⟩
def be(ps:List aA):Int:=size (ps.map .pt)
local macro_rules | `(tactic| fail "c") => `(tactic| first | with_reducible refine S6.c (by assumption) ?_ | with_reducible refine S7.c (by assumption) ?_)
theorem jw{C:CT}(c6:S6 C)(c7:S7 C){ck:Hp->Prop}{v:V}{H:Hp}{K:Fl->aE->Hp->Prop}(hc:ck H):∀(xs:List aA) (acc:Int) (x0:Option V),(∀x1,K .next [some v,some (.int (acc+be xs)),x1] H)->
  ba (λρ=>ec ρ (.one 2)) (λρ H=>aM tb C eZ ρ H) ck (xs.map ci) [some v,some (.int acc),x0] H K
 | [],acc,x0,k=>⟨hc,by have:=k x0;rw [show acc+be []=acc from Int.add_zero _]at this;exact this⟩
 |a::xs,acc,x0,k=>by
  refine⟨hc,?_⟩;rcases a with a|a|a;all_goals
   fail "r";refine jw c6 c7 hc xs _ _ λx1=>?_;have:=k x1;simp only [be,List.map_cons,size,sz,uH]at this;first
    |(simp only [be];rw [Int.add_assoc];exact this)
    |(simp only [be];rw [Int.zero_add]at this;exact this)
structure Td(C:CT):Prop where c:∀{v xs H K},fD H v (xs.map ci)->K (.int (be xs)) H->C 16 [v] H K
theorem Qa(d:Nat):Td (aG tb (d+2)):=⟨λ{v xs H K} hs k=>by
 refine aw rfl rfl ?_;have c6:=s6 d;have c7:=s7 d;generalize aG tb (d+1)=C at*;fail "r";refine tL hs λck hc=>?_;refine ed.mk ?_;refine jw c6 c7 (hc _ .refl) xs 0 _ λx1=>?_;fail "r";exact nE k (by rw [Int.zero_add])⟩
structure vy where
 st:List Int
 sh:Int
 dp:Int
def aT(aa:Int)(c:vy):Nd->vy
 |.pt (.g w s z k _)=>⟨c.st.set z (c.st.getD z 0+s),c.sh+k,0⟩
 |.k _=>{c with dp:=0}
 |.pt (.b _ _ d)=>{c with dp:=min d aa}
 |_=>c
def ay(aa:Int)(xs:List Nd):vy:=xs.foldl (aT aa) ⟨[0,0,0,0],0,0⟩
def OY:aA->Prop
 |.g _ _ z _ _=>z<4
 |_=>True
def xt:Nd->Prop
 |.pt x=>OY x
 |_=>True
theorem gp{C:CT}{ck:Hp->Prop}{v:V}{aa:Int}{H:Hp}{K:Fl->aE->Hp->Prop}(hc:∀X,ck (H++[X])):∀(xs:List Nd) (c:vy) (x0:Option V),c.st.length=4->(∀x∈xs,xt x)->
  (∀x1,K .next [some v,some (.int aa),x1,some (.ref H.length),some (.int (xs.foldl (aT aa) c).sh),some (.int (xs.foldl (aT aa) c).dp)] (H++[.ad ((xs.foldl (aT aa) c).st.map .int)]))->
  ba (λρ=>ec ρ (.one 2)) (λρ H=>aM tb C gi ρ H) ck (xs.map aP) [some v,some (.int aa),x0,some (.ref H.length),some (.int c.sh),some (.int c.dp)] (H++[.ad (c.st.map .int)]) K
 | [],c,x0,h4,hz,k=>⟨hc _,k x0⟩
 |a::xs,c,x0,h4,hz,k=>by
  refine⟨hc _,?_⟩;have hz0:=hz a (.head _);have hz1:∀x∈xs,xt x:=λx hx=>hz x (.tail _ hx);have ih:=gp (C:=C) (v:=v) (K:=K) hc xs (aT aa c a) (some (aP a)) (by rcases a with(a|a|a)|a|a|a<;>simp [aT,h4]) hz1 k;rcases a with(a|⟨w,s,z,kk,so⟩|a)|a|a|a
  case pt.g=>
   have hz0:z<4:=hz0;fail "r";exact ih
  all_goals
   fail "r";exact ih
structure HR(C:CT):Prop where c:∀{v:V} {xs:List Nd} {aa:Int} {H:Hp} {K:V->Hp->Prop},fD H v (xs.map aP)->(∀x∈xs,xt x)->K (.ao [.int (size xs-(ay aa xs).dp),.int (ay aa xs).dp,.ad ((ay aa xs).st.map .int),.int (ay aa xs).sh]) H->C 34 [v,.int aa] H K
theorem Qb(d:Nat):HR (aG tb (d+2)):=⟨λ{v xs aa H K} hs hz k=>by
 refine aw rfl rfl ?_;have c26:=HQ d;generalize aG tb (d+1)=C at*;fail "r";refine qC hs (jv.app _ .refl) λck hc=>?_;refine ed.mk ?_;refine gp (λX=>hc _ (jv.app _ .refl)) xs ⟨[0,0,0,0],0,0⟩ _ rfl hz λx1=>?_;fail "r";refine c26.c (hs.kept (jv.app _ .refl)) ?_;fail "x";refine dH (u:=.ao [.int (size xs-(ay aa xs).dp),.int (ay aa xs).dp,.ad ((ay aa xs).st.map .int),.int (ay aa xs).sh]) ?_ ?_ ?_
 ·simp only [frz,List.mapM_cons,List.mapM_nil,Nat.lt_irrefl,if_false,bP,ww];rfl
 ·exact .ao λx hx=>by
   rcases hx with _|⟨_,_|⟨_,_|⟨_,_|⟨_,h⟩⟩⟩⟩
   ·exact .int _
   ·exact .int _
   ·exact .ad λy hy=>by obtain⟨i,-,rfl⟩:=List.mem_map.mp hy;exact .int i
   ·exact .int _
   ·cases h
 ·exact dg k⟩
end
def rB(tall ae:Int)(st:List Int)(sh price extra:Int):Int:=
 let AR:Int:=(ae-tall).natAbs
 let give:=if tall<ae then st.getD 0 0 else sh
 if(ae<=tall/\sh<AR)\/10000<=extra then 2^30-1
 else if price<=-10000 then price
 else if AR=0\/(tall<ae/\(st.getD 1 0≠0\/st.getD 2 0≠0\/st.getD 3 0≠0))then price+extra
 else
  let ratio:=if 0<give then(297*AR).fdiv give else 1291
  if ratio<=1290 then(ratio^3+131072).fdiv 262144+price+extra else 100000
theorem Ah{xs:List Int}(h:xs.length=4):∃a b c d,xs=[a,b,c,d]:=by
 match xs,h with
 | [a,b,c,d],_=>exact⟨a,b,c,d,rfl⟩
structure OZ(C:CT):Prop where c:∀{tall ae:Int} {st:List Int} {sh price extra:Int} {H:Hp} {K:V->Hp->Prop},st.length=4->st.getD 0 0<2^30->sh<2^30->K (.int (rB tall ae st sh price extra)) H->C 32 [.int tall,.int ae,.ad (st.map .int),.int sh,.int price,.int extra] H K
theorem Qc(d:Nat):OZ (aG tb (d+1)):=⟨λ{tall ae st sh price extra H K} h4 hs0 hsh k=>by
 obtain⟨s0,s1,s2,s3,rfl⟩:=Ah h4;have hs0:s0<2^30:=hs0;refine aw rfl rfl ?_;generalize aG tb d=C at*;have hr1:0<s0->0<=(297*((ae-tall).natAbs:Int)).fdiv s0:=λht=>Int.fdiv_nonneg (by omega) (by omega);have hr2:0<sh->0<=(297*((ae-tall).natAbs:Int)).fdiv sh:=λht=>Int.fdiv_nonneg (by omega) (by omega);fail "r";all_goals(refine nE k (congrArg V.int ?_);simp only [rB,List.getD_cons_zero,List.getD_cons_succ];(repeat' split)<;>first|rfl|(exfalso;omega))⟩
def ky:Option Nd->Bool
 |some (.pt (.b ..))=>true
 |some (.m _)=>true
 |some (.i ..)=>true
 |_=>false
def Ai:Option Nd->Bool
 |some (.pt (.g ..))=>true
 |_=>false
def pen(xs:List Nd)(n:Nat):Int:=match xs[n]? with
 |some (.pt (.p v))=>v
 |some (.pt (.g ..))=>if 0<n/\ky xs[n-1]?=true then 0 else 10000
 |some (.k _)=>if Ai xs[n+1]?=true then 0 else 10000
 |_=>10000
theorem sv{xs:List Nd}{n:Nat}{i:Int}{x:Nd}(e:i=n)(h:xs[n]?=some x){K:V->Prop}(k:K (aP x)):aS (dm (xs.map aP) i) K:=by
 subst e;exact⟨⟨aP x,by show(xs.map aP)[n]?=_;rw [List.getElem?_map,h];rfl,k⟩⟩
inductive sw:V->List V->Prop where
 |ad (xs):sw (.ad xs) xs
 |ao (xs):sw (.ao xs) xs
theorem sw.seq{xs:List V}(h:sw v xs):fD H v xs:=by cases h with|ad=>exact .ad _|ao=>exact .ao _
structure O0(C:CT):Prop where c:∀{v:V} {xs:List Nd} {n:Nat} {H:Hp} {K:V->Hp->Prop},sw v (xs.map aP)->n<xs.length->K (.int (pen xs n)) H->C 33 [v,.int n] H K
theorem Qd(d:Nat):O0 (aG tb (d+1)):=⟨λ{v xs n H K} hv hn k=>by
 obtain⟨x,hx⟩:∃x,xs[n]?=some x:=⟨_,List.getElem?_eq_getElem hn⟩
 refine aw rfl rfl ?_;generalize aG tb d=C at*;generalize hX:xs.map aP=X at hv
 cases hv;all_goals
  subst hX;fail "v";refine sv rfl hx ?_;simp only [pen,hx]at k;rcases x with(x|x|x)|x|x|x
  case pt.b=>(fail "r");exact k
  case pt.p=>(fail "r");exact k
  case m=>(fail "r");exact k
  case i=>(fail "r");exact k
  case pt.g=>
   fail "r"
   ·rename_i hb;obtain⟨y,hy⟩:∃y,xs[n-1]?=some y:=⟨_,List.getElem?_eq_getElem (by omega)⟩
    fail "v";refine sv (n:=n-1) (by omega) hy ?_;rw [hy]at k;rcases y with(y|y|y)|y|y|y<;>(fail "r")<;>first|exact nE k (by simp [ky];omega)|exact nE k (by simp [ky])
   ·exact nE k (by rw [if_neg (by omega)])
  case k=>
   fail "r"
   ·rename_i hb;rw [List.length_map]at hb;obtain⟨y,hy⟩:∃y,xs[n+1]?=some y:=⟨_,List.getElem?_eq_getElem (by omega)⟩
    fail "v";refine sv (n:=n+1) (by omega) hy ?_;rw [hy]at k;rcases y with(y|y|y)|y|y|y<;>(fail "r")<;>exact nE k (by simp [Ai])
   ·rename_i hb;rw [List.length_map]at hb;rw [List.getElem?_eq_none (show xs.length<=n+1 by omega)]at k;exact nE k (by simp [Ai])⟩
structure mL where
 w:Int
 s:Int
 z:Nat
 k:Int
structure cz where
 ai:Int
 most:Int
 gap:mL
 al:Int
structure dI where
 sz:Int
 last:Int
 sat:Int
 spl:Int
def bD(ps:List Nd)(room aa:Int):List Nat->Nat->Int->Nat
 | [],ag,_=>ag
 |a::r,ag,least=>
  let price:Int:=if a=ps.length then-10000 else pen ps a
  if price<10000 then
   let c:=ay aa (ps.take a)
   let aq:=rB (size (ps.take a)-c.dp) room c.st c.sh price 0
   let best':=if aq<=least then a else ag
   let least':=if aq<=least then aq else least
   if aq=2^30-1\/price<=-10000 then best' else bD ps room aa r best' least'
  else bD ps room aa r ag least
def bA(ps:List Nd)(room aa:Int):Nat:=bD ps room aa (List.range (ps.length+1)) ps.length (2^30-1)
def okP:aA->Prop
 |.b l h d=>0<=l/\l<=20000/\0<=h/\h<=20000/\0<=d/\d<=20000
 |.g w s z k _=>0<=w/\w<=20000/\0<=s/\s<=20000/\z<4/\(s=0->z=0)/\0<=k/\k<=20000
 |.p v=> -10000<=v/\v<=10000
def bV(N:Nat):Nd->Prop
 |.pt x=>okP x
 |.k w=>0<=w/\w<=20000
 |.m _=>True
 |.i n s c ps t=>(n=1\/n=2)/\s=be ps/\0<=c/\c<=10000/\(∀p∈ps,okP p)/\ps.length<=N/\0<=t/\t<=20000
theorem bV.z{N:Nat}{x:Nd}(h:bV N x):xt x:=by
 rcases x with(x|x|x)|x|x|x<;>first|exact h.2.2.2.2.1|trivial
theorem He{N:Nat}{x:Nd}(h:bV N x):0<=sz x/\sz x<=40000:=by
 rcases x with(⟨l,h',d⟩|⟨w,s,z,k,so⟩|v)|w|c|⟨n,s,c,ps,t⟩
 ·obtain⟨a,b,c,d',e,f⟩:=h;simp only [sz,uH];omega
 ·obtain⟨a,b,r⟩:=h;simp only [sz,uH];omega
 ·simp [sz,uH]
 ·obtain⟨a,b⟩:=h;simp only [sz];omega
 ·simp [sz]
 ·simp [sz]
theorem jx{N:Nat}:∀{xs:List Nd},(∀x∈xs,bV N x)->0<=size xs/\size xs<=40000*xs.length
 | [],_=>by simp [size]
 |x::xs,h=>by
  have h1:=He (h x (.head _));have h2:=jx (xs:=xs) λy hy=>h y (.tail _ hy);simp only [size,List.length_cons];omega
structure l0(c:vy)(n:Nat):Prop where
 len:c.st.length=4
 st:∀i,0<=c.st.getD i 0/\c.st.getD i 0<=20000*n
 sh:0<=c.sh/\c.sh<=20000*n
 dp:0<=c.dp/\c.dp<=20000
theorem qD{xs:List Int}{z i:Nat}{v:Int}:(xs.set z v).getD i 0=if z=i/\z<xs.length then v else xs.getD i 0:=by
 rw [List.getD_eq_getElem?_getD,List.getD_eq_getElem?_getD,List.getElem?_set];by_cases h1:z=i
 ·subst h1;by_cases h2:z<xs.length
  ·simp [h2]
  ·simp [h2]
 ·simp [h1]
theorem wA{N:Nat}{aa:Int}(hd:0<=aa){c:vy}{n:Nat}{x:Nd}(h:l0 c n)(hx:bV N x):l0 (aT aa c x) (n+1):=by
 have hst:=h.st;have hmono:l0 c (n+1):=⟨h.len,λi=>by have:=hst i;omega,by have:=h.sh;omega,h.dp⟩
 rcases x with(⟨l,h',d⟩|⟨w,s,z,k,so⟩|v)|w|cc|⟨nn,s,cc,ps,t⟩
 ·obtain⟨a,b,c',d',e,f⟩:=hx;refine⟨hmono.len,hmono.st,hmono.sh,?_⟩;show 0<=min d aa/\min d aa<=20000;omega
 ·obtain⟨a,b,e,f,g,-,i,j⟩:=hx;refine⟨by show(c.st.set z _).length=4;rw [List.length_set];exact h.len,λi=>?_,?_,by show(0:Int)<=0/\(0:Int)<=20000;omega⟩
  ·show 0<=(c.st.set z (c.st.getD z 0+s)).getD i 0/\(c.st.set z (c.st.getD z 0+s)).getD i 0<=_;rw [qD];have h1:=hst z;have h2:=hst i;split<;>omega
  ·have:=h.sh;show 0<=c.sh+k/\c.sh+k<=_;omega
 ·exact hmono
 ·exact⟨hmono.len,hmono.st,hmono.sh,by show(0:Int)<=0/\(0:Int)<=20000;omega⟩
 ·exact hmono
 ·exact hmono
theorem qE{N:Nat}{aa:Int}(hd:0<=aa):∀{xs:List Nd} {c:vy} {n:Nat},l0 c n->(∀x∈xs,bV N x)->l0 (xs.foldl (aT aa) c) (n+xs.length)
 | [],c,n,h,_=>h
 |x::xs,c,n,h,hx=>by
  have:=qE (xs:=xs) hd (wA hd h (hx x (.head _))) λy hy=>hx y (.tail _ hy);rw [List.foldl_cons,List.length_cons,show n+(xs.length+1)=n+1+xs.length by omega];exact this
theorem ph{N:Nat}{aa:Int}(hd:0<=aa){xs:List Nd}(h:∀x∈xs,bV N x):l0 (ay aa xs) xs.length:=by
 have:=qE (c:=⟨[0,0,0,0],0,0⟩) (n:=0) hd ⟨rfl,λi=>?_,by simp,by simp⟩ h
 ·rw [Nat.zero_add]at this;exact this
 ·rcases i with _|_|_|_|i<;>simp
section
set_option maxHeartbeats 1000000
theorem map_take{α:Type}{f:α->V}{xs:List α}{n:Nat}(h:n<=xs.length):(xs.map f).take (aC (xs.map f).length (n:Int))=(xs.take n).map f:=by
 show(xs.map f).take (min n (xs.map f).length)=_;rw [List.length_map,Nat.min_eq_left h,List.map_take]
theorem map_drop{α:Type}{f:α->V}{xs:List α}{n:Nat}(h:n<=xs.length):(xs.map f).drop (aC (xs.map f).length (n:Int))=(xs.drop n).map f:=by
 show(xs.map f).drop (min n (xs.map f).length)=_;rw [List.length_map,Nat.min_eq_left h,List.map_drop]
def m0(l:List Nat):List V:=l.map λ(k:Nat)=>.int (k:Int)
theorem qF{n:Nat}:t9 ((n:Int)+1)=m0 (List.range (n+1)):=by
 show(List.range ((n:Int)+1).toNat).map _=_;rw [show((n:Int)+1).toNat=n+1 by omega];rfl
theorem Aj{v':V}{ρ:aE}(h:K (.ret v') ρ H)(e:v=v'):K (.ret v) ρ H:=e▸h
theorem gL{C:CT}(c33:O0 C)(c34:HR C)(c32:OZ C){ps:List Nd}{room aa:Int}(hd:0<=aa)(hps:∀x∈ps,bV 0 x)(hlen:ps.length<=50){H:Hp}{K:Fl->aE->Hp->Prop}:
  ∀(l:List Nat) (ag:Nat) (least:Int) (x3 x6 x7 x8 x9 x10 x11:Option V),(∀a∈l,a<=ps.length)->
  (∀x3 b x6 x7 x8 x9 x10 x11,K .next [some (.ao (ps.map aP)),some (.int room),some (.int aa),x3,some (.int (bD ps room aa l ag least:Nat)),b,x6,x7,x8,x9,x10,x11] H)->
  (∀ρ,K (.ret (.int (bD ps room aa l ag least:Nat))) ρ H)->
  ba (λρ=>ec ρ (.one 3)) (λρ H=>aM tb C eI ρ H) (λ_=>True) (m0 l) [some (.ao (ps.map aP)),some (.int room),some (.int aa),x3,some (.int (ag:Nat)),some (.int least),x6,x7,x8,x9,x10,x11] H K
 | [],ag,least,x3,x6,x7,x8,x9,x10,x11,hl,k,kr=>⟨trivial,k _ _ _ _ _ _ _ _⟩
 |a::l,ag,least,x3,x6,x7,x8,x9,x10,x11,hl,k,kr=>by
  refine⟨trivial,?_⟩;have ha:=hl a (.head _);have hl':∀b∈l,b<=ps.length:=λb hb=>hl b (.tail _ hb);have ih:=λag least x3 x6 x7 x8 x9 x10 x11=>gL c33 c34 c32 (room:=room) hd hps hlen (H:=H) (K:=K) l ag least x3 x6 x7 x8 x9 x10 x11 hl';have hc:=ph (N:=0) hd (xs:=ps.take a) λx hx=>hps x (List.mem_of_mem_take hx);have hta:(ps.take a).length<=50:=by rw [List.length_take];omega
  have b1:=hc.st 0;have b2:=hc.sh;have hsz:∀x∈ps.take a,xt x:=λx hx=>(hps x (List.mem_of_mem_take hx)).z;have hlm:(ps.map aP).length=ps.length:=List.length_map ..;have hpow:(2:Int)^Int.toNat 30-1=2^30-1:=rfl;have ih2:∀best' least' x3 x6 x7 x8 x9 x10 x11,bD ps room aa (a::l) ag least=bD ps room aa l best' least'->ba (λρ=>ec ρ (.one 3)) (λρ H=>aM tb C eI ρ H) (λ_=>True) (m0 l) [some (.ao (ps.map aP)),some (.int room),some (.int aa),x3,some (.int (best':Nat)),some (.int least'),x6,x7,x8,x9,x10,x11] H K:=
   λbest' least' x3 x6 x7 x8 x9 x10 x11 e=>ih _ _ _ _ _ _ _ _ _ (by rw [←e];exact k) (by rw [←e];exact kr)
  by_cases hal:a=ps.length
  ·fail "x";refine c34.c (xs:=ps.take a) (by rw [map_take ha];exact .ao _) hsz ?_;fail "x";refine c32.c hc.len (by omega) (by omega) ?_;generalize hcs:rB _ room _ _ _ 0=aq;fail "r";all_goals(refine Aj (kr _) ?_;simp only [bD,if_pos hal,hcs];(repeat' split)<;>first|rfl|(exfalso;omega))
  ·have ha2:a<ps.length:=by omega
   fail "x";refine c33.c (.ao _) ha2 ?_;fail "r"
   ·rename_i hp;fail "v";refine c34.c (xs:=ps.take a) (by rw [map_take ha];exact .ao _) hsz ?_;fail "x";refine c32.c hc.len (by omega) (by omega) ?_;generalize hcs:rB _ room _ _ _ 0=aq;fail "r";all_goals first
     |(refine Aj (kr _) ?_;simp only [bD,if_neg hal,hcs];(repeat' split)<;>first|rfl|(exfalso;omega))
     |(refine ih2 _ _ _ _ _ _ _ _ _ ?_;simp only [bD,if_neg hal,hcs];(repeat' split)<;>first|rfl|(exfalso;omega))
   ·rename_i hp;refine ih2 _ _ _ _ _ _ _ _ _ ?_;simp only [bD,if_neg hal,if_neg (Int.not_lt.mpr hp)]
structure HS(C:CT):Prop where c:∀{ps:List Nd} {room aa:Int} {H:Hp} {K:V->Hp->Prop},0<=aa->(∀x∈ps,bV 0 x)->ps.length<=50->K (.int (bA ps room aa:Nat)) H->C 35 [.ao (ps.map aP),.int room,.int aa] H K
theorem Te(d:Nat):HS (aG tb (d+3)):=⟨λ{ps room aa H K} hd hps hl k=>by
 refine aw rfl rfl ?_;have c33:=Qd (d+1);have c34:=Qb d;have c32:=Qc (d+1);generalize aG tb (d+2)=C at*;have hlm:(ps.map aP).length=ps.length:=List.length_map ..;fail "r";rw [hlm,qF];refine ed.mk ?_;refine gL c33 c34 c32 hd hps hl _ _ _ _ _ _ _ _ _ _ (λa ha=>by have:=List.mem_range.mp ha;omega) (λ_ _ _ _ _ _ _ _=>?_) (λρ=>?_)
 ·fail "r";exact k
 ·fail "r";exact k⟩
end
abbrev Rows:=List (Int×dI)
def aB(n:Int):Rows->Option dI
 | []=>none
 |(m,r)::l=>if m=n then some r else aB n l
def bH(n:Int)(x:dI):Rows->Rows
 | []=>[]
 |(m,r)::l=>if m=n then(m,x)::l else(m,r)::bH n x l
def fE(n:Int):Rows->Nat
 | []=>0
 |(m,_)::l=>if m=n then 0 else fE n l+1
def dB(r:dI):List V:=[.int r.sz,.int r.last,.int r.sat,.int r.spl]
def cM(b:Nat):Rows->List (Int×V)
 | []=>[]
 |(n,_)::l=>(n,.ref b)::cM (b+1) l
def iH(ab:Rows):Hp:=ab.map λp=>.ad (dB p.2)
theorem l4{n:Int}:∀{ab:Rows} {r:dI},aB n ab=some r->(iH ab)[fE n ab]?=some (.ad (dB r))
 | [],_,h=>by cases h
 |(m,x)::l,r,h=>by
  unfold aB at h;unfold fE;split at h
  ·rename_i e;cases h;rw [if_pos e];rfl
  ·rename_i e;rw [if_neg e];exact l4 (ab:=l) h
theorem HT{n:Int}{ab:Rows}{r:dI}(h:aB n ab=some r):fE n ab<ab.length:=by
 have:=(List.getElem?_eq_some_iff.mp (l4 h)).1;simpa [iH]using this
theorem l5{n:Int}:∀{ab:Rows} {b:Nat} {r:dI},aB n ab=some r->aW n (cM b ab)=some (.ref (b+fE n ab))
 | [],_,_,h=>by cases h
 |(m,x)::l,b,r,h=>by
  unfold aB at h;unfold fE cM aW;by_cases e:m=n
  ·rw [decide_eq_true e,if_pos e];rfl
  ·rw [if_neg e]at h;rw [decide_eq_false e,if_neg e];show aW n (cM (b+1) l)=_;rw [l5 h];congr 2;omega
theorem l6{n:Int}:∀{ab:Rows} {b:Nat},aB n ab=none->aW n (cM b ab)=none
 | [],_,_=>rfl
 |(m,x)::l,b,h=>by
  unfold aB at h;unfold cM aW;by_cases e:m=n
  ·rw [if_pos e]at h;cases h
  ·rw [if_neg e]at h;rw [decide_eq_false e];exact l6 h
theorem nG{n:Int}{v:V}:∀{ab:Rows} {b:Nat},aB n ab=none->dn n v (cM b ab)=cM b ab++[(n,v)]
 | [],_,_=>rfl
 |(m,x)::l,b,h=>by
  unfold aB at h;unfold cM dn;by_cases e:m=n
  ·rw [if_pos e]at h;cases h
  ·rw [if_neg e]at h;rw [decide_eq_false e];show(m,V.ref b)::dn n v (cM (b+1) l)=_;rw [nG h];rfl
theorem wB{n:Int}{x:dI}:∀{ab:Rows} {b:Nat},cM b (ab++[(n,x)])=cM b ab++[(n,.ref (b+ab.length))]
 | [],b=>rfl
 |(m,y)::l,b=>by
  show(m,V.ref b)::cM (b+1) (l++[(n,x)])=_;rw [wB];show _=(m,V.ref b)::(cM (b+1) l++[(n,.ref (b+(l.length+1)))]);rw [show b+1+l.length=b+(l.length+1)by omega]
theorem wC{n:Int}{x:dI}:∀{ab:Rows} {b:Nat},cM b (bH n x ab)=cM b ab
 | [],b=>rfl
 |(m,y)::l,b=>by
  unfold bH;split
  ·rfl
  ·show(m,V.ref b)::cM (b+1) (bH n x l)=_;rw [wC];rfl
theorem nH{n:Int}{x:dI}:∀{ab:Rows} {r:dI},aB n ab=some r->iH (bH n x ab)=(iH ab).set (fE n ab) (.ad (dB x))
 | [],_,h=>by cases h
 |(m,y)::l,r,h=>by
  unfold aB at h;unfold bH fE;by_cases e:m=n
  ·rw [if_pos e,if_pos e];rfl
  ·rw [if_neg e]at h;rw [if_neg e,if_neg e];show _::iH (bH n x l)=_;rw [nH h];rfl
theorem jy{n:Int}{x:dI}:∀{ab:Rows} {r:dI},aB n ab=some r->aB n (bH n x ab)=some x
 | [],_,h=>by cases h
 |(m,y)::l,r,h=>by
  unfold aB at h;unfold bH;by_cases e:m=n
  ·rw [if_pos e];unfold aB;rw [if_pos e]
  ·rw [if_neg e]at h;rw [if_neg e];unfold aB;rw [if_neg e];exact jy h
theorem fF{n:Int}{x y:dI}:∀{ab:Rows},bH n y (bH n x ab)=bH n y ab
 | []=>rfl
 |(m,z)::l=>by
  by_cases e:m=n
  ·simp only [bH,if_pos e]
  ·simp only [bH,if_neg e];rw [fF]
theorem qG{n:Int}{x:dI}:∀{ab:Rows},fE n (bH n x ab)=fE n ab
 | []=>rfl
 |(m,z)::l=>by
  by_cases e:m=n
  ·simp only [bH,if_pos e,fE]
  ·simp only [bH,if_neg e,fE];rw [qG]
theorem qH{n:Int}{x:dI}:∀{ab:Rows},(bH n x ab).length=ab.length
 | []=>rfl
 |(m,z)::l=>by unfold bH;split<;>simp [qH]
theorem l7{n:Int}{x:dI}:∀{ab:Rows},aB n ab=none->aB n (ab++[(n,x)])=some x
 | [],_=>by simp [aB]
 |(m,z)::l,h=>by
  unfold aB at h;by_cases e:m=n
  ·rw [if_pos e]at h;cases h
  ·rw [if_neg e]at h;show(if m=n then some z else aB n (l++[(n,x)]))=_;rw [if_neg e];exact l7 h
def bp(H:Hp)(aj:List Int)(ab:Rows):Hp:=H++(.dct (cM (H.length+2) ab):: .ad (aj.map .int)::iH ab)
section
variable {H:Hp}{aj:List Int}{ab:Rows}{n:Int}{r x:dI}
theorem pi:(bp H aj ab)[H.length]?=some (.dct (cM (H.length+2) ab)):=by
 unfold bp;rw [List.getElem?_append_right (Nat.le_refl _),Nat.sub_self];rfl
theorem wD:(bp H aj ab)[H.length+1]?=some (.ad (aj.map .int)):=by
 unfold bp;rw [List.getElem?_append_right (by omega),show H.length+1-H.length=1 by omega];rfl
theorem Ak(h:aB n ab=some r):(bp H aj ab)[H.length+2+fE n ab]?=some (.ad (dB r)):=by
 unfold bp;rw [List.getElem?_append_right (by omega),show H.length+2+fE n ab-H.length=fE n ab+2 by omega];exact l4 h
theorem qI:(bp H aj ab).length=H.length+2+ab.length:=by
 unfold bp iH;simp;omega
theorem uI{m2:List Int}:(bp H aj ab).set (H.length+1) (.ad (m2.map .int))=bp H m2 ab:=by
 unfold bp;rw [List.set_append_right _ _ (by omega),show H.length+1-H.length=1 by omega];rfl
theorem uJ(h:aB n ab=some r):(bp H aj ab).set (H.length+2+fE n ab) (.ad (dB x))=bp H aj (bH n x ab):=by
 unfold bp;rw [List.set_append_right _ _ (by omega),show H.length+2+fE n ab-H.length=fE n ab+2 by omega,wC,nH h];rfl
theorem wE(h:aB n ab=none):(bp H aj ab++[CO.ad (dB x)]).set H.length (.dct (dn n (.ref (bp H aj ab).length) (cM (H.length+2) ab)))=bp H aj (ab++[(n,x)]):=by
 rw [nG h,qI];unfold bp iH;rw [wB,List.append_assoc,List.set_append_right _ _ (Nat.le_refl _),Nat.sub_self,List.map_append];rfl
theorem AV:jv H (bp H aj ab):=jv.app _ .refl
end
structure Sm where
 ae:Int
 extra:Int
 ab:Rows
 aj:List Int
 give:Int
def aD(C:cz)(n:Int)(S:Sm):Sm:=match aB n S.ab with
 |some _=>S
 |none=>{S with ab:=S.ab++[(n,⟨C.al,-1,-1,0⟩)],ae:=S.ae-(aR C.al C.ai+C.gap.w),aj:=S.aj.set C.gap.z (S.aj.getD C.gap.z 0+C.gap.s),give:=S.give+C.gap.k}
def bK(C:cz)(szr free:Int):Int:=
 let room:=C.most-szr
 let room:=if C.ai=1000 then min room free else room
 if C.ai=500 then min room ((free.natAbs:Int).fdiv 500*(if 0<free then 1000 else-1000))else room
def gM(ps:List aA)(place:Nat):Int:=if place=ps.length then-10000 else match ps[place]? with
 |some (.p v)=>v
 |_=>0
def aZ(C:cz)(aa:Int)(pre:List Nd)(n s c:Int)(ps:List aA)(S:Sm):Sm:=
 let row:=(aB n S.ab).getD ⟨0,-1,-1,0⟩
 if 0<=row.sat then{S with extra:=S.extra+c}else
 let free:=S.ae-size pre
 let need:=aR s C.ai
 if(need<=0\/need<=free+S.give+(ay 0 pre).sh)/\s+row.sz<=C.most then
  {S with ab:=bH n {row with sz:=row.sz+s,last:=pre.length} S.ab,ae:=S.ae-need}
 else
  let place:=bA (ps.map .pt) (bK C row.sz free) aa
  let part:=size ((ps.take place).map .pt)
  {S with ab:=bH n ⟨row.sz+part,pre.length,pre.length,place⟩ S.ab,ae:=S.ae-aR part C.ai,extra:=S.extra+gM ps place}
def cy(cl:Int->cz)(aa:Int)(pre:List Nd)(S:Sm):Nd->Sm
 |.i n s c ps t=>aZ (cl n) aa pre n s c ps (aD (cl n) n S)
 |_=>S
def cT(cl:Int->cz)(aa:Int):List Nd->List Nd->Sm->Sm
 |_,[],S=>S
 |pre,x::xs,S=>cT cl aa (pre++[x]) xs (cy cl aa pre S x)
def bi(cl:Int->cz)(vs aa:Int)(xs:List Nd):Sm:=cT cl aa [] xs ⟨vs,0,[],[0,0,0,0],0⟩
section
set_option maxHeartbeats 2000000
section
variable {H:Hp}{aj:List Int}{ab:Rows}{n:Int}{r x:dI}
theorem O1{K:CO->Prop}(k:K (.dct (cM (H.length+2) ab))):bL (bp H aj ab) H.length K:=⟨⟨_,pi,k⟩⟩
theorem Qe{K:CO->Prop}(k:K (.ad (aj.map .int))):bL (bp H aj ab) (H.length+1) K:=⟨⟨_,wD,k⟩⟩
structure At(ab:Rows)(n:Int)(i:Nat)(r:dI):Prop where
 h:aB n ab=some r
 i:fE n ab=i
theorem Al{i:Nat}{K:CO->Prop}(a:At ab n i r)(k:K (.ad (dB r))):bL (bp H aj ab) (H.length+2+i) K:=by
 obtain⟨h,rfl⟩:=a;exact⟨⟨_,Ak h,k⟩⟩
theorem uK{i:Nat}{ys:List V}(a:At ab n i r)(e:ys=dB x):(bp H aj ab).set (H.length+2+i) (.ad ys)=bp H aj (bH n x ab):=by
 obtain⟨h,rfl⟩:=a;subst e;exact uJ h
theorem At.put{i:Nat}(a:At ab n i r):At (bH n x ab) n i x:=⟨jy a.h,by rw [qG];exact a.i⟩
end
local macro_rules | `(tactic| fail "c") => `(tactic| first
 |with_reducible refine O1 ?_
 |with_reducible refine Qe ?_
 |with_reducible refine Al (by assumption) ?_
 |with_reducible refine Af.c (by assumption) (by assumption) (by assumption) ?_)
def uL(C:cz):V:=.ao [.int C.ai,.int C.most,.ao [.chr 103,.int C.gap.w,.int C.gap.s,.int C.gap.z,.int C.gap.k],.int C.al]
structure dW(C:cz):Prop where
 ai:C.ai=0\/C.ai=500\/C.ai=1000
 most:0<=C.most/\C.most<=30000
 w:0<=C.gap.w/\C.gap.w<=20000
 s:0<=C.gap.s/\C.gap.s<=20000
 z:C.gap.z<4
 zs:C.gap.s=0->C.gap.z=0
 k:0<=C.gap.k/\C.gap.k<=20000
 al:0<=C.al/\C.al<=20000
def l8:aU:=match dK with
 |.cons _ (.cons _ (.cons _ t))=>t
 |_=>.nil
theorem tM{xs:List aA}{n:Nat}{i:Int}{x:aA}(e:i=n)(h:xs[n]?=some x){K:V->Prop}(k:K (aQ x)):aS (dm (xs.map aQ) i) K:=by
 subst e;exact⟨⟨aQ x,by show(xs.map aQ)[n]?=_;rw [List.getElem?_map,h];rfl,k⟩⟩
def nI:aU:=match l8 with
 |.cons _ (.cons _ (.cons _ (.cons _ (.cons _ (.cons _ t)))))=>t
 |_=>.nil
theorem jV{ps:List Nd}{room aa:Int}:∀{l:List Nat} {ag:Nat} {least:Int},(∀a∈l,a<=ps.length)->ag<=ps.length->bD ps room aa l ag least<=ps.length
 | [],_,_,_,h=>h
 |a::l,ag,least,hl,h=>by
  have ha:=hl a (.head _);have hl':∀b∈l,b<=ps.length:=λb hb=>hl b (.tail _ hb);simp only [bD]
  (repeat' split)<;>first|assumption|exact jV hl' ha|exact jV hl' h
theorem l9{ps:List Nd}{aa:Int}:bA ps room aa<=ps.length:=jV (λa ha=>by have:=List.mem_range.mp ha;omega) (Nat.le_refl _)
theorem sx(c36:Af C)(c26:AU C)(c35:HS C){vs md aa ae extra give atV:Int}{lv cv gv:V}{cl:cz}(hc:dW cl){n s c t:Int}{aj:List Int}{ab:Rows}{i:Nat}{r:dI}(A:At ab n i r)
  (hd:0<=aa) (hps:∀p∈ps,okP p) (hpl:ps.length<=50) {x12 x13 x14 x15 x16 x17 x18 x23 x24:Option V} {K:Fl->aE->Hp->Prop} {place:Nat} (hpla:place=bA (ps.map .pt) (bK cl r.sz free) aa)
  (k:∀x13 x14,K .next [some lv,some (.ao [.int vs,.int md,.int aa]),some cv,some (.int (ae-aR (size ((ps.take place).map .pt)) cl.ai)),some (.int (extra+gM ps place)),some (.ref H.length),some (.ref (H.length+1)),some (.int give),
   some (.int atV),some (aP (.i n s c ps t)),some (.ref (H.length+2+i)),some (.int free),x12,x13,x14,x15,x16,x17,x18,some (.int cl.ai),some (.int cl.most),some gv,some (.int cl.al),x23,x24]
   (bp H aj (bH n ⟨r.sz+size ((ps.take place).map .pt),r.last,atV,place⟩ ab))):
  aM tb C nI [some lv,some (.ao [.int vs,.int md,.int aa]),some cv,some (.int ae),some (.int extra),some (.ref H.length),some (.ref (H.length+1)),some (.int give),
   some (.int atV),some (aP (.i n s c ps t)),some (.ref (H.length+2+i)),some (.int free),x12,x13,x14,x15,x16,x17,x18,some (.int cl.ai),some (.int cl.most),some gv,some (.int cl.al),x23,x24]
   (bp H aj ab) K:=by
 have hs0:0<=cl.ai:=by have:=hc.ai;omega
 have hs1:cl.ai<=1000:=by have:=hc.ai;omega
 have henc:ps.map aQ=(ps.map Nd.pt).map aP:=by rw [List.map_map];rfl
 have hple:place<=ps.length:=by rw [hpla];have:=l9 (ps:=ps.map .pt) (room:=bK cl r.sz free) (aa:=aa);rwa [List.length_map]at this
 have ho:∀x∈ps.map Nd.pt,bV 0 x:=λx hx=>by obtain⟨p,hp,rfl⟩:=List.mem_map.mp hx;exact hps p hp
 have c35':∀{room:Int} {H:Hp} {K:V->Hp->Prop},K (.int (bA (ps.map .pt) room aa:Nat)) H->C 35 [.ao (ps.map aQ),.int room,.int aa] H K:=λh=>by
  rw [henc];exact c35.c hd ho (by rw [List.length_map];exact hpl) h
 have hsl:sw (.ao ((ps.map aQ).take (aC (ps.map aQ).length (place:Int)))) (((ps.take place).map Nd.pt).map aP):=by
  rw [map_take hple,List.map_map];exact .ao _
 fail "r";all_goals
  fail "v";refine c35' ?_;rw [show bA (ps.map .pt) _ aa=place by rw [hpla];congr 1;simp only [bK];(repeat' split)<;>first|rfl|(exfalso;omega)];fail "x";refine c26.c hsl.seq ?_;fail "r";rw [uK A (ys:=(dB r).set 0 (.int (r.sz+size ((ps.take place).map .pt)))) (x:=⟨r.sz+size ((ps.take place).map .pt),r.last,r.sat,r.spl⟩) rfl];have A1:At (bH n ⟨r.sz+size ((ps.take place).map .pt),r.last,r.sat,r.spl⟩ ab) n i ⟨r.sz+size ((ps.take place).map .pt),r.last,r.sat,r.spl⟩:=A.put;fail "r";rw [uK A1 (ys:=(dB ⟨r.sz+size ((ps.take place).map .pt),r.last,r.sat,r.spl⟩).set 2 (.int atV)) (x:=⟨r.sz+size ((ps.take place).map .pt),r.last,atV,r.spl⟩) rfl,fF];have A2:At (bH n ⟨r.sz+size ((ps.take place).map .pt),r.last,atV,r.spl⟩ ab) n i ⟨r.sz+size ((ps.take place).map .pt),r.last,atV,r.spl⟩:=A.put;fail "r";rw [uK A2 (ys:=(dB ⟨r.sz+size ((ps.take place).map .pt),r.last,atV,r.spl⟩).set 3 (.int (place:Int))) (x:=⟨r.sz+size ((ps.take place).map .pt),r.last,atV,place⟩) rfl,fF];fail "x";refine c26.c hsl.seq ?_;fail "r"
  ·rename_i hpl2;have hpl3:place=ps.length:=by rw [List.length_map]at hpl2;omega
   have hpz:gM ps place= -10000:=by simp only [gM,if_pos hpl3]
   rw [hpz]at k;exact k _ _
  ·rename_i hpl2;have hpl3:place≠ps.length:=by rw [List.length_map]at hpl2;omega
   obtain⟨p,hp⟩:∃p,ps[place]?=some p:=⟨_,List.getElem?_eq_getElem (by omega)⟩
   simp only [gM,if_neg hpl3,hp]at k;fail "v";refine tM rfl hp ?_;rcases p with p|p|p
   ·fail "r";rw [Int.add_zero]at k;exact k _ _
   ·fail "r";rw [Int.add_zero]at k;exact k _ _
   ·fail "x";refine tM rfl hp ?_;fail "r";exact k _ _
theorem uM(c36:Af C)(c26:AU C)(c34:HR C)(c35:HS C){line:List Nd}{vs md aa:Int}{cv:V}{cl:cz}(hc:dW cl){n s c t:Int}{S:Sm}{r:dI}(hr:aB n S.ab=some r)
  (hd:0<=aa) (hps:∀p∈ps,okP p) (hpl:ps.length<=50) {af:List Nd} (hl:line=pre++af) (hz:∀x∈line,xt x) {x10 x11 x12 x13 x14 x15 x16 x17 x18 x23 x24:Option V} {K:Fl->aE->Hp->Prop}
  (k:∀fl x10 x11 x12 x13 x14,(fl= .next\/fl= .cont)->K fl [some (.ad (line.map aP)),some (.ao [.int vs,.int md,.int aa]),some cv,some (.int (aZ cl aa pre n s c ps S).ae),some (.int (aZ cl aa pre n s c ps S).extra),some (.ref H.length),some (.ref (H.length+1)),some (.int (aZ cl aa pre n s c ps S).give),
   some (.int pre.length),some (aP (.i n s c ps t)),x10,x11,x12,x13,x14,x15,x16,x17,x18,some (.int cl.ai),some (.int cl.most),some (.ao [.chr 103,.int cl.gap.w,.int cl.gap.s,.int cl.gap.z,.int cl.gap.k]),some (.int cl.al),x23,x24]
   (bp H (aZ cl aa pre n s c ps S).aj (aZ cl aa pre n s c ps S).ab)):
  aM tb C l8 [some (.ad (line.map aP)),some (.ao [.int vs,.int md,.int aa]),some cv,some (.int S.ae),some (.int S.extra),some (.ref H.length),some (.ref (H.length+1)),some (.int S.give),
   some (.int pre.length),some (aP (.i n s c ps t)),x10,x11,x12,x13,x14,x15,x16,x17,x18,some (.int cl.ai),some (.int cl.most),some (.ao [.chr 103,.int cl.gap.w,.int cl.gap.s,.int cl.gap.z,.int cl.gap.k]),some (.int cl.al),x23,x24]
   (bp H S.aj S.ab) K:=by
 have hs0:0<=cl.ai:=by have:=hc.ai;omega
 have hs1:cl.ai<=1000:=by have:=hc.ai;omega
 have hpre:pre.length<=line.length:=by rw [hl];simp
 have htk:line.take pre.length=pre:=by rw [hl];simp
 have hzp:∀x∈pre,xt x:=λx hx=>hz x (by rw [hl];simp [hx]);obtain⟨i,hi⟩:∃i,fE n S.ab=i:=⟨_,rfl⟩
 have A0:At S.ab n i r:=⟨hr,hi⟩
 have hdk:∀{K:V->Prop},K (.ref (H.length+2+i))->aS (aW n (cM (H.length+2) S.ab)) K:=λk=>⟨⟨_,by rw [←hi];exact l5 hr,k⟩⟩
 fail "r";refine hdk ?_;fail "r"
 ·rename_i hb;simp only [aZ,hr,Option.getD_some,if_pos hb]at k;fail "r";exact k .cont _ _ _ _ _ (.inr rfl)
 rename_i hb;have hb':¬0<=r.sat:=by omega
 fail "r";rw [uK A0 (ys:=(dB r).set 1 (.int pre.length)) (x:={r with last:=pre.length}) rfl];have A1:id (At (bH n {r with last:=(pre.length:Int)} S.ab) n i {r with last:=pre.length}):=A0.put;clear A0;have hsl:sw (.ad ((line.map aP).take (aC (line.map aP).length (pre.length:Int)))) (pre.map aP):=by rw [map_take hpre,htk];exact .ad _
 have hK:∀{x12 x13 x14:Option V},¬((aR s cl.ai<=0\/aR s cl.ai<=S.ae-size pre+S.give+(ay 0 pre).sh)/\s+r.sz<=cl.most)->aM tb C nI [some (.ad (line.map aP)),some (.ao [.int vs,.int md,.int aa]),some cv,some (.int S.ae),some (.int S.extra),some (.ref H.length),some (.ref (H.length+1)),some (.int S.give),
   some (.int pre.length),some (aP (.i n s c ps t)),some (.ref (H.length+2+i)),some (.int (S.ae-size pre)),x12,x13,x14,x15,x16,x17,x18,some (.int cl.ai),some (.int cl.most),some (.ao [.chr 103,.int cl.gap.w,.int cl.gap.s,.int cl.gap.z,.int cl.gap.k]),some (.int cl.al),x23,x24]
   (bp H S.aj (bH n {r with last:=(pre.length:Int)} S.ab)) K:=by
  intro x12 x13 x14 hn;refine sx c36 c26 c35 hc A1 hd hps hpl rfl λx13 x14=>?_;simp only [aZ,hr,Option.getD_some,if_neg hb',if_neg hn]at k;rw [fF];exact k .next _ _ _ _ _ (.inl rfl)
 have hY:(aR s cl.ai<=0\/aR s cl.ai<=S.ae-size pre+S.give+(ay 0 pre).sh)->s+r.sz<=cl.most->∀x10 x11 x12 x13 x14,K .cont [some (.ad (line.map aP)),some (.ao [.int vs,.int md,.int aa]),some cv,some (.int (S.ae-aR s cl.ai)),some (.int S.extra),some (.ref H.length),some (.ref (H.length+1)),some (.int S.give),
   some (.int pre.length),some (aP (.i n s c ps t)),x10,x11,x12,x13,x14,x15,x16,x17,x18,some (.int cl.ai),some (.int cl.most),some (.ao [.chr 103,.int cl.gap.w,.int cl.gap.s,.int cl.gap.z,.int cl.gap.k]),some (.int cl.al),x23,x24]
   (bp H S.aj (bH n {r with sz:=r.sz+s,last:=(pre.length:Int)} S.ab)):=by
  intro h1 h2 x10 x11 x12 x13 x14;simp only [aZ,hr,Option.getD_some,if_neg hb',if_pos (And.intro h1 h2)]at k;exact k .cont _ _ _ _ _ (.inr rfl)
 fail "v";refine c26.c (xs:=pre) hsl.seq ?_;fail "r"
 ·rename_i h1;fail "v";refine Al A1 ?_;fail "r"
  ·rename_i h2;fail "v";refine Al A1 ?_;fail "x";refine Al A1 ?_;fail "r";rw [uK A1 (ys:=(dB ⟨r.sz,(pre.length:Int),r.sat,r.spl⟩).set 0 (.int (r.sz+s))) (x:=⟨r.sz+s,(pre.length:Int),r.sat,r.spl⟩) rfl,fF];exact hY (.inl h1) h2 _ _ _ _ _
  ·rename_i h2;exact hK (λh=>absurd h.2 (Int.not_le.mpr h2))
 ·rename_i h1;fail "v";refine c34.c (xs:=pre) hsl.seq hzp ?_;fail "r"
  ·rename_i h3;fail "v";refine Al A1 ?_;fail "r"
   ·rename_i h2;fail "v";refine Al A1 ?_;fail "x";refine Al A1 ?_;fail "r";rw [uK A1 (ys:=(dB ⟨r.sz,(pre.length:Int),r.sat,r.spl⟩).set 0 (.int (r.sz+s))) (x:=⟨r.sz+s,(pre.length:Int),r.sat,r.spl⟩) rfl,fF];exact hY (.inr h3) h2 _ _ _ _ _
   ·rename_i h2;exact hK (λh=>absurd h.2 (Int.not_le.mpr h2))
  ·rename_i h3;exact hK (λh=>by rcases h.1 with h|h<;>omega)
end
section
set_option maxHeartbeats 2000000
local macro_rules | `(tactic| fail "c") => `(tactic| first
 |with_reducible refine Qe ?_
 |with_reducible refine Af.c (by assumption) (by assumption) (by assumption) ?_)
def dM(cl:Int->cz):V:=.dct [(1,uL (cl 1)),(2,uL (cl 2))]
theorem O2{X:Hp}{aj:List Int}{ab:Rows}{K:CO->Prop}(k:K (.dct (cM (H.length+2) ab))):bL (bp H aj ab++X) H.length K:=⟨⟨_,by rw [List.getElem?_append_left (by rw [qI];omega)];exact pi,k⟩⟩
theorem wF{b:Nat}{ab:Rows}:(cM b ab).length=ab.length:=by
 induction ab generalizing b with
 |nil=>rfl
 |cons p l ih=>show(cM (b+1) l).length+1=_;rw [ih];rfl
theorem Tf{aj:List Int}{ab:Rows}{K:List (Int×V)->Prop}(k:K (cM (H.length+2) ab)):dictOf (bp H aj ab) (.ref H.length) K:=bL.mk ⟨_,pi,k⟩
theorem sy{C:cz}{aa:Int}{n s c:Int}{S:Sm}:(aZ C aa pre n s c ps S).ab.length=S.ab.length:=by
 simp only [aZ];(repeat' split)<;>first|rfl|exact qH
theorem gN{C:cz}{aa:Int}{n s c:Int}{S:Sm}:(aZ C aa pre n s c ps S).aj=S.aj:=by
 simp only [aZ];(repeat' split)<;>rfl
theorem sA{C:cz}{n:Int}{S:Sm}:(aD C n S).ab.length<=S.ab.length+1:=by
 unfold aD;split
 ·omega
 ·simp
theorem kz{C:cz}{n:Int}{S:Sm}:(aD C n S).aj.length=S.aj.length:=by
 unfold aD;split
 ·rfl
 ·simp
theorem uN{aj:List Int}{ab:Rows}{n:Int}{x:dI}{ys:List V}(h:aB n ab=none)(e:ys=dB x):(bp H aj ab++[CO.ad ys]).set H.length (.dct (dn n (.ref (bp H aj ab).length) (cM (H.length+2) ab)))=bp H aj (ab++[(n,x)]):=by subst e;exact wE h
def wG(T:aU):aU:=match dK with
 |.cons a (.cons b (.cons c _))=>.cons a (.cons b (.cons c T))
 |_=>.nil
theorem uO(c36:Af C){lv:V}{vs md aa atV:Int}{cl:Int->cz}{n s c t:Int}(hn:n=1\/n=2)(hcn:dW (cl n)){S:Sm}(hm:S.aj.length=4)(hr:S.ab.length<=100){x15 x18 x19 x20 x21 x22 x23 x24:Option V}{T:aU}
  (k:aM tb C T [some lv,some (.ao [.int vs,.int md,.int aa]),some (dM cl),some (.int (aD (cl n) n S).ae),some (.int (aD (cl n) n S).extra),some (.ref H.length),some (.ref (H.length+1)),some (.int (aD (cl n) n S).give),
   some (.int atV),some (aP (.i n s c ps t)),x10,x11,x12,x13,x14,x15,x16,x17,x18,some (.int (cl n).ai),some (.int (cl n).most),some (.ao [.chr 103,.int (cl n).gap.w,.int (cl n).gap.s,.int (cl n).gap.z,.int (cl n).gap.k]),some (.int (cl n).al),x23,x24]
   (bp H (aD (cl n) n S).aj (aD (cl n) n S).ab) K):
  aM tb C (wG T) [some lv,some (.ao [.int vs,.int md,.int aa]),some (dM cl),some (.int S.ae),some (.int S.extra),some (.ref H.length),some (.ref (H.length+1)),some (.int S.give),
   some (.int atV),some (aP (.i n s c ps t)),x10,x11,x12,x13,x14,x15,x16,x17,x18,x19,x20,x21,x22,x23,x24] (bp H S.aj S.ab) K:=by
 have hs0:0<=(cl n).ai:=by have:=hcn.ai;omega
 have hs1:(cl n).ai<=1000:=by have:=hcn.ai;omega
 have hz:=hcn.z;have hcl:∀{K:V->Prop},K (uL (cl n))->aS (aW n [(1,uL (cl 1)),(2,uL (cl 2))]) K:=λk=>by
  rcases hn with rfl|rfl<;>exact⟨⟨_,rfl,k⟩⟩
 cases hg:aB n S.ab with
 |none=>
  have hdl:=l6 (b:=H.length+2) hg;simp only [aD,hg]at k;fail "r";refine hcl ?_;fail "x";refine O1 ?_;fail "r"
  ·fail "v";refine O2 ?_;fail "v";refine av.mk ⟨by omega,by rw [wF];show _<=10000000;omega⟩ ?_;rw [uN (ys:=[V.int (cl n).al,V.int (-1),V.int (-1),V.int 0]) (x:=⟨(cl n).al,-1,-1,0⟩) hg rfl];fail "r";rw [uI];fail "r";exact k
  ·rename_i hb;simp [hdl,b0]at hb
 |some r=>
  have hdl:=l5 (b:=H.length+2) hg;simp only [aD,hg]at k;fail "r";refine hcl ?_;fail "x";refine O1 ?_;fail "r"
  ·rename_i hb;simp [hdl,b0]at hb
  ·exact k
theorem iI{C:CT}(c36:Af C)(c26:AU C)(c34:HR C)(c35:HS C){H:Hp}{line:List Nd}{vs md aa:Int}{cl:Int->cz}(hc:∀n,n=1\/n=2->dW (cl n)){N:Nat}(hN:N<=50)(hline:∀x∈line,bV N x)(hlen:line.length<=100)(hd:0<=aa){K:Fl->aE->Hp->Prop}:
  ∀(af pre:List Nd) (S:Sm) (x8 x9 x10 x11 x12 x13 x14 x15 x16 x17 x18 x19 x20 x21 x22 x23 x24:Option V),line=pre++af->S.ab.length<=pre.length->S.aj.length=4->
  (∀x8 x9 x10 x11 x12 x13 x14 x15 x16 x17 x18 x19 x20 x21 x22 x23 x24,K .next [some (.ad (line.map aP)),some (.ao [.int vs,.int md,.int aa]),some (dM cl),some (.int (cT cl aa pre af S).ae),some (.int (cT cl aa pre af S).extra),some (.ref H.length),some (.ref (H.length+1)),some (.int (cT cl aa pre af S).give),x8,x9,x10,x11,x12,x13,x14,x15,x16,x17,x18,x19,x20,x21,x22,x23,x24] (bp H (cT cl aa pre af S).aj (cT cl aa pre af S).ab))->
  ba (λρ=>ec ρ (.two 8 9)) (λρ H=>aM tb C dK ρ H) (λ_=>True) (cZ pre.length (af.map aP)) [some (.ad (line.map aP)),some (.ao [.int vs,.int md,.int aa]),some (dM cl),some (.int S.ae),some (.int S.extra),some (.ref H.length),some (.ref (H.length+1)),some (.int S.give),x8,x9,x10,x11,x12,x13,x14,x15,x16,x17,x18,x19,x20,x21,x22,x23,x24] (bp H S.aj S.ab) K
 | [],pre,S,x8,x9,x10,x11,x12,x13,x14,x15,x16,x17,x18,x19,x20,x21,x22,x23,x24,hl,hr,hm,k=>⟨trivial,k _ _ _ _ _ _ _ _ _ _ _ _ _ _ _ _ _⟩
 |a::af,pre,S,x8,x9,x10,x11,x12,x13,x14,x15,x16,x17,x18,x19,x20,x21,x22,x23,x24,hl,hr,hm,k=>by
  have ih:=λ(S:Sm) x8 x9 x10 x11 x12 x13 x14 x15 x16 x17 x18 x19 x20 x21 x22 x23 x24=>iI c36 c26 c34 c35 (vs:=vs) (md:=md) hc hN hline hlen hd (H:=H) (K:=K) af (pre++[a]) S x8 x9 x10 x11 x12 x13 x14 x15 x16 x17 x18 x19 x20 x21 x22 x23 x24 (by rw [hl];simp);rw [List.length_append,List.length_singleton]at ih;have ha:=hline a (by rw [hl];simp);refine⟨trivial,?_⟩;rcases a with(a|a|a)|a|a|⟨n,s,c,ps,t⟩
  case i=>
   obtain⟨hn,hs,hc0,hc1,hps,hpl,ht0,ht1⟩:=ha;have hcn:=hc n hn;have hzl:∀x∈line,xt x:=λx hx=>(hline x hx).z;have hpre:pre.length<=100:=by rw [hl]at hlen;simp at hlen;omega
   obtain⟨r,hg⟩:∃r,aB n (aD (cl n) n S).ab=some r:=by
    unfold aD
    cases hg:aB n S.ab with
    |none=>exact⟨_,l7 hg⟩
    |some r=>exact⟨r,hg⟩
   have k':=ih (aZ (cl n) aa pre n s c ps (aD (cl n) n S));simp only [cT,cy]at k;refine uO (T:=l8) c36 hn hcn hm (by omega) ?_;refine uM c36 c26 c34 c35 hcn hg hd hps (by omega) hl hzl λfl x10 x11 x12 x13 x14 hfl=>?_;rcases hfl with rfl|rfl<;>exact k' _ _ _ _ _ _ _ _ _ _ _ _ _ _ _ _ _ (by rw [sy];have:=sA (C:=cl n) (n:=n) (S:=S);omega) (by rw [gN,kz];exact hm) k
  all_goals
   fail "r";exact ih S _ _ _ _ _ _ _ _ _ _ _ _ _ _ _ _ _ (by omega) hm k
theorem AW{xs:List V}{K:List V->(Hp->Prop)->Prop}(k:K xs λ_=>True):pP H (.ad xs) K:=k
def jz(ab:Rows):V:=.dct (ab.map λp=>(p.1,.ad (dB p.2)))
def cq:List Int->List Int->List Int:=List.zipWith (· + ·)
def yX(cl:Int->cz)(vs md aa:Int)(xs:List Nd):V:=
 let S:=bi cl vs aa xs
 let c:=ay md xs
 .ao [.int S.ae,.ad [.int (size xs-c.dp),.int c.dp,.ad ((cq c.st S.aj).map .int),.int (c.sh+S.give)],.int S.extra,jz S.ab]
theorem qJ{C:CT}{ck:Hp->Prop}{y0 y1 y2 y3 y4 y5 y6 y7 y8 y9 y10 y11 y12 y13 y14 y15 y16 y17 y18 y19 y20 y21 y22 y23 y24:Option V}{H:Hp}{K:List V->Hp->Prop}(hc:ck H):∀(xs ys:List Int) (acc:List V),K (acc++(cq xs ys).map .int) H->
  bN (ec [y0,y1,y2,y3,y4,y5,y6,y7,y8,y9,y10,y11,y12,y13,y14,y15,y16,y17,y18,y19,y20,y21,y22,y23,y24] (.two 23 24)) (λρ1 H2=>bI tb C (.bin .add (.ac 23) (.ac 24)) ρ1 H2) (λρ1 H2=>cm tb C .nil ρ1 H2) ck (jh (xs.map .int) (ys.map .int)) acc H K
 | [],ys,acc,k=>⟨hc,by have e:cq [] ys=[]:=(by simp [cq]);rw [e]at k;simpa using k⟩
 |x::xs,[],acc,k=>⟨hc,by have e:cq (x::xs) []=[]:=(by simp [cq]);rw [e]at k;simpa using k⟩
 |x::xs,y::ys,acc,k=>⟨hc,by
   have ih:=qJ (C:=C) (ck:=ck) (y0:=y0) (y1:=y1) (y2:=y2) (y3:=y3) (y4:=y4) (y5:=y5) (y6:=y6) (y7:=y7) (y8:=y8) (y9:=y9) (y10:=y10) (y11:=y11) (y12:=y12) (y13:=y13) (y14:=y14) (y15:=y15) (y16:=y16) (y17:=y17) (y18:=y18) (y19:=y19) (y20:=y20) (y21:=y21) (y22:=y22) (y23:=y23) (y24:=y24) (H:=H) (K:=K) hc xs ys (acc++[.int (x+y)]) (by
    have e:cq (x::xs) (y::ys)=(x+y)::cq xs ys:=rfl;rw [e]at k;simpa using k)
   fail "r";exact ih⟩
theorem qK{aa:Int}{c:vy}{x:Nd}:(aT aa c x).st.length=c.st.length:=by
 rcases x with(x|x|x)|x|x|x<;>simp [aT]
theorem kD{aa:Int}:∀{xs:List Nd} {c:vy},(xs.foldl (aT aa) c).st.length=c.st.length
 | [],_=>rfl
 |x::xs,c=>by rw [List.foldl_cons,kD,qK]
theorem fU{aa:Int}{xs:List Nd}:(ay aa xs).st.length=4:=kD
theorem pj{cl:Int->cz}{aa:Int}{S:Sm}{x:Nd}:(cy cl aa pre S x).aj.length=S.aj.length:=by
 rcases x with(x|x|x)|x|x|x<;>first|rfl|(show(aZ _ _ _ _ _ _ _ _).aj.length=_;rw [gN,kz])
theorem ma{cl:Int->cz}{aa:Int}:∀{xs pre:List Nd} {S:Sm},(cT cl aa pre xs S).aj.length=S.aj.length
 | [],_,_=>rfl
 |x::xs,pre,S=>by show(cT cl aa (pre++[x]) xs (cy cl aa pre S x)).aj.length=_;rw [ma,pj]
theorem fV{cl:Int->cz}{vs aa:Int}{xs:List Nd}:(bi cl vs aa xs).aj.length=4:=ma
theorem yc{aj:List Int}{pre af:Rows}{n:Int}{r:dI}:(bp H aj (pre++(n,r)::af))[H.length+2+pre.length]?=some (.ad (dB r)):=by
 unfold bp;rw [List.getElem?_append_right (by omega),show H.length+2+pre.length-H.length=pre.length+2 by omega];show(iH (pre++(n,r)::af))[pre.length]?=_;simp [iH]
theorem yd{aj:List Int}{pre af:Rows}{n:Int}{r:dI}:frz H.length (bp H aj (pre++(n,r)::af)) 6 (.ref (H.length+2+pre.length))=some (.ad (dB r)):=by
 show(if H.length+2+pre.length<H.length then Option.none else(match(bp H aj (pre++(n,r)::af))[H.length+2+pre.length]? with|some (.ad xs)=>(xs.mapM (frz H.length (bp H aj (pre++(n,r)::af)) 5)).map V.ad|some (.dct ks)=>(ks.mapM λkv=>(frz H.length (bp H aj (pre++(n,r)::af)) 5 kv.2).map λv=>(kv.1,v)).map V.dct|some (.inst c fs)=>(fs.mapM λ(o:Option V)=>o.bind (frz H.length (bp H aj (pre++(n,r)::af)) 5)).map (V.obj c)|_=>Option.none))=_;rw [if_neg (by omega),yc];rfl
theorem wH{H:Hp}{aj:List Int}:∀{af pre:Rows},(cM (H.length+2+pre.length) af).mapM (λkv=>(frz H.length (bp H aj (pre++af)) 6 kv.2).map λv=>(kv.1,v))=some (af.map λp=>(p.1,V.ad (dB p.2)))
 | [],pre=>rfl
 |(n,r)::af,pre=>by
  have ih:=wH (H:=H) (aj:=aj) (af:=af) (pre:=pre++[(n,r)]);rw [List.length_append,List.append_assoc]at ih;show List.mapM _ ((n,V.ref (H.length+2+pre.length))::cM (H.length+2+pre.length+1) af)=_;rw [List.mapM_cons];show(Option.map _ (frz H.length (bp H aj (pre++(n,r)::af)) 6 (.ref (H.length+2+pre.length)))).bind _=_;rw [yd];show Option.bind (List.mapM (m:=Option) _ (cM (H.length+2+(pre.length+1)) af)) _=_;have ih':(cM (H.length+2+(pre.length+1)) af).mapM (λkv=>(frz H.length (bp H aj (pre++(n,r)::af)) 6 kv.2).map λv=>(kv.1,v))=some (af.map λp=>(p.1,V.ad (dB p.2))):=ih;rw [ih'];rfl
theorem wI{aj:List Int}{ab:Rows}:frz H.length (bp H aj ab) 7 (.ref H.length)=some (jz ab):=by
 show(if H.length<H.length then Option.none else(match(bp H aj ab)[H.length]? with|some (.ad xs)=>(xs.mapM (frz H.length (bp H aj ab) 6)).map V.ad|some (.dct ks)=>(ks.mapM λkv=>(frz H.length (bp H aj ab) 6 kv.2).map λv=>(kv.1,v)).map V.dct|some (.inst c fs)=>(fs.mapM λ(o:Option V)=>o.bind (frz H.length (bp H aj ab) 6)).map (V.obj c)|_=>Option.none))=_;rw [if_neg (by omega),pi];have:=wH (H:=H) (aj:=aj) (af:=ab) (pre:=[]);show Option.map V.dct (List.mapM (m:=Option) _ (cM (H.length+2) ab))=_;have this':(cM (H.length+2) ab).mapM (λkv=>(frz H.length (bp H aj ab) 6 kv.2).map λv=>(kv.1,v))=some (ab.map λp=>(p.1,V.ad (dB p.2))):=this;rw [this'];rfl
structure O3(C:CT):Prop where c:∀{line:List Nd} {vs md aa:Int} {cl:Int->cz} {N:Nat} {H:Hp} {K:V->Hp->Prop},(∀n,n=1\/n=2->dW (cl n))->N<=50->(∀x∈line,bV N x)->line.length<=100->0<=aa->K (yX cl vs md aa line) H->C 37 [.ad (line.map aP),.ao [.int vs,.int md,.int aa],dM cl] H K
theorem O4(d:Nat):O3 (aG tb (d+4)):=⟨λ{line vs md aa cl N H K} hc hN hline hlen hd k=>by
 refine aw rfl rfl ?_;have c36:=Tc (d+2);have c26:=HQ (d+2);have c34:=Qb (d+1);have c35:=Te d;generalize aG tb (d+3)=C at*;have hz:∀x∈line,xt x:=λx hx=>(hline x hx).z;fail "x";refine ed.mk ?_;have e1:(H++[CO.dct (([]:List Int).zip ([]:List V))])++[CO.ad [V.int 0,V.int 0,V.int 0,V.int 0]]=bp H [0,0,0,0] []:=by unfold bp;rw [List.append_assoc];rfl
 have e2:(H++[CO.dct (([]:List Int).zip ([]:List V))]).length=H.length+1:=by simp
 rw [e1,e2];refine iI c36 c26 c34 c35 hc hN hline hlen hd line [] ⟨vs,0,[],[0,0,0,0],0⟩ _ _ _ _ _ _ _ _ _ _ _ _ _ _ _ _ _ rfl (Nat.le_refl _) rfl λx8 x9 x10 x11 x12 x13 x14 x15 x16 x17 x18 x19 x20 x21 x22 x23 x24=>?_;fail "x";refine c34.c (.ad _) hz ?_;fail "x";have hl4:((ay md line).st.map V.int).length=((bi cl vs aa line).aj.map V.int).length:=by rw [List.length_map,List.length_map,fU,fV]
 refine av.mk hl4 ?_;fail "v";refine bY.mk ?_;refine qJ ⟨trivial,wD⟩ _ _ [] ?_;fail "x";have hr:=wI (H:=H) (aj:=(bi cl vs aa line).aj) (ab:=(bi cl vs aa line).ab);refine dH (u:=yX cl vs md aa line) ?_ ?_ ?_
 ·show(List.mapM (frz H.length (bp H (bi cl vs aa line).aj (bi cl vs aa line).ab) 7) [_,_,_,.ref H.length]).map V.ao=_;simp only [List.mapM_cons,List.mapM_nil,hr];rfl
 ·refine .ao λx hx=>?_;rcases hx with _|⟨_,_|⟨_,_|⟨_,_|⟨_,h⟩⟩⟩⟩
  ·exact .int _
  ·refine .ad λx hx=>?_;rcases hx with _|⟨_,_|⟨_,_|⟨_,_|⟨_,h⟩⟩⟩⟩
   ·exact .int _
   ·exact .int _
   ·exact .ad λy hy=>by obtain⟨i,-,rfl⟩:=List.mem_map.mp hy;exact .int i
   ·exact .int _
   ·cases h
  ·exact .int _
  ·refine .dct λx hx=>?_;obtain⟨p,-,rfl⟩:=List.mem_map.mp hx;refine .ad λy hy=>?_;rcases hy with _|⟨_,_|⟨_,_|⟨_,_|⟨_,h⟩⟩⟩⟩<;>first|exact .int _|cases h
  ·cases h
 ·exact⟨List.take_left' rfl,k⟩⟩
end
section
set_option maxHeartbeats 2000000
def iu:Nd->Bool
 |.m _=>true
 |.i .. =>true
 |_=>false
def bG(xs:List Nd):List Nd:=xs.filter iu
def iZ(top:mL):List Nd->List Nd->List Nd
 |pre,[]=>bG pre
 |pre,.pt (.b l h d)::af=>bG pre++ .pt (.g (max (top.w-h) 0) top.s top.z top.k 0):: .pt (.b l h d)::af
 |pre,x::af=>iZ top (pre++[x]) af
def pk(top:mL)(xs:List Nd):List Nd:=iZ top [] xs
def mc(g:mL):V:=.ao [.chr 103,.int g.w,.int g.s,.int g.z,.int g.k]
abbrev Am:xo:=.cons (.or (.cons (.ex (.eqc false (.idx (.ac 5) (.int 0)) (.chr 109))) (.cons (.ex (.eqc false (.idx (.ac 5) (.int 0)) (.chr 105))) .nil))) .nil
theorem lb{C:CT}{y0 y1 y2 y3 y4 y5:Option V}{H:Hp}{K:List V->Hp->Prop}:∀(xs:List Nd) (acc:List V),K (acc++(bG xs).map aP) H->
  bN (ec [y0,y1,y2,y3,y4,y5] (.one 5)) (λρ1 H2=>bI tb C (.ac 5) ρ1 H2) (λρ1 H2=>cm tb C Am ρ1 H2) (λ_=>True) (xs.map aP) acc H K
 | [],acc,k=>⟨trivial,by simpa [bG]using k⟩
 |x::xs,acc,k=>⟨trivial,by
   have ih1:=lb (C:=C) (y0:=y0) (y1:=y1) (y2:=y2) (y3:=y3) (y4:=y4) (y5:=y5) (H:=H) (K:=K) xs acc;have ih2:=lb (C:=C) (y0:=y0) (y1:=y1) (y2:=y2) (y3:=y3) (y4:=y4) (y5:=y5) (H:=H) (K:=K) xs (acc++[aP x]);rcases x with(x|x|x)|x|x|x
   case m=>
    fail "r";have k:K (acc++(aP _::(bG xs).map aP)) H:=k;exact ih2 (by simpa using k)
   case i=>
    fail "r";have k:K (acc++(aP _::(bG xs).map aP)) H:=k;exact ih2 (by simpa using k)
   all_goals
    fail "r";exact ih1 k⟩
theorem jA{xs:List Nd}:(bG xs).length<=xs.length:=List.length_filter_le ..
theorem fp{C:CT}{line:List Nd}{top:mL}(hlen:line.length<=1000){H:Hp}{K:Fl->aE->Hp->Prop}:
  ∀(af pre:List Nd) (x2 x3 x4 x5:Option V),line=pre++af->
  (∀x2 x3,(∀l h d,Nd.pt (.b l h d)∉af)->K .next [some (.ad (line.map aP)),some (mc top),x2,x3,x4,x5] H)->
  (∀ρ,(∃l h d,Nd.pt (.b l h d)∈af)->K (.ret (.ad ((iZ top pre af).map aP))) ρ H)->
  ba (λρ=>ec ρ (.two 2 3)) (λρ H=>aM tb C iE ρ H) (λ_=>True) (cZ pre.length (af.map aP)) [some (.ad (line.map aP)),some (mc top),x2,x3,x4,x5] H K
 | [],pre,x2,x3,x4,x5,hl,k,kr=>⟨trivial,k _ _ (by simp)⟩
 |a::af,pre,x2,x3,x4,x5,hl,k,kr=>by
  have ih:=λx2 x3=>fp (C:=C) (top:=top) hlen (H:=H) (K:=K) af (pre++[a]) x2 x3 x4 x5 (by rw [hl];simp);rw [List.length_append,List.length_singleton]at ih;refine⟨trivial,?_⟩;have hpre:pre.length<=line.length:=by rw [hl];simp
  have htk:line.take pre.length=pre:=by rw [hl];simp
  have hdr:line.drop pre.length=a::af:=by rw [hl];simp
  rcases a with(⟨l,h,d⟩|⟨w,s,z,kk,so⟩|v)|w|c|⟨n,s,c,ps,t⟩
  case pt.b=>
   fail "x";refine bY.mk ?_;rw [map_take hpre,htk];refine lb pre [] ?_;have hk:=jA (xs:=pre);have hp2:pre.length<=1000:=by omega
   fail "x";refine av.mk (by show _<=10000000;simp only [List.length_append,List.length_map,List.length_cons,List.length_nil];omega) ?_;fail "x";refine av.mk (by show _<=10000000;simp only [List.length_append,List.length_map,List.length_cons,List.length_nil,List.length_drop];omega) ?_;fail "r";have k:=kr;refine Aj (kr _ ⟨l,h,d,.head _⟩) ?_;rw [map_drop hpre,hdr];simp only [iZ,List.nil_append,List.map_append,List.map_cons,List.append_assoc];rfl
  all_goals
   fail "r";refine ih _ _ (λx2 x3 hn=>k _ _ λl h d hm=>?_) (λρ hm=>kr ρ ?_)
   ·rcases List.mem_cons.mp hm with e|e
    ·cases e
    ·exact hn l h d e
   ·obtain⟨l,h,d,hm⟩:=hm;exact⟨l,h,d,.tail _ hm⟩
theorem nJ{top:mL}:∀{af pre:List Nd},(∀l h d,Nd.pt (.b l h d)∉af)->iZ top pre af=bG (pre++af)
 | [],pre,_=>by simp [iZ]
 |a::af,pre,h=>by
  have ih:=nJ (top:=top) (af:=af) (pre:=pre++[a]) λl h' d hm=>h l h' d (.tail _ hm);rw [List.append_assoc]at ih;rcases a with(⟨l,h',d⟩|a|a)|a|a|a
  ·exact absurd (.head _) (h l h' d)
  all_goals exact ih
structure Qf(C:CT):Prop where c:∀{line:List Nd} {top:mL} {H:Hp} {K:V->Hp->Prop},line.length<=1000->K (.ad ((pk top line).map aP)) H->C 38 [.ad (line.map aP),mc top] H K
theorem lc(x:aA):NR (aQ x):=by cases x<;>exact dC (d:=6) rfl
theorem wJ(x:Nd):NR (aP x):=by
 rcases x with x|x|x|⟨n,s,c,ps,t⟩
 ·exact lc x
 ·exact dC (d:=6) rfl
 ·exact dC (d:=6) rfl
 ·refine .ao λx hx=>?_;rcases hx with _|⟨_,_|⟨_,_|⟨_,_|⟨_,_|⟨_,_|⟨_,h⟩⟩⟩⟩⟩⟩
  ·exact .chr _
  ·exact .int _
  ·exact .int _
  ·exact .int _
  ·exact .ao λy hy=>by obtain⟨p,-,rfl⟩:=List.mem_map.mp hy;exact lc p
  ·exact .int _
  ·cases h
theorem ld{xs:List Nd}:NR (.ad (xs.map aP)):=.ad λx hx=>by
 obtain⟨y,-,rfl⟩:=List.mem_map.mp hx;exact wJ y
theorem Th(d:Nat):Qf (aG tb (d+1)):=⟨λ{line top H K} hlen k=>by
 refine aw rfl rfl ?_;generalize aG tb d=C at*;have kr:∀ρ:aE,fL true H K (.ret (.ad ((pk top line).map aP))) ρ H:=λρ=>dH rfl ld (cX k);fail "x";refine ed.mk ?_;by_cases hb:∃l h d,Nd.pt (.b l h d)∈line
 ·refine fp hlen line [] _ _ _ _ rfl (λx2 x3 hn=>?_) λρ _=>kr ρ;obtain⟨l,h,d,hm⟩:=hb;exact absurd hm (hn l h d)
 ·have hn:∀l h d,Nd.pt (.b l h d)∉line:=λl h d hm=>hb ⟨l,h,d,hm⟩;refine fp hlen line [] _ _ _ _ rfl (λx2 x3 _=>?_) λρ h=>absurd h hb;have e:pk top line=bG line:=nJ (pre:=[]) hn;fail "x";refine bY.mk ?_;refine lb line [] ?_;rw [e]at kr;fail "r";exact kr []⟩
structure fG where
 at_:Nat
 pv:Int
 aq:Int
 ae:Int
def me:Option fG->V
 |none=>.none
 |some e=>.ao [.int e.at_,.int e.pv,.int e.aq,.int e.ae]
def m3(x:Option Nd):Int:=match x with
 |some (.pt (.p v))=>v
 |_=>10000
def ja(cl:Int->cz)(vs md aa:Int)(pre:List Nd)(price:Int):Int:=
 let S:=bi cl vs aa pre
 let c:=ay md pre
 rB (size pre-c.dp) S.ae (cq c.st S.aj) (c.sh+S.give) price S.extra
def cU(e:fG):Option fG->Option fG
 |none=>some e
 |some b=>if e.aq<=b.aq then some e else some b
def gr(cl:Int->cz)(vs md aa:Int)(line:List Nd):Nat->List Nd->Option fG->Option fG
 |_,[],_=>none
 |n,_::af,ag=>
  let price:=pen line n
  if price<10000 then
   let aq:=ja cl vs md aa (line.take n) price
   let best':=cU ⟨n,m3 line[n]?,aq,(bi cl vs aa (line.take n)).ae⟩ ag
   if aq=2^30-1\/price<=-10000 then best' else gr cl vs md aa line (n+1) af best'
  else gr cl vs md aa line (n+1) af ag
def nK(cl:Int->cz)(vs md aa:Int)(line:List Nd):Option fG:=gr cl vs md aa line 0 line none
structure sB(S:Sm)(n:Nat):Prop where
 aj:∀i,0<=S.aj.getD i 0/\S.aj.getD i 0<=20000*n
 give:0<=S.give/\S.give<=20000*n
theorem uP{C:cz}(hC:dW C){n:Int}{S:Sm}{m:Nat}(h:sB S m):sB (aD C n S) (m+1):=by
 have h1:=h.aj;have h2:=h.give;have hs:=hC.s;have hk:=hC.k;unfold aD;split
 ·exact⟨λi=>by have:=h1 i;omega,by omega⟩
 ·refine⟨λi=>?_,by show 0<=S.give+C.gap.k/\S.give+C.gap.k<=_;omega⟩;show 0<=(S.aj.set C.gap.z _).getD i 0/\(S.aj.set C.gap.z _).getD i 0<=_;rw [qD];have a:=h1 C.gap.z;have b:=h1 i;split<;>omega
theorem qL{C:cz}{aa:Int}{n s c:Int}{S:Sm}:(aZ C aa pre n s c ps S).give=S.give:=by
 simp only [aZ];(repeat' split)<;>rfl
theorem sD{cl:Int->cz}(hc:∀n,n=1\/n=2->dW (cl n)){N:Nat}{aa:Int}{S:Sm}{x:Nd}{m:Nat}(hx:bV N x)(h:sB S m):sB (cy cl aa pre S x) (m+1):=by
 rcases x with x|x|x|⟨n,s,c,ps,t⟩
 case i=>
  have:=uP (hc n hx.1) (n:=n) h;have e1:(cy cl aa pre S (.i n s c ps t)).aj=(aD (cl n) n S).aj:=gN;have e2:(cy cl aa pre S (.i n s c ps t)).give=(aD (cl n) n S).give:=qL;exact⟨by rw [e1];exact this.aj,by rw [e2];exact this.give⟩
 all_goals exact⟨λi=>by have:=h.aj i;show 0<=S.aj.getD i 0/\S.aj.getD i 0<=_;omega,by have:=h.give;show 0<=S.give/\S.give<=_;omega⟩
theorem qM{cl:Int->cz}(hc:∀n,n=1\/n=2->dW (cl n)){N:Nat}{aa:Int}:∀{xs pre:List Nd} {S:Sm} {m:Nat},(∀x∈xs,bV N x)->sB S m->sB (cT cl aa pre xs S) (m+xs.length)
 | [],_,_,_,_,h=>h
 |x::xs,pre,S,m,hx,h=>by
  have:=qM hc (aa:=aa) (xs:=xs) (pre:=pre++[x]) (λy hy=>hx y (.tail _ hy)) (sD hc (aa:=aa) (pre:=pre) (hx x (.head _)) h);rw [List.length_cons,show m+(xs.length+1)=m+1+xs.length by omega];exact this
theorem qN{cl:Int->cz}(hc:∀n,n=1\/n=2->dW (cl n)){N:Nat}{vs aa:Int}{xs:List Nd}(hx:∀x∈xs,bV N x):sB (bi cl vs aa xs) xs.length:=by
 have:=qM hc (aa:=aa) (pre:=[]) (S:=⟨vs,0,[],[0,0,0,0],0⟩) (m:=0) hx ⟨λi=>by rcases i with _|_|_|_|i<;>simp,by simp⟩
 rwa [Nat.zero_add]at this
theorem hV{xs:List Int}{i:Nat}(h:xs.length=ys.length):(cq xs ys).getD i 0=xs.getD i 0+ys.getD i 0:=by
 unfold cq;rw [List.getD_eq_getElem?_getD,List.getD_eq_getElem?_getD,List.getD_eq_getElem?_getD,List.getElem?_zipWith];by_cases h1:i<xs.length
 ·rw [List.getElem?_eq_getElem h1,List.getElem?_eq_getElem (h▸h1)];rfl
 ·rw [List.getElem?_eq_none (by omega),List.getElem?_eq_none (by omega)];rfl
end
section
set_option maxHeartbeats 2000000
theorem ye(e:Option fG):NR (me e):=by cases e<;>exact dC (d:=6) rfl
theorem yf{n:Nat}(e:Option fG):frz n H 8 (me e)=some (me e):=by cases e<;>rfl
theorem wK{v':V}{ρ:aE}(h:K (.ret v') ρ H)(e:v=v'):K (.ret v) ρ H:=e▸h
theorem jB{C:CT}(c33:O0 C)(c37:O3 C)(c32:OZ C){line:List Nd}{vs md aa:Int}{cl:Int->cz}{N:Nat}(hc:∀n,n=1\/n=2->dW (cl n))(hN:N<=50)(hline:∀x∈line,bV N x)(hlen:line.length<=100)(hd:0<=aa)(hmd:0<=md){H:Hp}{K:Fl->aE->Hp->Prop}:
  ∀(af pre:List Nd) (ag:Option fG) (x4 x5 x6 x7 x8 x9 x10 x11:Option V),line=pre++af->
  (∀x3 x4 x5 x6 x7 x8 x9 x10 x11,gr cl vs md aa line pre.length af ag=none->K .next [some (.ad (line.map aP)),some (.ao [.int vs,.int md,.int aa]),some (dM cl),x3,x4,x5,x6,x7,x8,x9,x10,x11] H)->
  (∀ρ e,gr cl vs md aa line pre.length af ag=some e->K (.ret (me (some e))) ρ H)->
  ba (λρ=>ec ρ (.two 4 5)) (λρ H=>aM tb C fS ρ H) (λ_=>True) (cZ pre.length (af.map aP)) [some (.ad (line.map aP)),some (.ao [.int vs,.int md,.int aa]),some (dM cl),some (me ag),x4,x5,x6,x7,x8,x9,x10,x11] H K
 | [],pre,ag,x4,x5,x6,x7,x8,x9,x10,x11,hl,k,kr=>⟨trivial,k _ _ _ _ _ _ _ _ _ rfl⟩
 |a::af,pre,ag,x4,x5,x6,x7,x8,x9,x10,x11,hl,k,kr=>by
  have ih:=λag x4 x5 x6 x7 x8 x9 x10 x11=>jB (C:=C) (vs:=vs) (md:=md) c33 c37 c32 hc hN hline hlen hd hmd (H:=H) (K:=K) af (pre++[a]) ag x4 x5 x6 x7 x8 x9 x10 x11 (by rw [hl];simp);rw [List.length_append,List.length_singleton]at ih;have ih2:∀best' x4 x5 x6 x7 x8 x9 x10 x11,gr cl vs md aa line pre.length (a::af) ag=gr cl vs md aa line (pre.length+1) af best'->ba (λρ=>ec ρ (.two 4 5)) (λρ H=>aM tb C fS ρ H) (λ_=>True) (cZ (pre.length+1) (af.map aP)) [some (.ad (line.map aP)),some (.ao [.int vs,.int md,.int aa]),some (dM cl),some (me best'),x4,x5,x6,x7,x8,x9,x10,x11] H K:=
   λbest' x4 x5 x6 x7 x8 x9 x10 x11 e=>ih _ _ _ _ _ _ _ _ _ (by rw [←e];exact k) (by rw [←e];exact kr)
  clear ih k;refine⟨trivial,?_⟩;have hpre:pre.length<=line.length:=by rw [hl];simp
  have hpl:pre.length<line.length:=by rw [hl];simp
  have htk:line.take pre.length=pre:=by rw [hl];simp
  have hat:line[pre.length]?=some a:=by rw [hl];simp
  have hpok:∀x∈pre,bV N x:=λx hx=>hline x (by rw [hl];simp [hx]);have hplen:pre.length<=100:=by omega
  have hcb:=ph hmd hpok;have hsb:=qN hc (vs:=vs) (aa:=aa) hpok;have hal:(cq (ay md pre).st (bi cl vs aa pre).aj).length=4:=by unfold cq;rw [List.length_zipWith,fU,fV];rfl
  have hag:(cq (ay md pre).st (bi cl vs aa pre).aj).getD 0 0<2^30:=by
   rw [hV (by rw [fU,fV])];have h1:=hcb.st 0;have h2:=hsb.aj 0;omega
  have hsh:(ay md pre).sh+(bi cl vs aa pre).give<2^30:=by
   have h1:=hcb.sh;have h2:=hsb.give;omega
  fail "x";refine c33.c (.ad _) hpl ?_;fail "r"
  ·rename_i hp;fail "v";rw [map_take hpre,htk];refine c37.c hc hN hpok hplen hd ?_;fail "x";refine c32.c hal hag hsh ?_;have hpv:m3 line[pre.length]?=m3 (some a):=by rw [hat]
   have hgo:∀aq,ja cl vs md aa pre (pen line pre.length)=aq->gr cl vs md aa line pre.length (a::af) ag=if aq=2^30-1\/pen line pre.length<=-10000 then cU ⟨pre.length,m3 (some a),aq,(bi cl vs aa pre).ae⟩ ag else gr cl vs md aa line (pre.length+1) af (cU ⟨pre.length,m3 (some a),aq,(bi cl vs aa pre).ae⟩ ag):=by
    intro aq hcost;subst hcost;simp only [gr,if_pos hp,htk,hpv]
   generalize hcs:rB (size pre-(ay md pre).dp) (bi cl vs aa pre).ae (cq (ay md pre).st (bi cl vs aa pre).aj) ((ay md pre).sh+(bi cl vs aa pre).give) (pen line pre.length) (bi cl vs aa pre).extra=aq;have hgo:=hgo aq hcs;have hpow:(2:Int)^Int.toNat 30-1=2^30-1:=rfl;clear hsb hcb hal hag hsh hcs hlen hN hd hmd hline hpok hl hc hplen hpre hpl;have hf:(∃v,aP a= .ao [.chr 112,.int v]/\m3 (some a)=v)\/(∃c r,b0 false (decide (c=112))=false/\aP a= .ao (.chr c::r)/\m3 (some a)=10000):=by
    rcases a with(a|a|a)|a|a|a
    ·exact .inr ⟨_,_,rfl,rfl,rfl⟩
    ·exact .inr ⟨_,_,rfl,rfl,rfl⟩
    ·exact .inl ⟨_,rfl,rfl⟩
    ·exact .inr ⟨_,_,rfl,rfl,rfl⟩
    ·exact .inr ⟨_,_,rfl,rfl,rfl⟩
    ·exact .inr ⟨_,_,rfl,rfl,rfl⟩
   rcases hf with⟨v,he,hv⟩|⟨c,r,hcc,he,hv⟩
   all_goals
    rw [hv]at hgo;rw [he];clear he hv hpv hat
    cases ag with
    |none=>
     all_goals
      fail "r";all_goals first
       |(exfalso;have hx:= ‹b0 false (decide (_=112))=true›;rw [hcc]at hx;cases hx;done)
       |(have hy:aq=2^30-1\/pen line pre.length<=-10000:=by omega
         rw [if_pos hy]at hgo;exact wK (kr _ ⟨pre.length,_,aq,(bi cl vs aa pre).ae⟩ (hgo.trans rfl)) rfl)
       |(have hy:¬(aq=2^30-1\/pen line pre.length<=-10000):=by omega
         rw [if_neg hy]at hgo;exact ih2 (some ⟨pre.length,_,aq,(bi cl vs aa pre).ae⟩) _ _ _ _ _ _ _ _ (hgo.trans rfl))
    |some b=>
     have h1:∀{pv:Int},aq<=b.aq->cU ⟨pre.length,pv,aq,(bi cl vs aa pre).ae⟩ (some b)=some ⟨pre.length,pv,aq,(bi cl vs aa pre).ae⟩:=λh=>by simp only [cU,if_pos h]
     have h2:∀{pv:Int},b.aq<aq->cU ⟨pre.length,pv,aq,(bi cl vs aa pre).ae⟩ (some b)=some b:=λh=>by simp only [cU,if_neg (Int.not_le.mpr h)]
     all_goals
      fail "r";all_goals first
       |(exfalso;have hx:= ‹b0 false (decide (_=112))=true›;rw [hcc]at hx;cases hx;done)
       |(have hx:aq<=b.aq:=by omega
         rw [h1 hx]at hgo;first
         |(have hy:aq=2^30-1\/pen line pre.length<=-10000:=by omega
           rw [if_pos hy]at hgo;exact wK (kr _ ⟨pre.length,_,aq,(bi cl vs aa pre).ae⟩ (hgo.trans rfl)) rfl)
         |(have hy:¬(aq=2^30-1\/pen line pre.length<=-10000):=by omega
           rw [if_neg hy]at hgo;exact ih2 (some ⟨pre.length,_,aq,(bi cl vs aa pre).ae⟩) _ _ _ _ _ _ _ _ (hgo.trans rfl)))
       |(have hx:b.aq<aq:=by omega
         rw [h2 hx]at hgo;first
         |(have hy:aq=2^30-1\/pen line pre.length<=-10000:=by omega
           rw [if_pos hy]at hgo;exact wK (kr _ b hgo) rfl)
         |(have hy:¬(aq=2^30-1\/pen line pre.length<=-10000):=by omega
           rw [if_neg hy]at hgo;exact ih2 (some b) _ _ _ _ _ _ _ _ hgo))
  ·rename_i hp;refine ih2 _ _ _ _ _ _ _ _ _ ?_;simp only [gr,if_neg (Int.not_lt.mpr hp)]
structure Qg(C:CT):Prop where c:∀{line:List Nd} {vs md aa:Int} {cl:Int->cz} {N:Nat} {H:Hp} {K:V->Hp->Prop},(∀n,n=1\/n=2->dW (cl n))->N<=50->(∀x∈line,bV N x)->line.length<=100->0<=aa->0<=md->K (me (nK cl vs md aa line)) H->C 39 [.ad (line.map aP),.ao [.int vs,.int md,.int aa],dM cl] H K
theorem Ti(d:Nat):Qg (aG tb (d+5)):=⟨λ{line vs md aa cl N H K} hc hN hline hlen hd hmd k=>by
 refine aw rfl rfl ?_;have c33:=Qd (d+3);have c37:=O4 d;have c32:=Qc (d+3);generalize aG tb (d+4)=C at*;fail "x";refine ed.mk ?_;refine jB c33 c37 c32 hc hN hline hlen hd hmd line [] none _ _ _ _ _ _ _ _ rfl (λx3 x4 x5 x6 x7 x8 x9 x10 x11 e=>?_) (λρ e he=>?_)
 ·have e:nK cl vs md aa line=none:=e;rw [e]at k;fail "r";exact k
 ·have he:nK cl vs md aa line=some e:=he;rw [he]at k;exact dH (yf _) (ye _) (cX k)⟩
end
section
set_option maxHeartbeats 2000000
def aJ(br:Int):List aA->List aA
 | []=>[]
 |.b l h d::r=>.g (max (br-h) 0) 0 0 0 108:: .b l h d::r
 |_::r=>aJ br r
theorem gs{C:CT}{ps:List aA}{br:Int}(hlen:ps.length<=1000){H:Hp}{K:Fl->aE->Hp->Prop}:
  ∀(af pre:List aA) (x2 x3:Option V),ps=pre++af->
  (∀x2 x3,aJ br af=[]->K .next [some (.ao (ps.map aQ)),some (.int br),x2,x3] H)->
  (∀ρ,K (.ret (.ao ((aJ br af).map aQ))) ρ H)->
  ba (λρ=>ec ρ (.two 2 3)) (λρ H=>aM tb C gj ρ H) (λ_=>True) (cZ pre.length (af.map aQ)) [some (.ao (ps.map aQ)),some (.int br),x2,x3] H K
 | [],pre,x2,x3,hl,k,kr=>⟨trivial,k _ _ rfl⟩
 |a::af,pre,x2,x3,hl,k,kr=>by
  have ih:=λx2 x3=>gs (C:=C) (br:=br) hlen (H:=H) (K:=K) af (pre++[a]) x2 x3 (by rw [hl];simp);rw [List.length_append,List.length_singleton]at ih;refine⟨trivial,?_⟩;have hpre:pre.length<=ps.length:=by rw [hl];simp
  have hdr:ps.drop pre.length=a::af:=by rw [hl];simp
  rcases a with⟨l,h,d⟩|⟨w,s,z,kk,so⟩|v
  case b=>
   fail "x";rw [map_drop hpre,hdr];refine av.mk (by show _<=10000000;have:(aA.b l h d::af).length<=ps.length:=(by rw [←hdr,List.length_drop];omega);simp only [List.length_map,List.length_cons,List.length_nil]at this⊢;omega) ?_;exact kr _
  all_goals
   fail "r";exact ih _ _ k kr
structure O5(C:CT):Prop where c:∀{ps:List aA} {br:Int} {H:Hp} {K:V->Hp->Prop},ps.length<=1000->K (.ao ((aJ br ps).map aQ)) H->C 40 [.ao (ps.map aQ),.int br] H K
theorem yg:NR (.ao (ps.map aQ)):=.ao λx hx=>by obtain⟨p,-,rfl⟩:=List.mem_map.mp hx;exact lc p
theorem tN{n d:Nat}(p:aA):frz n H (d+2) (aQ p)=some (aQ p):=by cases p<;>rfl
theorem tO{n d:Nat}:frz n H (d+3) (.ao (ps.map aQ))=some (.ao (ps.map aQ)):=by
 show((ps.map aQ).mapM (frz n H (d+2))).map V.ao=_;rw [df λx hx=>by obtain⟨p,-,rfl⟩:=List.mem_map.mp hx;exact tN p];rfl
theorem Tj(d:Nat):O5 (aG tb (d+1)):=⟨λ{ps br H K} hlen k=>by
 refine aw rfl rfl ?_;generalize aG tb d=C at*;have kr:∀ρ:aE,fL true H K (.ret (.ao ((aJ br ps).map aQ))) ρ H:=λρ=>dH tO yg (cX k);fail "x";refine ed.mk ?_;refine gs hlen ps [] _ _ rfl (λx2 x3 he=>?_) kr;rw [he]at k;fail "r";exact k⟩
structure iJ where
 kept:List Nd
 ak:List (Int×List aA)
 al:List Nd
def cB(n:Int):List (Int×List aA)->List aA
 | []=>[]
 |(m,x)::l=>if m=n then x else cB n l
def cr(n:Int)(y:List aA):List (Int×List aA)->List (Int×List aA)
 | []=>[]
 |(m,x)::l=>if m=n then(m,y)::l else(m,x)::cr n y l
def di(n:Int)(g:List (Int×List aA)):Prop:=∃x,(n,x)∈g
def fH(r:dI)(at_:Nat)(ps:List aA):Nat:=if r.sat=at_ then aC ps.length r.spl else ps.length
def bW(r:dI)(at_:Nat)(S:iJ)(n s c:Int)(ps:List aA)(t:Int):iJ:=
 if r.last<at_ then{S with al:=S.al++[.i n s c ps t]}else
 let cut:=fH r at_ ps
 let left:=aJ t (ps.drop cut)
 {S with ak:=cr n (cB n S.ak++ps.take cut) S.ak,al:=if left=[]then S.al else S.al++[.i n (be left) c left t]}
def du(ab:Rows)(at_:Nat)(S:iJ):Nd->iJ
 |.i n s c ps t=>bW ((aB n ab).getD ⟨0,-1,-1,0⟩) at_ S n s c ps t
 |x=>{S with kept:=S.kept++[x]}
def dX(ab:Rows):Nat->List Nd->iJ->iJ
 |_,[],S=>S
 |n,x::xs,S=>dX ab (n+1) xs (du ab n S x)
def bg:List Nd->List Nd
 |.pt (.p _)::r=>.pt (.p 10000)::r
 |xs=>xs
def dJ(line:List Nd)(place:Nat)(ab:Rows):iJ:=dX ab 0 (line.take place) ⟨[],ab.map λp=>(p.1,[]),[]⟩
def bX(g:List (Int×List aA)):List (Int×V):=g.map λp=>(p.1,.ad (p.2.map aQ))
def cu(H:Hp)(S:iJ):Hp:=H++[.ad (S.kept.map aP),.dct (bX S.ak),.ad (S.al.map aP)]
section
variable {H:Hp}{S:iJ}
theorem Qh{K:CO->Prop}(k:K (.ad (S.kept.map aP))):bL (cu H S) H.length K:=⟨⟨_,by unfold cu;rw [List.getElem?_append_right (Nat.le_refl _),Nat.sub_self];rfl,k⟩⟩
theorem Qi{K:CO->Prop}(k:K (.dct (bX S.ak))):bL (cu H S) (H.length+1) K:=⟨⟨_,by unfold cu;rw [List.getElem?_append_right (by omega),show H.length+1-H.length=1 by omega];rfl,k⟩⟩
theorem Qj{K:CO->Prop}(k:K (.ad (S.al.map aP))):bL (cu H S) (H.length+2) K:=⟨⟨_,by unfold cu;rw [List.getElem?_append_right (by omega),show H.length+2-H.length=2 by omega];rfl,k⟩⟩
theorem yh{xs:List Nd}:(cu H S).set H.length (.ad (xs.map aP))=cu H {S with kept:=xs}:=by
 unfold cu;rw [List.set_append_right _ _ (Nat.le_refl _),Nat.sub_self];rfl
theorem tP{g:List (Int×List aA)}:(cu H S).set (H.length+1) (.dct (bX g))=cu H {S with ak:=g}:=by
 unfold cu;rw [List.set_append_right _ _ (by omega),show H.length+1-H.length=1 by omega];rfl
theorem tQ{xs:List Nd}:(cu H S).set (H.length+2) (.ad (xs.map aP))=cu H {S with al:=xs}:=by
 unfold cu;rw [List.set_append_right _ _ (by omega),show H.length+2-H.length=2 by omega];rfl
end
theorem jb{n:Int}:∀{g:List (Int×List aA)},di n g->aW n (bX g)=some (.ad ((cB n g).map aQ))
 | [],h=>by obtain⟨x,hx⟩:=h;cases hx
 |(m,y)::l,h=>by
  show(match decide (m=n)with|true=>some (V.ad (y.map aQ))|false=>aW n (bX l))=_;unfold cB;by_cases e:m=n
  ·rw [decide_eq_true e,if_pos e]
  ·rw [decide_eq_false e,if_neg e];obtain⟨x,hx⟩:=h;rcases List.mem_cons.mp hx with hx|hx
   ·cases hx;exact absurd rfl e
   ·exact jb ⟨x,hx⟩
theorem nM{n:Int}{y:List aA}:∀{g:List (Int×List aA)},di n g->dn n (.ad (y.map aQ)) (bX g)=bX (cr n y g)
 | [],h=>by obtain⟨x,hx⟩:=h;cases hx
 |(m,z)::l,h=>by
  show(match decide (m=n)with|true=>(m,V.ad (y.map aQ))::bX l|false=>(m,V.ad (z.map aQ))::dn n (.ad (y.map aQ)) (bX l))=_;unfold cr;by_cases e:m=n
  ·rw [decide_eq_true e,if_pos e];rfl
  ·rw [decide_eq_false e,if_neg e];obtain⟨x,hx⟩:=h;rcases List.mem_cons.mp hx with hx|hx
   ·cases hx;exact absurd rfl e
   ·show(m,V.ad (z.map aQ))::dn n (.ad (y.map aQ)) (bX l)=_;rw [nM ⟨x,hx⟩];rfl
theorem qO{n m:Int}{y:List aA}:∀{g:List (Int×List aA)},di m g->di m (cr n y g)
 | [],h=>h
 |(k,z)::l,h=>by
  obtain⟨x,hx⟩:=h;unfold cr;rcases List.mem_cons.mp hx with hx|hx
  ·cases hx;split
   ·exact⟨y,.head _⟩
   ·exact⟨_,.head _⟩
  ·split
   ·exact⟨x,.tail _ hx⟩
   ·obtain⟨x',hx'⟩:=qO (n:=n) (y:=y) ⟨x,hx⟩;exact⟨x',.tail _ hx'⟩
theorem qP{n:Int}{y:List aA}:∀{g:List (Int×List aA)},(cr n y g).length=g.length
 | []=>rfl
 |(k,z)::l=>by unfold cr;split<;>simp [qP]
end
section
set_option maxHeartbeats 2000000
local macro_rules | `(tactic| fail "c") => `(tactic| first
 |with_reducible refine Qh ?_
 |with_reducible refine Qi ?_
 |with_reducible refine Qj ?_)
theorem mf{n:Int}:∀{ab:Rows} {r:dI},aB n ab=some r->aW n (ab.map λp:Int×dI=>(p.1,V.ad (dB p.2)))=some (.ad (dB r))
 | [],_,h=>by cases h
 |(m,x)::l,r,h=>by
  unfold aB at h;show(match decide (m=n)with|true=>some (V.ad (dB x))|false=>aW n (l.map λp:Int×dI=>(p.1,V.ad (dB p.2))))=_;by_cases e:m=n
  ·rw [if_pos e]at h;cases h;rw [decide_eq_true e]
  ·rw [if_neg e]at h;rw [decide_eq_false e];exact mf h
theorem po{xs:List Nd}{x:Nd}:xs.map aP++[aP x]=(xs++[x]).map aP:=by simp
theorem mh(x:Nd):jg 7 (aP x):=by
 rcases x with(x|x|x)|x|x|⟨n,s,c,ps,t⟩
 all_goals
  intro y hy;simp only [List.mem_cons,List.not_mem_nil,or_false]at hy
 ·rcases hy with rfl|rfl|rfl|rfl<;>first|trivial|(show(98:Nat)<128;decide)
 ·rcases hy with rfl|rfl|rfl|rfl|rfl<;>first|trivial|(show(103:Nat)<128;decide)
 ·rcases hy with rfl|rfl<;>first|trivial|(show(112:Nat)<128;decide)
 ·rcases hy with rfl|rfl<;>first|trivial|(show(107:Nat)<128;decide)
 ·rcases hy with rfl|rfl
  ·show(109:Nat)<128;decide
  ·intro y hy;simp only [List.mem_cons,List.not_mem_nil,or_false]at hy;subst hy;intro y hy;simp only [List.mem_cons,List.not_mem_nil,or_false]at hy;rcases hy with rfl|rfl<;>trivial
 ·rcases hy with rfl|rfl|rfl|rfl|rfl|rfl<;>first|trivial|(show(105:Nat)<128;decide)|skip
  intro y hy;obtain⟨p,-,rfl⟩:=List.mem_map.mp hy
  cases p<;>intro y hy<;>simp only [List.mem_cons,List.not_mem_nil,or_false]at hy
  ·rcases hy with rfl|rfl|rfl|rfl<;>first|trivial|(show(98:Nat)<128;decide)
  ·rcases hy with rfl|rfl|rfl|rfl|rfl<;>first|trivial|(show(103:Nat)<128;decide)
  ·rcases hy with rfl|rfl<;>first|trivial|(show(112:Nat)<128;decide)
theorem qQ(ps:List aA):jg 8 (.ao (ps.map aQ)):=λy hy=>by
 obtain⟨p,-,rfl⟩:=List.mem_map.mp hy;exact mh (.pt p)
theorem bq(xs:List Nd):jg 8 (.ad (xs.map aP)):=λy hy=>by
 obtain⟨p,-,rfl⟩:=List.mem_map.mp hy;exact mh p
theorem yi:kX (.ao (ps.map aQ)) (.ao [])=decide (ps=[]):=by
 unfold kX
 cases ps with
 |nil=>simp
 |cons p ps=>simp
theorem ew{br:Int}:∀{ps:List aA},(aJ br ps).length<=ps.length+1
 | []=>by simp [aJ]
 |.b l h d::r=>by simp [aJ]
 |.g w s z k so::r=>by have:=ew (br:=br) (ps:=r);simp only [aJ,List.length_cons];omega
 |.p v::r=>by have:=ew (br:=br) (ps:=r);simp only [aJ,List.length_cons];omega
theorem uQ{i:Int}:(ps.map aQ).take (aC (ps.map aQ).length i)=(ps.take (aC ps.length i)).map aQ:=by rw [List.length_map,List.map_take]
theorem uR{i:Int}:(ps.map aQ).drop (aC (ps.map aQ).length i)=(ps.drop (aC ps.length i)).map aQ:=by rw [List.length_map,List.map_drop]
theorem nN{g:List (Int×List aA)}:(bX g).length=g.length:=by unfold bX;rw [List.length_map]
theorem wL(c40:O5 C)(c26:AU C){lv:V}{pl:Int}{ab:Rows}{at_:Nat}{n s c t:Int}{S:iJ}{r:dI}(hr:aB n ab=some r)(hg:di n S.ak)(hn:n.natAbs<2^60)(hgn:S.ak.length<=1000)(hps:ps.length<=100)(hh:S.al.length<=1000)(hgl:(cB n S.ak).length<=100000)
  (k:∀x10 x11 x12 x13,K .next [some lv,some (.int pl),some (jz ab),x3,x4,some (.ref H.length),some (.ref (H.length+1)),some (.ref (H.length+2)),some (.int at_),some (aP (.i n s c ps t)),x10,x11,x12,x13] (cu H (bW r at_ S n s c ps t))):
  aM tb C fi [some lv,some (.int pl),some (jz ab),x3,x4,some (.ref H.length),some (.ref (H.length+1)),some (.ref (H.length+2)),some (.int at_),some (aP (.i n s c ps t)),x10,x11,x12,x13] (cu H S) K:=by
 have hdr:=mf hr;have hrow:∀{K:V->Prop},K (.ad (dB r))->aS (aW n (ab.map λp:Int×dI=>(p.1,V.ad (dB p.2)))) K:=λk=>⟨⟨_,hdr,k⟩⟩
 have hgone:∀{K:V->Prop},K (.ad ((cB n S.ak).map aQ))->aS (aW n (bX S.ak)) K:=λk=>⟨⟨_,jb hg,k⟩⟩
 fail "r";refine hrow ?_;fail "r"
 ·rename_i hb;have hb:r.last<at_:=hb;simp only [bW,if_pos hb]at k;fail "v";refine av.mk (by show _<=10000000;rw [List.length_map];omega) ?_;rw [po,tQ];fail "r";exact k _ _ _ _
 ·rename_i hb;have hb:¬r.last<at_:=Int.not_lt.mpr hb;simp only [bW,if_neg hb]at k;fail "r";refine hrow ?_;fail "r";all_goals
   refine hgone ?_;fail "x";rw [uQ];refine av.mk (by show _<=10000000;rw [List.length_map,List.length_map,List.length_take];omega) ?_;rw [←List.map_append];fail "x";refine av.mk ⟨hn,by show _<=10000000;rw [nN];omega⟩ ?_;rw [nM hg,tP];fail "x";rw [uR];refine c40.c (by rw [List.length_drop];omega) ?_;fail "x";refine av.mk (.inl ⟨qQ _,qQ []⟩) ?_;rw [show kX _ (.ao [])=_ from yi];generalize hcl:aC ps.length _=cl at*;have hcut:fH r at_ ps=cl:=by
    subst hcl;unfold fH;first
     |rw [if_pos (by assumption)]
     |(rw [if_neg (by assumption)];rw [List.length_map];exact(Nat.min_self _).symm)
   rw [hcut]at k;by_cases hleft:aJ t (ps.drop cl)=[]
   ·rw [if_pos hleft]at k;simp only [hleft,decide_true];fail "r";exact k _ _ _ _
   ·rw [if_neg hleft]at k;rw [decide_eq_false hleft];fail "x";refine c26.c (xs:=(aJ t (ps.drop cl)).map .pt) (by rw [List.map_map];exact .ao _) ?_;fail "x";refine av.mk (by show(S.al.map aP).length+1<=10000000;rw [List.length_map];omega) ?_;dsimp only;rw [show S.al.map aP++[V.ao [V.chr 105,V.int n,V.int (size ((aJ t (ps.drop cl)).map .pt)),V.int c,V.ao ((aJ t (ps.drop cl)).map aQ),V.int t]]=(S.al++[Nd.i n (be (aJ t (ps.drop cl))) c (aJ t (ps.drop cl)) t]).map aP from po (x:=Nd.i n (be (aJ t (ps.drop cl))) c (aJ t (ps.drop cl)) t),tQ];fail "r";exact k _ _ _ _
end
section
set_option maxHeartbeats 2000000
local macro_rules | `(tactic| fail "c") => `(tactic| first
 |with_reducible refine Qh ?_
 |with_reducible refine Qi ?_
 |with_reducible refine Qj ?_)
structure jW(ab:Rows)(S:iJ)(n:Nat):Prop where
 kept:S.kept.length<=n
 al:S.al.length<=n
 ak:∀p∈S.ak,p.2.length<=100*n
 len:S.ak.length=ab.length
 has:∀m r,aB m ab=some r->di m S.ak
theorem lf{n:Int}{M:Nat}:∀{g:List (Int×List aA)},(∀p∈g,p.2.length<=M)->(cB n g).length<=M
 | [],_=>by simp [cB]
 |(m,x)::l,h=>by
  unfold cB;split
  ·exact h _ (.head _)
  ·exact lf λp hp=>h p (.tail _ hp)
theorem tR{n:Int}{y:List aA}{M:Nat}(hy:y.length<=M):∀{g:List (Int×List aA)},(∀p∈g,p.2.length<=M)->∀p∈cr n y g,p.2.length<=M
 | [],_,p,hp=>by cases hp
 |(m,x)::l,h,p,hp=>by
  unfold cr at hp;split at hp
  ·rcases List.mem_cons.mp hp with rfl|hp
   ·exact hy
   ·exact h p (.tail _ hp)
  ·rcases List.mem_cons.mp hp with rfl|hp
   ·exact h _ (.head _)
   ·exact tR hy (λp hp=>h p (.tail _ hp)) p hp
theorem jW.an{ab:Rows}{S:iJ}{at_:Nat}(h:jW ab S at_){r:dI}{n s c t:Int}(hps:ps.length<=100):jW ab (bW r at_ S n s c ps t) (at_+1):=by
 unfold bW;have hk:=h.kept;have hh:=h.al;have hg:∀p∈S.ak,p.2.length<=100*(at_+1):=λp hp=>by have:=h.ak p hp;omega
 split
 ·exact⟨by show S.kept.length<=_;omega,by simp;omega,hg,h.len,h.has⟩
 ·refine⟨by show S.kept.length<=_;omega,?_,?_,by rw [qP];exact h.len,λm r hm=>qO (h.has m r hm)⟩
  ·show(if _ then S.al else _).length<=_;split
   ·omega
   ·simp;omega
  ·refine tR ?_ hg;have:=lf (n:=n) h.ak;rw [List.length_append,List.length_take];omega
theorem iK{C:CT}(c40:O5 C)(c26:AU C){H:Hp}{lv:V}{x3 x4:Option V}{pl:Int}{ab:Rows}{N:Nat}(hN:N<=100)(hrl:ab.length<=1000){K:Fl->aE->Hp->Prop}:
  ∀(xs:List Nd) (at_:Nat) (S:iJ) (x8 x9 x10 x11 x12 x13:Option V),(∀x∈xs,bV N x)->(∀n s c ps t,Nd.i n s c ps t∈xs->∃r,aB n ab=some r)->at_+xs.length<=100->jW ab S at_->
  (∀x8 x9 x10 x11 x12 x13,K .next [some lv,some (.int pl),some (jz ab),x3,x4,some (.ref H.length),some (.ref (H.length+1)),some (.ref (H.length+2)),x8,x9,x10,x11,x12,x13] (cu H (dX ab at_ xs S)))->
  ba (λρ=>ec ρ (.two 8 9)) (λρ H=>aM tb C fi ρ H) (λ_=>True) (cZ at_ (xs.map aP)) [some lv,some (.int pl),some (jz ab),x3,x4,some (.ref H.length),some (.ref (H.length+1)),some (.ref (H.length+2)),x8,x9,x10,x11,x12,x13] (cu H S) K
 | [],at_,S,x8,x9,x10,x11,x12,x13,hx,hr,hl,hS,k=>⟨trivial,k _ _ _ _ _ _⟩
 |a::xs,at_,S,x8,x9,x10,x11,x12,x13,hx,hr,hl,hS,k=>by
  have ih:=λ(S:iJ) x8 x9 x10 x11 x12 x13 (hS:jW ab S (at_+1))=>iK (C:=C) (lv:=lv) (x3:=x3) (x4:=x4) (pl:=pl) c40 c26 hN hrl (H:=H) (K:=K) xs (at_+1) S x8 x9 x10 x11 x12 x13 (λx h=>hx x (.tail _ h)) (λn s c ps t h=>hr n s c ps t (.tail _ h)) (by rw [List.length_cons]at hl;omega) hS;have ha:=hx a (.head _);rw [List.length_cons]at hl;have hk:=hS.kept;have hh:=hS.al;have hmono:∀y,jW ab {S with kept:=S.kept++[y]} (at_+1):=λy=>⟨by simp;omega,by show S.al.length<=_;omega,λp hp=>by have:=hS.ak p hp;omega,hS.len,hS.has⟩
  refine⟨trivial,?_⟩;rcases a with(a|a|a)|a|a|⟨n,s,c,ps,t⟩
  case i=>
   obtain⟨r,hrr⟩:=hr n s c ps t (.head _);obtain⟨hn,hs,hc0,hc1,hps,hpl,ht0,ht1⟩:=ha;have hgl:=lf (n:=n) hS.ak;have hgn:=hS.len;simp only [dX,du,hrr,Option.getD_some]at k;refine wL c40 c26 hrr (hS.has _ _ hrr) (by omega) (by omega) (by omega) (by omega) (by omega) λx10 x11 x12 x13=>?_;exact ih _ _ _ _ _ _ _ (hS.an (by omega)) k
  all_goals
   fail "x";refine av.mk (by show(S.kept.map aP).length+1<=10000000;rw [List.length_map];omega) ?_;rw [po,yh];exact ih _ _ _ _ _ _ _ (hmono _) k
theorem AX:∀(ab:Rows) (k:Nat) (acc:List (Int×List aA)),True:=λ_ _ _=>trivial
theorem nO{n:Int}:∀{g:List (Int×List aA)},(∀p∈g,p.1≠n)->dn n (.ad []) (bX g)=bX (g++[(n,[])])
 | [],_=>rfl
 |(m,z)::l,h=>by
  show(match decide (m=n)with|true=>(m,V.ad [])::bX l|false=>(m,V.ad (z.map aQ))::dn n (.ad []) (bX l))=_;rw [decide_eq_false (h _ (.head _))];show(m,V.ad (z.map aQ))::dn n (.ad []) (bX l)=_;rw [nO λp hp=>h p (.tail _ hp)];rfl
theorem iL{C:CT}{H:Hp}{lv:V}{x4 x8 x9 x10 x11 x12 x13:Option V}{pl:Int}{rows0:Rows}{K:Fl->aE->Hp->Prop}:
  ∀(ab:Rows) (g:List (Int×List aA)) (x3:Option V),(ab.map (·.1)).Nodup->(∀p∈ab,∀q∈g,q.1≠p.1)->(∀p∈ab,p.1=1\/p.1=2)->g.length+ab.length<=1000->
  (∀x3,K .next [some lv,some (.int pl),some (jz rows0),x3,x4,some (.ref H.length),some (.ref (H.length+1)),some (.ref (H.length+2)),x8,x9,x10,x11,x12,x13] (cu H ⟨[],g++ab.map λp=>(p.1,[]),[]⟩))->
  ba (λρ=>ec ρ (.one 3)) (λρ H=>aM tb C iF ρ H) (λ_=>True) (ab.map λp=>.int p.1) [some lv,some (.int pl),some (jz rows0),x3,x4,some (.ref H.length),some (.ref (H.length+1)),some (.ref (H.length+2)),x8,x9,x10,x11,x12,x13] (cu H ⟨[],g,[]⟩) K
 | [],g,x3,hnd,hd,pb,hl,k=>⟨trivial,by have:=k x3;simpa using this⟩
 |(n,r)::ab,g,x3,hnd,hd,pb,hl,k=>by
  refine⟨trivial,?_⟩;rw [List.map_cons,List.nodup_cons]at hnd;have hn:=pb _ (.head _);have hg:∀p∈g,p.1≠n:=λq hq=>hd (n,r) (.head _) q hq;rw [List.length_cons]at hl;fail "x";refine av.mk ⟨by omega,by show _<=10000000;rw [nN];show g.length+1<=_;omega⟩ ?_;rw [show dn n (V.ad []) (bX g)=_ from nO hg,tP];refine iL ab (g++[(n,[])]) _ hnd.2 (λp hp q hq=>?_) (λp hp=>pb p (.tail _ hp)) (by rw [List.length_append];simp;omega) (by simpa using k);rcases List.mem_append.mp hq with hq|hq
  ·exact hd p (.tail _ hp) q hq
  ·cases List.mem_singleton.mp hq;intro e;exact hnd.1 (List.mem_map.mpr ⟨p,hp,e.symm⟩)
end
section
set_option maxHeartbeats 2000000
def wM(S:iJ)(behind:List Nd):V:=.ao [.ad (S.kept.map aP),.dct (bX S.ak),.ad (S.al.map aP),.ad (behind.map aP)]
theorem wN{n d:Nat}(x:Nd):frz n H (d+4) (aP x)=some (aP x):=by
 rcases x with x|x|x|⟨i,s,c,ps,t⟩
 ·exact tN (d:=d+2) x
 ·rfl
 ·rfl
 ·show(List.mapM (frz n H (d+3)) [V.chr 105,.int i,.int s,.int c,.ao (ps.map aQ),.int t]).map V.ao=_;have h:=tO (n:=n) (d:=d) (H:=H) (ps:=ps);simp only [List.mapM_cons,List.mapM_nil,h];rfl
theorem pp{n d:Nat}{xs:List Nd}:(xs.map aP).mapM (frz n H (d+4))=some (xs.map aP):=df λx hx=>by obtain⟨p,-,rfl⟩:=List.mem_map.mp hx;exact wN p
theorem fc{n d:Nat}{r:Nat}{xs:List V}(hr:n<=r)(h:H[r]?=some (.ad xs))(hx:xs.mapM (frz n H d)=some xs):frz n H (d+1) (.ref r)=some (.ad xs):=by
 show(if r<n then Option.none else(match H[r]? with|some (.ad xs)=>(xs.mapM (frz n H d)).map V.ad|some (.dct ks)=>(ks.mapM λkv=>(frz n H d kv.2).map λv=>(kv.1,v)).map V.dct|some (.inst c fs)=>(fs.mapM λ(o:Option V)=>o.bind (frz n H d)).map (V.obj c)|_=>Option.none))=_;rw [if_neg (by omega),h];show(xs.mapM (frz n H d)).map V.ad=_;rw [hx];rfl
theorem qR{n d:Nat}{r:Nat}{ks:List (Int×V)}(hr:n<=r)(h:H[r]?=some (.dct ks))(hx:∀p∈ks,frz n H d p.2=some p.2):frz n H (d+1) (.ref r)=some (.dct ks):=by
 show(if r<n then Option.none else(match H[r]? with|some (.ad xs)=>(xs.mapM (frz n H d)).map V.ad|some (.dct ks)=>(ks.mapM λkv=>(frz n H d kv.2).map λv=>(kv.1,v)).map V.dct|some (.inst c fs)=>(fs.mapM λ(o:Option V)=>o.bind (frz n H d)).map (V.obj c)|_=>Option.none))=_;rw [if_neg (by omega),h];show(ks.mapM λkv=>(frz n H d kv.2).map λv=>(kv.1,v)).map V.dct=_;have:(ks.mapM λkv=>(frz n H d kv.2).map λv=>(kv.1,v))=some ks:=by
  clear h;induction ks with
  |nil=>rfl
  |cons p l ih=>
   rw [List.mapM_cons,hx p (.head _),ih λq hq=>hx q (.tail _ hq)];rfl
 rw [this];rfl
theorem wO{S:iJ}{b:List Nd}:NR (wM S b):=by
 refine .ao λx hx=>?_;rcases hx with _|⟨_,_|⟨_,_|⟨_,_|⟨_,h⟩⟩⟩⟩
 ·exact ld
 ·refine .dct λx hx=>?_;obtain⟨p,-,rfl⟩:=List.mem_map.mp hx;exact .ad λy hy=>by obtain⟨q,-,rfl⟩:=List.mem_map.mp hy;exact lc q
 ·exact ld
 ·exact ld
 ·cases h
theorem wP{xs:List Nd}:kX (.ad (xs.map aP)) (.ad [])=decide (xs=[]):=by
 unfold kX
 cases xs with
 |nil=>simp
 |cons p ps=>simp
structure Tk(C:CT):Prop where c:∀{line:List Nd} {place:Nat} {ab:Rows} {N:Nat} {H:Hp} {K:V->Hp->Prop},N<=50->(∀x∈line,bV N x)->line.length<=100->place<=line.length->(ab.map (·.1)).Nodup->(∀p∈ab,p.1=1\/p.1=2)->ab.length<=1000->(∀n s c ps t,Nd.i n s c ps t∈line.take place->∃r,aB n ab=some r)->K (wM (dJ line place ab) (bg (line.drop place))) H->C 41 [.ad (line.map aP),.int place,jz ab] H K
theorem qS{m:Int}:∀{ab:Rows} {r:dI},aB m ab=some r->∃p∈ab,p.1=m
 | [],_,h=>by cases h
 |(k,x)::l,r,h=>by
  unfold aB at h;split at h
  ·rename_i e;exact⟨_,.head _,e⟩
  ·obtain⟨p,hp,e⟩:=qS h;exact⟨p,.tail _ hp,e⟩
theorem Tl(d:Nat):Tk (aG tb (d+2)):=⟨λ{line place ab N H K} hN hline hlen hpl hnd pb hrl hr k=>by
 refine aw rfl rfl ?_;have c40:=Tj d;have c26:=HQ d;generalize aG tb (d+1)=C at*;fail "x";refine ed.mk ?_;have e1:(H++[CO.ad []]++[CO.dct (([]:List Int).zip ([]:List V))]++[CO.ad []])=cu H ⟨[],[],[]⟩:=by unfold cu;simp [bX]
 have e2:(H++[CO.ad []]).length=H.length+1:=by simp
 have e3:(H++[CO.ad []]++[CO.dct (([]:List Int).zip ([]:List V))]).length=H.length+2:=by simp
 have e4:(List.map (λkv:Int×V=>V.int kv.fst) (List.map (λp:Int×dI=>(p.fst,V.ad (dB p.snd))) ab))=ab.map λp=>.int p.1:=by rw [List.map_map];rfl
 rw [e3,e1,e2,e4];refine iL ab [] _ hnd (by simp) pb (by simp;omega) λx3=>?_;fail "x";refine ed.mk ?_;rw [map_take hpl];have hB:jW ab ⟨[],[]++ab.map λp=>(p.1,[]),[]⟩ 0:=⟨Nat.le_refl _,Nat.le_refl _,λp hp=>by simp at hp;obtain⟨a,b,hp,rfl⟩:=hp;simp,by simp,λm r hm=>by
  obtain⟨p,hp,rfl⟩:=qS hm;exact⟨[],by simp;exact⟨p.2,hp⟩⟩⟩
 refine iK c40 c26 (N:=N) (by omega) hrl (line.take place) 0 _ _ _ _ _ _ _ (λx hx=>hline x (List.mem_of_mem_take hx)) hr (by rw [List.length_take];omega) hB λx8 x9 x10 x11 x12 x13=>?_;have hS:dX ab 0 (line.take place) ⟨[],[]++ab.map λp=>(p.1,[]),[]⟩=dJ line place ab:=rfl;rw [hS];generalize dJ line place ab=S at k hS;have hlenS:(cu H S).length=H.length+3:=by unfold cu;simp
 have kr:∀(b:List Nd) (ρ:aE),b=bg (line.drop place)->fL true H K (.ret (.ao [.ref H.length,.ref (H.length+1),.ref (H.length+2),.ref (cu H S).length])) ρ (cu H S++[.ad (b.map aP)]):=by
  intro b ρ hb;subst hb;have g0:(cu H S++[CO.ad ((bg (line.drop place)).map aP)])[H.length]?=some (.ad (S.kept.map aP)):=by unfold cu;simp
  have g1:(cu H S++[CO.ad ((bg (line.drop place)).map aP)])[H.length+1]?=some (.dct (bX S.ak)):=by unfold cu;simp
  have g2:(cu H S++[CO.ad ((bg (line.drop place)).map aP)])[H.length+2]?=some (.ad (S.al.map aP)):=by unfold cu;simp
  have g3:(cu H S++[CO.ad ((bg (line.drop place)).map aP)])[(cu H S).length]?=some (.ad ((bg (line.drop place)).map aP)):=bP;refine dH (u:=wM S (bg (line.drop place))) ?_ wO ⟨?_,k⟩
  ·show(List.mapM (frz H.length _ 7) [V.ref H.length,.ref (H.length+1),.ref (H.length+2),.ref (cu H S).length]).map V.ao=_;simp only [List.mapM_cons,List.mapM_nil,fc (Nat.le_refl _) g0 pp,fc (n:=H.length) (by omega) g2 pp,fc (n:=H.length) (by omega) g3 pp,qR (n:=H.length) (d:=6) (by omega) g1 (λp hp=>by
    obtain⟨q,-,rfl⟩:=List.mem_map.mp hp;rfl)]
   rfl
  ·unfold cu;simp
 fail "x";rw [map_drop hpl];refine av.mk (.inl ⟨bq _,bq []⟩) ?_;rw [show kX (.ad ((line.drop place).map aP)) (.ad [])=_ from wP];generalize line.drop place=D at kr
 cases D with
 |nil=>
  simp only [decide_true];fail "r";exact kr [] [] rfl
 |cons y ys=>
  rw [show decide (y::ys=[])=false from rfl];rcases y with(y|y|y)|y|y|y
  case pt.p=>
   fail "r";rw [cA];exact kr (.pt (.p 10000)::ys) [] rfl
  all_goals
   fail "r";exact kr _ [] rfl⟩
end
section
set_option maxHeartbeats 2000000
structure iw(H:Hp)(rj rc n:Nat):Prop where
 ne:rj≠rc
 h:∃(cells:List Int) (at_:Nat) (tot:Int),H[rj]?=some (.ad [.ref rc,.int at_,.int tot])/\H[rc]?=some (.ad (cells.map .int))/\at_<=n/\(∀c∈cells,0<=c)/\0<=tot/\tot<=10000000
structure kF(H H':Hp)(rj rc:Nat):Prop where
 len:H.length<=H'.length
 same:∀r<H.length,r≠rj->r≠rc->H'[r]?=H[r]?
theorem kF.refl{rc:Nat}:kF H H rj rc:=⟨Nat.le_refl _,λ_ _ _ _=>rfl⟩
theorem kF.trans{H H1 H2:Hp}{rj rc:Nat}(a:kF H H1 rj rc)(b:kF H1 H2 rj rc):kF H H2 rj rc:=⟨Nat.le_trans a.len b.len,λr hr h1 h2=>(b.same r (Nat.lt_of_lt_of_le hr a.len) h1 h2).trans (a.same r hr h1 h2)⟩
theorem kF.app{X:Hp}{rc:Nat}:kF H (H++X) rj rc:=⟨by simp,λr hr _ _=>List.getElem?_append_left hr⟩
theorem iw.mono{n m:Nat}(j:iw H rj rc n)(h:n<=m):iw H rj rc m:=by
 obtain⟨ne,c,a,t,h1,h2,h3,h4,h5⟩:=j;exact⟨ne,c,a,t,h1,h2,by omega,h4,h5⟩
theorem iw.lt{n:Nat}(j:iw H rj rc n):rj<H.length/\rc<H.length:=by
 obtain⟨ne,c,a,t,h1,h2,-⟩:=j;exact⟨aF h1,aF h2⟩
theorem iw.app{X:Hp}{n:Nat}(j:iw H rj rc n):iw (H++X) rj rc n:=by
 obtain⟨l1,l2⟩:=j.lt;obtain⟨ne,c,a,t,h1,h2,h3⟩:=j;exact⟨ne,c,a,t,by rw [List.getElem?_append_left l1];exact h1,by rw [List.getElem?_append_left l2];exact h2,h3⟩
theorem ar{r:Nat}{x:CO}{K:CO->Prop}(h:H[r]?=some x)(k:K x):bL H r K:=⟨⟨x,h,k⟩⟩
theorem bm{r:Nat}{x:CO}(h:H[r]?=some x):(H.set r y)[r]?=some y:=by rw [List.getElem?_set_self (aF h)]
theorem az{r q:Nat}(h:r≠q):(H.set r y)[q]?=H[q]?:=List.getElem?_set_ne h
structure Qk(C:CT):Prop where c:∀{rj rc n:Nat} {many:Int} {H:Hp} {K:V->Hp->Prop},iw H rj rc n->0<many->many<2^30->n<1000000->(∀r H',0<=r->r<many->iw H' rj rc (n+1)->kF H H' rj rc->K (.int r) H')->C 23 [.ref rj,.int many] H K
theorem AY(d:Nat):Qk (aG tb (d+1)):=⟨λ{rj rc n many H K} j hm hm2 hn k=>by
 refine aw rfl rfl ?_;generalize aG tb d=C at*;obtain⟨ne,cells,at_,tot,h1,h2,h3,h4,h5,h6⟩:=j;have hm0:many≠0:=by omega
 have hlm:(cells.map V.int).length=cells.length:=List.length_map ..;have hz:(cells.getD at_ 0)∈cells\/cells.length<=at_:=by
  by_cases h:at_<cells.length
  ·left;rw [List.getD_eq_getElem?_getD,List.getElem?_eq_getElem h];exact List.getElem_mem h
  ·right;omega
 have fm:∀x:Int,0<=x->0<=x.fmod many/\x.fmod many<many:=λx hx=>⟨Int.fmod_nonneg_of_pos _ hm,Int.fmod_lt_of_pos _ hm⟩
 have hs1:(H.set rj (.ad [.ref rc,.int (at_+1),.int tot]))[rc]?=some (.ad (cells.map .int)):=by rw [az ne];exact h2
 have hs2:(H.set rj (.ad [.ref rc,.int (at_+1),.int tot]))[rj]?=some (.ad [.ref rc,.int (at_+1),.int tot]):=bm h1;have J1:iw (H.set rj (.ad [.ref rc,.int (at_+1),.int tot])) rj rc (n+1):=⟨ne,cells,at_+1,tot,hs2,hs1,by omega,h4,h5,h6⟩
 have F1:kF H (H.set rj (.ad [.ref rc,.int (at_+1),.int tot])) rj rc:=⟨by simp,λr hr a b=>az (λe=>a e.symm)⟩
 fail "v";refine ar h1 ?_;fail "x";refine ar h1 ?_;fail "x";refine ar h2 ?_;fail "r"
 ·rename_i hb;have hlt:at_<cells.length:=by omega
  have hc0:0<=cells.getD at_ 0:=h4 _ (by rcases hz with h|h<;>first|exact h|omega);fail "v";refine ar h2 ?_;fail "r"
  ·fail "v";refine ar h2 ?_;fail "x";refine ar h2 ?_;fail "x";refine ar h2 ?_;fail "r";have hcs:∀c∈cells.set at_ ((cells.getD at_ 0).fdiv many),0<=c:=λc hc=>by
    rcases List.mem_or_eq_of_mem_set hc with h|rfl
    ·exact h4 c h
    ·exact Int.fdiv_nonneg hc0 (by omega)
   exact k _ _ (fm _ hc0).1 (fm _ hc0).2 ⟨ne,_,at_,tot,by rw [az ne.symm];exact h1,bm h2,by omega,hcs,h5,h6⟩ ⟨by simp,λr hr a b=>az (λe=>b e.symm)⟩
  ·fail "v";refine ar h1 ?_;fail "x";refine ar hs1 ?_;fail "x";refine ar hs1 ?_;fail "r";exact k _ _ (fm _ hc0).1 (fm _ hc0).2 J1 F1
 ·rename_i hb;fail "v";refine ar h1 ?_;fail "x";refine ar hs1 ?_;fail "x";refine ar hs2 ?_;fail "r";have hq:0<=(tot+(at_:Int)*(5*at_+7)).fmod 1009:=Int.fmod_nonneg_of_pos _ (by decide);exact k _ _ (fm _ hq).1 (fm _ hq).2 J1 F1⟩
end
section
set_option maxHeartbeats 2000000
structure m4(g:mL):Prop where
 w:0<=g.w/\g.w<=4000
 s:0<=g.s/\g.s<=3000
 z:g.z<4
 zs:g.s=0->g.z=0
 k:0<=g.k/\g.k<=2000
structure Ql(C:CT):Prop where c:∀{rj rc n:Nat} {H:Hp} {K:V->Hp->Prop},iw H rj rc n->n<900000->(∀g H',m4 g->iw H' rj rc (n+5)->kF H H' rj rc->K (mc g) H')->C 24 [.ref rj] H K
theorem HU(d:Nat):Ql (aG tb (d+2)):=⟨λ{rj rc n H K} j hn k=>by
 refine aw rfl rfl ?_;have c23:=AY d;generalize aG tb (d+1)=C at*;fail "v";refine c23.c j (by decide) (by decide) (by omega) λr1 H1 a1 b1 j1 f1=>?_;fail "x";refine c23.c j1 (by decide) (by decide) (by omega) λr2 H2 a2 b2 j2 f2=>?_;fail "x";refine c23.c j2 (by decide) (by decide) (by omega) λr3 H3 a3 b3 j3 f3=>?_;have f13:=(f1.trans f2).trans f3;fail "r"
 ·rename_i hb;fail "v";refine c23.c j3 (by decide) (by decide) (by omega) λr4 H4 a4 b4 j4 f4=>?_;fail "r"
  ·fail "v";refine c23.c j4 (by decide) (by decide) (by omega) λr5 H5 a5 b5 j5 f5=>?_;fail "r";obtain⟨z,rfl⟩:=Int.eq_ofNat_of_zero_le a5;have e:(1+(z:Int))=((1+z:Nat):Int):=by omega
   have kk:=k ⟨1000*r1,1000*r2,1+z,1000*r3⟩ H5 ⟨by show 0<=1000*r1/\1000*r1<=4000;omega,by show 0<=1000*r2/\1000*r2<=3000;omega,by show 1+z<4;omega,by show 1000*r2=0->1+z=0;omega,by show 0<=1000*r3/\1000*r3<=2000;omega⟩ j5 ((f13.trans f4).trans f5);simp only [mc]at kk;rw [←e]at kk;exact kk
  ·exact k ⟨1000*r1,1000*r2,0,1000*r3⟩ H4 ⟨by show 0<=1000*r1/\1000*r1<=4000;omega,by show 0<=1000*r2/\1000*r2<=3000;omega,by show 0<4;omega,λ_=>rfl,by show 0<=1000*r3/\1000*r3<=2000;omega⟩ (j4.mono (by omega)) (f13.trans f4)
 ·exact k ⟨1000*r1,1000*r2,0,1000*r3⟩ H3 ⟨by show 0<=1000*r1/\1000*r1<=4000;omega,by show 0<=1000*r2/\1000*r2<=3000;omega,by show 0<4;omega,λ_=>rfl,by show 0<=1000*r3/\1000*r3<=2000;omega⟩ (j3.mono (by omega)) f13⟩
structure Qm(C:CT):Prop where c:∀{rj rc n:Nat} {label:Int} {H:Hp} {K:V->Hp->Prop},iw H rj rc n->n<900000->(∀h d H',0<=h->h<=12500->0<=d->d<=3000->iw H' rj rc (n+3)->kF H H' rj rc->K (aQ (.b label h d)) H')->C 25 [.ref rj,.int label] H K
theorem Qn(d:Nat):Qm (aG tb (d+2)):=⟨λ{rj rc n label H K} j hn k=>by
 refine aw rfl rfl ?_;have c23:=AY d;generalize aG tb (d+1)=C at*;fail "v";refine c23.c j (by decide) (by decide) (by omega) λr1 H1 a1 b1 j1 f1=>?_;fail "x";refine c23.c j1 (by decide) (by decide) (by omega) λr2 H2 a2 b2 j2 f2=>?_;fail "x";refine c23.c j2 (by decide) (by decide) (by omega) λr3 H3 a3 b3 j3 f3=>?_;fail "r";exact k _ _ _ (by omega) (by omega) (by omega) (by omega) j3 ((f1.trans f2).trans f3)⟩
theorem m4.ok{g:mL}(h:m4 g):okP (.g g.w g.s g.z g.k 0):=⟨h.w.1,by have:=h.w;omega,h.s.1,by have:=h.s;omega,h.z,h.zs,h.k.1,by have:=h.k;omega⟩
structure Tm(C:CT):Prop where c:∀{rj rc n:Nat} {H:Hp} {K:V->Hp->Prop},iw H rj rc n->n<800000->(∀cl H',dW cl->m4 cl.gap->iw H' rj rc (n+8)->kF H H' rj rc->K (uL cl) H')->C 29 [.ref rj] H K
theorem Tn(d:Nat):Tm (aG tb (d+3)):=⟨λ{rj rc n H K} j hn k=>by
 refine aw rfl rfl ?_;have c23:=AY (d+1);have c24:=HU d;generalize aG tb (d+2)=C at*;fail "v";refine c23.c j (by decide) (by decide) (by omega) λr1 H1 a1 b1 j1 f1=>?_;obtain⟨sh,hsh,hidx⟩:∃sh:Int,(sh=0\/sh=500\/sh=1000)/\dm [V.int 1000,.int 500,.int 1000,.int 0] r1=some (.int sh):=by
  obtain⟨m,rfl⟩:=Int.eq_ofNat_of_zero_le a1;have hm:m<4:=by omega
  match m,hm with
  |0,_=>exact⟨1000,by simp,rfl⟩
  |1,_=>exact⟨500,by simp,rfl⟩
  |2,_=>exact⟨1000,by simp,rfl⟩
  |3,_=>exact⟨0,by simp,rfl⟩
 fail "x";refine aS.mk ⟨_,hidx,?_⟩;fail "x";refine c23.c j1 (by decide) (by decide) (by omega) λr2 H2 a2 b2 j2 f2=>?_;fail "x";refine c24.c j2 (by omega) λg H3 hg j3 f3=>?_;fail "x";refine c23.c j3 (by decide) (by decide) (by omega) λr4 H4 a4 b4 j4 f4=>?_;obtain⟨hd,hhd,hidx2⟩:∃sh:Int,(sh=0\/sh=3)/\dm [V.int 0,.int 0,.int 3] r4=some (.int sh):=by
  obtain⟨m,rfl⟩:=Int.eq_ofNat_of_zero_le a4;have hm:m<3:=by omega
  match m,hm with
  |0,_=>exact⟨0,by simp,rfl⟩
  |1,_=>exact⟨0,by simp,rfl⟩
  |2,_=>exact⟨3,by simp,rfl⟩
 fail "x";refine aS.mk ⟨_,hidx2,?_⟩;fail "r";exact k ⟨sh,1000*(4+r2),g,1000*hd⟩ H4 ⟨hsh,by show 0<=1000*(4+r2)/\1000*(4+r2)<=30000;omega,by have:=hg.w;show 0<=g.w/\g.w<=20000;omega,by have:=hg.s;show 0<=g.s/\g.s<=20000;omega,hg.z,hg.zs,by have:=hg.k;show 0<=g.k/\g.k<=20000;omega,by show 0<=1000*hd/\1000*hd<=20000;omega⟩ hg (j4.mono (by omega)) (((f1.trans f2).trans f3).trans f4)⟩
end
section
set_option maxHeartbeats 2000000
theorem iw.set{n rp:Nat}(j:iw H rj rc n)(h1:rp≠rj)(h2:rp≠rc):iw (H.set rp y) rj rc n:=by
 obtain⟨ne,c,a,t,g1,g2,g3⟩:=j;exact⟨ne,c,a,t,by rw [az h1];exact g1,by rw [az h2];exact g2,g3⟩
theorem kF.set{rp:Nat}(f:kF H H' rj rc)(h:H.length<=rp):kF H (H'.set rp y) rj rc:=⟨by rw [List.length_set];exact f.len,λr hr a b=>by rw [az (by omega)];exact f.same r hr a b⟩
theorem kF.at{r:Nat}{x:CO}(f:kF H H' rj rc)(h:H[r]?=some x)(h1:r≠rj)(h2:r≠rc):H'[r]?=some x:=by rw [f.same r (aF h) h1 h2];exact h
theorem Ao{p:aA}:ps.map aQ++[aQ p]=(ps++[p]).map aQ:=by simp
theorem wQ{l h d:Int}(hl0:0<=l)(hl:l<=20000)(h0:0<=h)(h1:h<=12500)(d0:0<=d)(d1:d<=3000):okP (.b l h d):=⟨hl0,hl,h0,by omega,d0,by omega⟩
theorem gu{C:CT}(c23:Qk C)(c24:Ql C)(c25:Qm C){rj rc rp:Nat}{label:Int}(hl0:0<=label)(hl1:label<=100)(hp1:rp≠rj)(hp2:rp≠rc){H0:Hp}(hrp:H0.length<=rp){K:Fl->aE->Hp->Prop}:
  ∀(l:List Nat) (ps:List aA) (n:Nat) (H:Hp) (x3:Option V),(∀a∈l,a<=3)->iw H rj rc n->n+20*l.length<800000->H[rp]?=some (.ad (ps.map aQ))->kF H0 H rj rc->(∀p∈ps,okP p)->ps.length+2*l.length<=9->
  (∀(ps:List aA) (H':Hp) x3,(∀p∈ps,okP p)->ps.length<=9->iw H' rj rc (n+20*l.length)->H'[rp]?=some (.ad (ps.map aQ))->kF H0 H' rj rc->K .next [some (.ref rj),some (.int label),some (.ref rp),x3] H')->
  ba (λρ=>ec ρ (.one 3)) (λρ H=>aM tb C dU ρ H) (λ_=>True) (m0 l) [some (.ref rj),some (.int label),some (.ref rp),x3] H K
 | [],ps,n,H,x3,hl,j,hn,hp,f,ok,hlen,k=>⟨trivial,k ps H x3 ok (by simpa using hlen) (by simpa using j) hp f⟩
 |a::l,ps,n,H,x3,hl,j,hn,hp,f,ok,hlen,k=>by
  have ih:=λps n H x3=>gu c23 c24 c25 hl0 hl1 hp1 hp2 hrp (K:=K) l ps n H x3 (λb hb=>hl b (.tail _ hb));have ha:=hl a (.head _);rw [List.length_cons]at hn hlen;have hlm:∀q:List aA,(q.map aQ).length=q.length:=λq=>List.length_map ..;refine⟨trivial,?_⟩;have fin:∀(ps1:List aA) (H1:Hp) (m:Nat) (x3:Option V),iw H1 rj rc m->m<=n+15->H1[rp]?=some (.ad (ps1.map aQ))->kF H0 H1 rj rc->(∀p∈ps1,okP p)->ps1.length=ps.length+1->∀h d H2,0<=h->h<=12500->0<=d->d<=3000->iw H2 rj rc (m+3)->kF H1 H2 rj rc->
    ba (λρ=>ec ρ (.one 3)) (λρ H=>aM tb C dU ρ H) (λ_=>True) (m0 l) [some (.ref rj),some (.int label),some (.ref rp),x3] (H2.set rp (.ad (ps1.map aQ++[aQ (.b (100*label+1+a) h d)]))) K:=by
   intro ps1 H1 m x3 j hm hp f ok hlen' h d H2 h0 h1 d0 d1 j2 f2;have hp2':=f2.at hp hp1 hp2;rw [Ao];refine ih _ (n+20) _ x3 ((j2.set hp1 hp2).mono (by omega)) (by omega) (bm hp2') ((f.trans f2).set hrp) ?_ (by simp;omega) λps H' x3 ok hl j=>k ps H' x3 ok hl (j.mono (by rw [List.length_cons];omega));intro p hp;rcases List.mem_append.mp hp with hp|hp
   ·exact ok p hp
   ·cases List.mem_singleton.mp hp;exact wQ (by omega) (by omega) h0 h1 d0 d1
  have ok1:∀p,okP p->∀q∈ps++[p],okP q:=λp hp q hq=>by
   rcases List.mem_append.mp hq with hq|hq
   ·exact ok q hq
   ·cases List.mem_singleton.mp hq;exact hp
  fail "v";refine ar hp ?_;fail "v";refine c23.c j (by decide) (by decide) (by omega) λr1 H1 a1 b1 j1 f1=>?_;fail "r"
  ·fail "v";refine c23.c j1 (by decide) (by decide) (by omega) λr2 H2 a2 b2 j2 f2=>?_;obtain⟨v,hv,hidx⟩:∃v:Int,(-10000<=v/\v<=10000)/\dm [V.int 0,.int 60,.int (-10000),.int 10000] r2=some (.int v):=by
    obtain⟨m,rfl⟩:=Int.eq_ofNat_of_zero_le a2;have hm:m<4:=by omega
    match m,hm with
    |0,_=>exact⟨0,by omega,rfl⟩
    |1,_=>exact⟨60,by omega,rfl⟩
    |2,_=>exact⟨-10000,by omega,rfl⟩
    |3,_=>exact⟨10000,by omega,rfl⟩
   fail "v";refine aS.mk ⟨_,hidx,?_⟩;fail "v";have hp':=(f1.trans f2).at hp hp1 hp2;refine ar hp' ?_;refine av.mk (by show(ps.map aQ).length+1<=10000000;rw [List.length_map];omega) ?_;rw [show ps.map aQ++[V.ao [V.chr 112,V.int v]]=(ps++[aA.p v]).map aQ from Ao (p:=.p v)];fail "v";refine ar (bm hp') ?_;fail "v";have jj:=(j2.set (y:=.ad ((ps++[aA.p v]).map aQ)) hp1 hp2)
   refine av.mk (.inl (by decide)) ?_;fail "v";refine c25.c jj (by omega) λh d H3 h0 h1 d0 d1 j3 f3=>?_;fail "v";have hp3:=f3.at (bm hp') hp1 hp2;refine ar hp3 ?_;refine av.mk (by show((ps++[aA.p v]).map aQ).length+1<=10000000;rw [List.length_map,List.length_append];simp;omega) ?_;exact fin (ps++[.p v]) _ (n+2) _ (jj.mono (by omega)) (by omega) (bm hp') (((f.trans f1).trans f2).set hrp) (ok1 (.p v) hv) (by simp) h d H3 h0 h1 d0 d1 (j3.mono (by omega)) f3
  ·fail "v";refine c24.c j1 (by omega) λg H2 hg j2 f2=>?_;fail "v";have hp':=(f1.trans f2).at hp hp1 hp2;refine ar hp' ?_;refine av.mk (by show(ps.map aQ).length+1<=10000000;rw [List.length_map];omega) ?_;rw [show ps.map aQ++[mc g]=(ps++[aA.g g.w g.s g.z g.k 0]).map aQ from Ao (p:=.g g.w g.s g.z g.k 0)];fail "v";refine ar (bm hp') ?_;fail "v";have jj:=(j2.set (y:=.ad ((ps++[aA.g g.w g.s g.z g.k 0]).map aQ)) hp1 hp2)
   refine av.mk (.inl (by decide)) ?_;fail "v";refine c25.c jj (by omega) λh d H3 h0 h1 d0 d1 j3 f3=>?_;fail "v";have hp3:=f3.at (bm hp') hp1 hp2;refine ar hp3 ?_;refine av.mk (by show((ps++[aA.g g.w g.s g.z g.k 0]).map aQ).length+1<=10000000;rw [List.length_map,List.length_append];simp;omega) ?_;exact fin (ps++[.g g.w g.s g.z g.k 0]) _ (n+6) _ (jj.mono (by omega)) (by omega) (bm hp') (((f.trans f1).trans f2).set hrp) (ok1 _ hg.ok) (by simp) h d H3 h0 h1 d0 d1 (j3.mono (by omega)) f3
theorem qT{r:Int}(h:0<=r):t9 r=m0 (List.range r.toNat):=rfl
structure To(C:CT):Prop where c:∀{rj rc n:Nat} {label:Int} {H:Hp} {K:V->Hp->Prop},iw H rj rc n->n<700000->0<=label->label<=100->(∀x H',bV 9 x->iw H' rj rc (n+100)->kF H H' rj rc->K (aP x) H')->C 27 [.ref rj,.int label] H K
theorem Tp(d:Nat):To (aG tb (d+3)):=⟨λ{rj rc n label H K} j hn hl0 hl1 k=>by
 refine aw rfl rfl ?_;have c23:=AY (d+1);have c24:=HU d;have c25:=Qn d;have c26:=HQ (d+1);generalize aG tb (d+2)=C at*;fail "v";refine av.mk (.inl (by decide)) ?_;fail "v";refine c25.c j (by omega) λh d H1 h0 h1 d0 d1 j1 f1=>?_;fail "x";have j1':=j1.app (X:=[CO.ad [aQ (.b (100*label) h d)]]);refine c23.c j1' (by decide) (by decide) (by omega) λr2 H2 a2 b2 j2 f2=>?_;have l1:=j1.lt;have hrp:=f2.at (bP (H:=H1) (x:=.ad [aQ (.b (100*label) h d)])) (by omega) (by omega);have f12:kF H H2 rj rc:=(f1.trans kF.app).trans f2;fail "x";refine ed.mk ?_;rw [qT a2];refine gu c23 c24 c25 hl0 hl1 (by omega) (by omega) f1.len (List.range r2.toNat) [.b (100*label) h d] (n+4) H2 _ (λa ha=>by have:=List.mem_range.mp ha;omega) j2 (by rw [List.length_range];omega) hrp f12 (λp hp=>by cases List.mem_singleton.mp hp;exact wQ (by omega) (by omega) h0 h1 d0 d1) (by rw [List.length_range];simp;omega) λps H3 x3 ok hlen j3 hp f3=>?_;rw [List.length_range]at j3;have j3:iw H3 rj rc (n+64):=j3.mono (by omega);fail "x";refine c23.c j3 (by decide) (by decide) (by omega) λr4 H4 a4 b4 j4 f4=>?_;have hp4:=f4.at hp (by omega) (by omega);fail "x";refine c26.c (xs:=ps.map .pt) (.ref (by rw [hp4,List.map_map];rfl)) ?_;fail "x";refine c23.c j4 (by decide) (by decide) (by omega) λr5 H5 a5 b5 j5 f5=>?_;have hp5:=f5.at hp4 (by omega) (by omega);obtain⟨cc,hcc,hidx⟩:∃cc:Int,(0<=cc/\cc<=10000)/\dm [V.int 0,.int 100,.int 9000] r5=some (.int cc):=by
  obtain⟨m,rfl⟩:=Int.eq_ofNat_of_zero_le a5;have hm:m<3:=by omega
  match m,hm with
  |0,_=>exact⟨0,by omega,rfl⟩
  |1,_=>exact⟨100,by omega,rfl⟩
  |2,_=>exact⟨9000,by omega,rfl⟩
 fail "v";refine aS.mk ⟨_,hidx,?_⟩;fail "v";refine ar hp5 ?_;fail "v";refine c23.c j5 (by decide) (by decide) (by omega) λr6 H6 a6 b6 j6 f6=>?_;fail "r";exact k (.i (1+r4) (be ps) cc ps (1000*r6)) H6 ⟨by omega,rfl,hcc.1,hcc.2,ok,hlen,by omega,by omega⟩ (j6.mono (by omega)) (((f3.trans f4).trans f5).trans f6)⟩
structure Qo(C:CT):Prop where c:∀{rj rc n:Nat} {label:Int} {H:Hp} {K:V->Hp->Prop},iw H rj rc n->n<600000->0<=label->label<=100->(∀x H',bV 9 x->iw H' rj rc (n+200)->kF H H' rj rc->K (aP x) H')->C 28 [.ref rj,.int label] H K
theorem Tq(d:Nat):Qo (aG tb (d+4)):=⟨λ{rj rc n label H K} j hn hl0 hl1 k=>by
 refine aw rfl rfl ?_;have c23:=AY (d+2);have c24:=HU (d+1);have c25:=Qn (d+1);have c27:=Tp d;generalize aG tb (d+3)=C at*;fail "v";refine c23.c j (by decide) (by decide) (by omega) λr1 H1 a1 b1 j1 f1=>?_;fail "r"
 ·fail "v";refine c25.c j1 (by omega) λh d H2 h0 h1 d0 d1 j2 f2=>?_;fail "r";exact k (.pt (.b label h d)) H2 (wQ hl0 (by omega) h0 h1 d0 d1) (j2.mono (by omega)) (f1.trans f2)
 ·fail "v";refine c24.c j1 (by omega) λg H2 hg j2 f2=>?_;fail "r";exact k (.pt (.g g.w g.s g.z g.k 0)) H2 hg.ok (j2.mono (by omega)) (f1.trans f2)
 ·fail "v";refine c23.c j1 (by decide) (by decide) (by omega) λr2 H2 a2 b2 j2 f2=>?_;obtain⟨v,hv,hidx⟩:∃v:Int,(-10000<=v/\v<=10000)/\dm [V.int 0,.int 50,.int (-50),.int 10000,.int (-10000),.int 9999,.int 300,.int (-700)] r2=some (.int v):=by
   obtain⟨m,rfl⟩:=Int.eq_ofNat_of_zero_le a2;have hm:m<8:=by omega
   match m,hm with
   |0,_=>exact⟨0,by omega,rfl⟩
   |1,_=>exact⟨50,by omega,rfl⟩
   |2,_=>exact⟨-50,by omega,rfl⟩
   |3,_=>exact⟨10000,by omega,rfl⟩
   |4,_=>exact⟨-10000,by omega,rfl⟩
   |5,_=>exact⟨9999,by omega,rfl⟩
   |6,_=>exact⟨300,by omega,rfl⟩
   |7,_=>exact⟨-700,by omega,rfl⟩
  fail "v";refine aS.mk ⟨_,hidx,?_⟩;fail "r";exact k (.pt (.p v)) H2 hv (j2.mono (by omega)) (f1.trans f2)
 ·fail "v";refine c23.c j1 (by decide) (by decide) (by omega) λr2 H2 a2 b2 j2 f2=>?_;fail "r";exact k (.k (1000*r2)) H2 ⟨by omega,by omega⟩ (j2.mono (by omega)) (f1.trans f2)
 ·exact k (.m (65+label)) H1 trivial (j1.mono (by omega)) f1
 ·fail "v";refine c27.c j1 (by omega) hl0 hl1 λx H2 hx j2 f2=>?_;fail "r";exact k x H2 hx (j2.mono (by omega)) (f1.trans f2)⟩
end
section
set_option maxHeartbeats 2000000
theorem cN{d c:Nat}{g:Cl}{f:Fn}{vs:List V}{K:V->Hp->Prop}(hfn:tb.fn (1000+c)=none)(hcl:tb.cl c=some g)(hf:tb.fn g.init=some f)(hl:(Nat.ble (vs.length+1) f.np&&Nat.ble f.np (vs.length+1+f.dfl.length))=true)
  (h:aM tb (aG tb d) f.body (pR f (.ref H.length::vs)) (H++[.inst c (List.replicate g.nf Option.none)]) (fL f.pure (H++[.inst c (List.replicate g.nf Option.none)]) λu H1=>match u with|.none=>pQ g.frz H (.ref H.length) H1 K|_=>False)):aG tb (d+2) (1000+c) vs H K:=by
 show(match tb.fn (1000+c)with
  |some g=>A7 tb (aG tb (d+1)) g vs H K
  |Option.none=>match tb.cl (1000+c-1000)with
   |some g=>av (1000<=1000+c) (HM (aG tb (d+1)) g (1000+c-1000) vs H K)
   |Option.none=>False)
 rw [hfn,show 1000+c-1000=c by omega,hcl];exact⟨by omega,aw hf hl h⟩
theorem wR{n d c:Nat}{r:Nat}(hr:n<=r)(h:H[r]?=some (.inst c (fs.map some)))(hx:∀v∈fs,frz n H d v=some v):frz n H (d+1) (.ref r)=some (.obj c fs):=by
 show(if r<n then Option.none else(match H[r]? with|some (.ad xs)=>(xs.mapM (frz n H d)).map V.ad|some (.dct ks)=>(ks.mapM λkv=>(frz n H d kv.2).map λv=>(kv.1,v)).map V.dct|some (.inst c fs)=>(fs.mapM λ(o:Option V)=>o.bind (frz n H d)).map (V.obj c)|_=>Option.none))=_;rw [if_neg (by omega),h];show((fs.map some).mapM λ(o:Option V)=>o.bind (frz n H d)).map (V.obj c)=_;have:((fs.map some).mapM λ(o:Option V)=>o.bind (frz n H d))=some fs:=by
  clear h;induction fs with
  |nil=>rfl
  |cons p l ih=>
   rw [List.map_cons,List.mapM_cons];show(frz n H d p).bind _=_;rw [hx p (.head _),ih λq hq=>hx q (.tail _ hq)];rfl
 rw [this];rfl
theorem nP{c:Nat}{K:V->Hp->Prop}(hx:∀v∈fs,fz 7 v=true)(hn:∀v∈fs,NR v)(k:K (.obj c fs) H):mN H.length (H++[.inst c (fs.map some)]) (.ref H.length) λu=>av ((H++[CO.inst c (fs.map some)]).take H.length=H) (K u H):=
 dH (wR (Nat.le_refl _) bP λv hv=>lZ (hx v hv)) (.obj hn) (dg k)
theorem bv{c:Nat}{K:V->Hp->Prop}(e:(fs.all λv=>fz 7 v&&Ae 8 v)=true)(k:K (.obj c fs) H):mN H.length (H++[.inst c (fs.map some)]) (.ref H.length) λu=>av ((H++[CO.inst c (fs.map some)]).take H.length=H) (K u H):=
 nP (λv hv=>(Bool.and_eq_true_iff.mp (List.all_eq_true.mp e v hv)).1) (λv hv=>dC (Bool.and_eq_true_iff.mp (List.all_eq_true.mp e v hv)).2) k
theorem aV{n m:Nat}{K:Prop}(h:Nat.blt n m=true)(k:K):av (n<m) K:=⟨Nat.le_of_ble_eq_true h,k⟩
local macro_rules | `(tactic| fail "c") => `(tactic| first
 |rw [cA]
 |refine aV rfl ?_
 |refine S0.c (by assumption) ?_
 |with_reducible refine S1.c (by assumption) ?_
 |refine S2.c (by assumption) (by omega) (by omega) ?_
 |refine S3.c (by assumption) (by omega) (by omega) ?_)
structure HV(C:CT):Prop where c:∀{w s k:Int} {z:Nat} {H:Hp} {K:V->Hp->Prop},0<=w->w<=100000->0<=s->s<=100000->z<4->(s=0->z=0)->0<=k->k<=100000->K (gl w s z k) H->C 1000 [.int w,.int s,.int z,.int k,.int 0] H K
theorem O6(d:Nat):HV (aG tb (d+4)):=⟨λ{w s k z H K} h1 h2 h3 h4 h5 h6 h7 h8 kk=>by
 refine cN (c:=0) rfl rfl rfl rfl ?_;have c0:=s0 (d+1);have c3:=s3 d;generalize aG tb (d+2)=C at*;fail "r"
 ·exact bv (fs:=[.int w,.int s,.int z,.int k,.int 0]) rfl kk
 ·exact bv (fs:=[.int w,.int s,.int z,.int k,.int 0]) rfl kk
 ·rename_i hs _;rw [h6 hs]at kk;exact bv (fs:=[.int w,.int s,.int 0,.int k,.int 0]) rfl kk
 ·rename_i hs _;rw [h6 hs]at kk;exact bv (fs:=[.int w,.int s,.int 0,.int k,.int 0]) rfl kk⟩
structure O7(C:CT):Prop where c:∀{w:Int} {H:Hp} {K:V->Hp->Prop},0<=w->w<=100000->K (gl w 0 0 0) H->C 1000 [.int w] H K
theorem O8(d:Nat):O7 (aG tb (d+4)):=⟨λ{w H K} h1 h2 kk=>by
 refine cN (c:=0) rfl rfl rfl rfl ?_;have c0:=s0 (d+1);have c3:=s3 d;generalize aG tb (d+2)=C at*;fail "r";exact bv (fs:=[.int w,.int 0,.int 0,.int 0,.int 0]) rfl kk⟩
structure Hg(C:CT):Prop where c:∀{H:Hp} {K:V->Hp->Prop},K (gl 0 0 0 0) H->C 1000 [] H K
theorem O9(d:Nat):Hg (aG tb (d+4)):=⟨λ{H K} kk=>by
 refine cN (c:=0) rfl rfl rfl rfl ?_;have c0:=s0 (d+1);have c3:=s3 d;generalize aG tb (d+2)=C at*;fail "r";exact bv (fs:=[.int 0,.int 0,.int 0,.int 0,.int 0]) rfl kk⟩
structure Pa(C:CT):Prop where c:∀{l h d:Int} {H:Hp} {K:V->Hp->Prop},0<=l->l<=100000->0<=h->h<=100000->0<=d->d<=100000->K (ci (.b l h d)) H->C 1001 [.int 2,.int l,.int h,.int d,.ad []] H K
theorem Pb(d:Nat):Pa (aG tb (d+4)):=⟨λ{l h d' H K} h1 h2 h3 h4 h5 h6 kk=>by
 refine cN (c:=1) rfl rfl rfl rfl ?_;have c0:=s0 (d+1);have c3:=s3 d;generalize aG tb (d+2)=C at*;fail "r";exact bv (fs:=[.int 2,.int l,.int h,.int d',.ad [],.int 0,.int 0,.int 0,.ao [.int 0,.int 1]]) rfl kk⟩
structure Hh(C:CT):Prop where c:∀{w:Int} {H:Hp} {K:V->Hp->Prop},0<=w->w<=100000->K (nd 0 (.k w)) H->C 1002 [.int w,.int 1] H K
theorem Hi(d:Nat):Hh (aG tb (d+4)):=⟨λ{w H K} h1 h2 kk=>by
 refine cN (c:=2) rfl rfl rfl rfl ?_;have c0:=s0 (d+1);have c3:=s3 d;generalize aG tb (d+2)=C at*;fail "r";exact bv (fs:=[.int w,.int 1]) rfl kk⟩
structure wS(C:CT):Prop where c:∀{w s k so:Int} {z:Nat} {H:Hp} {K:V->Hp->Prop},(so=0\/so=107\/so=108)->K (ci (.g w s z k so)) H->C 1003 [gl w s z k,.int so] H K
theorem wT(d:Nat):wS (aG tb (d+4)):=⟨λ{w s k so z H K} h1 kk=>by
 refine cN (c:=3) rfl rfl rfl rfl ?_;have c0:=s0 (d+1);generalize aG tb (d+2)=C at*;fail "r";all_goals first
  |exact bv (fs:=[gl w s z k,.int so,.none]) rfl kk
  |(rename_i hb
    simp [b0,isNone,iz]at hb;omega)⟩
structure Hj(C:CT):Prop where c:∀{v:Int} {H:Hp} {K:V->Hp->Prop},-10000<=v->v<=10000->K (ci (.p v)) H->C 1004 [.int v] H K
theorem Hk(d:Nat):Hj (aG tb (d+4)):=⟨λ{v H K} h1 h2 kk=>by
 refine cN (c:=4) rfl rfl rfl rfl ?_;have c2:=s2 d;generalize aG tb (d+2)=C at*;fail "r";exact bv (fs:=[.int v]) rfl kk⟩
structure Hl(C:CT):Prop where c:∀{c:Int} {H:Hp} {K:V->Hp->Prop},K (nd 0 (.m c)) H->C 1005 [.ao [.ao [.int 11,.int c]]] H K
theorem Hm(d:Nat):Hl (aG tb (d+4)):=⟨λ{c H K} kk=>by
 refine cN (c:=5) rfl rfl rfl rfl ?_;generalize aG tb (d+2)=C at*;fail "r";exact bv (fs:=[.ao [.ao [.int 11,.int c]]]) rfl kk⟩
theorem pq(x:aA):NR (ci x):=by cases x<;>exact dC (d:=8) rfl
structure Pc(C:CT):Prop where c:∀{n s aa c t:Int} {ps:List aA} {H:Hp} {K:V->Hp->Prop},0<=n->n<=254->0<=s->s<=10000000->0<=aa->aa<=100000->0<=c->c<=10000->K (nd aa (.i n s c ps t)) H->C 1006 [.int n,.int s,.int aa,gl t 0 0 0,.int c,.ad (ps.map ci)] H K
theorem Hn(d:Nat):Pc (aG tb (d+4)):=⟨λ{n s aa c t ps H K} h1 h2 h3 h4 h5 h6 h7 h8 kk=>by
 refine cN (c:=6) rfl rfl rfl rfl ?_;have c0:=s0 (d+1);have c2:=s2 d;have c3:=s3 d;generalize aG tb (d+2)=C at*;fail "r";refine nP (fs:=[.int n,.int s,.int aa,gl t 0 0 0,.int c,.ad (ps.map ci)]) (λv hv=>?_) (λv hv=>?_) kk
 ·simp only [List.mem_cons,List.not_mem_nil,or_false]at hv;rcases hv with rfl|rfl|rfl|rfl|rfl|rfl<;>rfl
 ·simp only [List.mem_cons,List.not_mem_nil,or_false]at hv;rcases hv with rfl|rfl|rfl|rfl|rfl|rfl
  ·exact .int _
  ·exact .int _
  ·exact .int _
  ·exact dC (d:=8) rfl
  ·exact .int _
  ·exact .ad λy hy=>by obtain⟨p,-,rfl⟩:=List.mem_map.mp hy;exact pq p⟩
structure yY(C:CT):Prop where c:∀{a b c e:Int} {H:Hp} {K:V->Hp->Prop},K (.obj 11 [.int a,.int b,.int c,.int e]) H->C 1011 [.int a,.int b,.int c,.int e] H K
theorem Ho(d:Nat):yY (aG tb (d+4)):=⟨λ{a b c e H K} kk=>by
 refine cN (c:=11) rfl rfl rfl rfl ?_;generalize aG tb (d+2)=C at*;fail "r";exact bv (fs:=[.int a,.int b,.int c,.int e]) rfl kk⟩
end
section
set_option maxHeartbeats 2000000
def wU:aA->Prop
 |.g _ _ _ _ so=>so=0
 |_=>True
def Hq:Nd->Prop
 |.pt x=>wU x
 |.i _ _ _ ps _=>∀p∈ps,wU p
 |_=>True
structure Ap(C:CT):Prop where c:∀{x:aA} {aa:Int} {H:Hp} {K:V->Hp->Prop},okP x->wU x->K (ci x) H->C 30 [aQ x,.int aa] H K
theorem yj{n d:Nat}{x:aA}:frz n H (d+1) (ci x)=some (ci x):=by cases x<;>rfl
theorem wV{n d:Nat}{aa:Int}{x:Nd}:frz n H (d+1) (nd aa x)=some (nd aa x):=by rcases x with(x|x|x)|x|x|x<;>rfl
theorem yZ{aa:Int}{x:Nd}:NR (nd aa x):=by
 rcases x with x|x|x|⟨n,s,c,ps,t⟩
 ·exact pq x
 ·exact dC (d:=8) rfl
 ·exact dC (d:=8) rfl
 ·refine .obj λv hv=>?_;simp only [List.mem_cons,List.not_mem_nil,or_false]at hv;rcases hv with rfl|rfl|rfl|rfl|rfl|rfl
  ·exact .int _
  ·exact .int _
  ·exact .int _
  ·exact dC (d:=8) rfl
  ·exact .int _
  ·exact .ad λy hy=>by obtain⟨p,-,rfl⟩:=List.mem_map.mp hy;exact pq p
theorem yk(d:Nat):Ap (aG tb (d+5)):=⟨λ{x aa H K} ok h0 k=>by
 refine aw rfl rfl ?_;have c1:=Pb d;have c2:=O6 d;have c3:=wT d;have c4:=Hk d;generalize aG tb (d+4)=C at*;rcases x with⟨l,h,d'⟩|⟨w,s,z,kk,so⟩|v
 ·obtain⟨a1,a2,a3,a4,a5,a6⟩:=ok;fail "x";refine c1.c a1 (by omega) a3 (by omega) a5 (by omega) ?_;fail "r";exact k
 ·obtain⟨a1,a2,a3,a4,a5,a6,a7,a8⟩:=ok
  cases h0;fail "x";refine c2.c a1 (by omega) a3 (by omega) a5 a6 a7 (by omega) ?_;fail "x";refine c3.c (.inl rfl) ?_;fail "r";exact k
 ·obtain⟨a1,a2⟩:=ok;fail "x";refine c4.c a1 a2 ?_;fail "r";exact k⟩
theorem nQ{C:CT}(c30:Ap C){y0 y1 y2:Option V}{aa:Int}{H:Hp}{K:List V->Hp->Prop}:∀(xs:List aA) (acc:List V),(∀p∈xs,okP p)->(∀p∈xs,wU p)->K (acc++xs.map ci) H->
  bN (ec [y0,some (.int aa),y2] (.one 2)) (λρ1 H2=>bI tb C (.fn 30 (.cons (.ac 2) (.cons (.ac 1) .nil))) ρ1 H2) (λρ1 H2=>cm tb C .nil ρ1 H2) (λ_=>True) (xs.map aQ) acc H K
 | [],acc,h1,h2,k=>⟨trivial,by simpa using k⟩
 |x::xs,acc,h1,h2,k=>⟨trivial,by
   have ih:=nQ (C:=C) c30 (y0:=y0) (y1:=y1) (y2:=y2) (aa:=aa) (H:=H) (K:=K) xs (acc++[ci x]) (λp hp=>h1 p (.tail _ hp)) (λp hp=>h2 p (.tail _ hp)) (by simpa using k);fail "x";refine c30.c (h1 _ (.head _)) (h2 _ (.head _)) ?_;exact ih⟩
structure HW(C:CT):Prop where c:∀{x:Nd} {N:Nat} {aa:Int} {H:Hp} {K:V->Hp->Prop},N<=100->bV N x->Hq x->0<=aa->aa<=100000->K (nd aa x) H->C 30 [aP x,.int aa] H K
theorem mi{N:Nat}(h:∀p∈ps,okP p)(hl:ps.length<=N):0<=be ps/\be ps<=40000*N:=by
 have:=jx (N:=0) (xs:=ps.map .pt) λx hx=>by obtain⟨p,hp,rfl⟩:=List.mem_map.mp hx;exact h p hp
 rw [List.length_map]at this;unfold be;omega
theorem Tr(d:Nat):HW (aG tb (d+6)):=⟨λ{x N aa H K} hN ok h0 hd0 hd1 k=>by
 rcases x with x|w|c|⟨n,s,c,ps,t⟩
 ·exact(yk (d+1)).c ok h0 k
 all_goals
  refine aw rfl rfl ?_;have c30:=yk d;have c1:=Hi (d+1);have c2:=Hm (d+1);have c3:=O8 (d+1);have c4:=Hn (d+1);generalize aG tb (d+5)=C at*
 ·obtain⟨a1,a2⟩:=ok;fail "x";refine c1.c a1 (by omega) ?_;fail "r";exact k
 ·fail "x";refine c2.c ?_;fail "r";exact k
 ·obtain⟨hn,hs,hc0,hc1,hps,hpl,ht0,ht1⟩:=ok;have hsb:=mi hps hpl;have hs0:0<=s:=by omega
  have hs1:s<=10000000:=by omega
  fail "x";refine c3.c ht0 (by omega) ?_;fail "x";refine bY.mk ?_;refine nQ c30 (y1:=none) ps [] hps h0 ?_;fail "x";refine c4.c (by omega) (by omega) hs0 hs1 hd0 hd1 hc0 hc1 ?_;fail "r";exact dH (wV (x:=.i n s c ps t)) yZ (cX k)⟩
structure Tt(C:CT):Prop where c:∀{w s k:Int} {z:Nat} {H:Hp} {K:V->Hp->Prop},K (.ao [.int w,.int s,.int z,.int k,.int 0]) H->C 46 [gl w s z k] H K
theorem Tv(d:Nat):Tt (aG tb (d+1)):=⟨λ{w s k z H K} kk=>by
 refine aw rfl rfl ?_;generalize aG tb d=C at*;fail "r";exact kk⟩
structure Hr(C:CT):Prop where c:∀{x:aA} {H:Hp} {K:V->Hp->Prop},K (aQ x) H->C 31 [ci x] H K
theorem Hs(d:Nat):Hr (aG tb (d+2)):=⟨λ{x H K} k=>by
 refine aw rfl rfl ?_;have c46:=Tv d;generalize aG tb (d+1)=C at*;rcases x with⟨l,h,d'⟩|⟨w,s,z,kk,so⟩|v
 ·fail "r";exact k
 ·fail "x";refine c46.c ?_;fail "x";refine av.mk (by show _<=10000000;simp;decide) ?_;fail "r";exact k
 ·fail "r";exact k⟩
theorem nR{C:CT}(c31:Hr C){y0 y1:Option V}{H:Hp}{K:List V->Hp->Prop}:∀(xs:List aA) (acc:List V),K (acc++xs.map aQ) H->
  bN (ec [y0,y1] (.one 1)) (λρ1 H2=>bI tb C (.fn 31 (.cons (.ac 1) .nil)) ρ1 H2) (λρ1 H2=>cm tb C .nil ρ1 H2) (λ_=>True) (xs.map ci) acc H K
 | [],acc,k=>⟨trivial,by simpa using k⟩
 |x::xs,acc,k=>⟨trivial,by
   have ih:=nR (C:=C) c31 (y0:=y0) (y1:=y1) (H:=H) (K:=K) xs (acc++[aQ x]) (by simpa using k);fail "x";refine c31.c ?_;exact ih⟩
structure HX(C:CT):Prop where c:∀{x:Nd} {aa:Int} {H:Hp} {K:V->Hp->Prop},K (aP x) H->C 31 [nd aa x] H K
theorem Qp(d:Nat):HX (aG tb (d+3)):=⟨λ{x aa H K} k=>by
 rcases x with x|w|c|⟨n,s,c,ps,t⟩
 ·exact(Hs (d+1)).c k
 all_goals
  refine aw rfl rfl ?_;have c31:=Hs d;generalize aG tb (d+2)=C at*
 ·fail "r";exact k
 ·fail "r";exact k
 ·fail "x";refine bY.mk ?_;refine nR c31 ps [] ?_;fail "r";exact dH (wN (d:=4) (.i n s c ps t)) (wJ _) (cX k)⟩
end
section
structure Cm where
 h:Int
 d:Int
 st:List Int
 sh:Int
def cH(H:Hp)(c:Cm):Hp:=H++[.inst 7 [some (.int c.h),some (.int c.d),some (.ref (H.length+1)),some (.int c.sh)],.ad (c.st.map .int)]
section
variable {H:Hp}{h d sh:Int}{st:List Int}
theorem AZ{K:CO->Prop}(k:K (.inst 7 [some (.int h),some (.int d),some (.ref (H.length+1)),some (.int sh)])):bL (cH H ⟨h,d,st,sh⟩) H.length K:=⟨⟨_,by unfold cH;rw [List.getElem?_append_right (Nat.le_refl _),Nat.sub_self];rfl,k⟩⟩
theorem A3{K:CO->Prop}(k:K (.ad (st.map .int))):bL (cH H ⟨h,d,st,sh⟩) (H.length+1) K:=⟨⟨_,by unfold cH;rw [List.getElem?_append_right (by omega),show H.length+1-H.length=1 by omega];rfl,k⟩⟩
theorem Pd{h2 d2 sh2:Int}:(cH H ⟨h,d,st,sh⟩).set H.length (.inst 7 [some (.int h2),some (.int d2),some (.ref (H.length+1)),some (.int sh2)])=cH H ⟨h2,d2,st,sh2⟩:=by
 unfold cH;rw [List.set_append_right _ _ (Nat.le_refl _),Nat.sub_self];rfl
theorem Tw{st2:List Int}:(cH H ⟨h,d,st,sh⟩).set (H.length+1) (.ad (st2.map .int))=cH H ⟨h,d,st2,sh⟩:=by
 unfold cH;rw [List.set_append_right _ _ (by omega),show H.length+1-H.length=1 by omega];rfl
theorem Pe{x:Int}:(cH H ⟨h,d,st,sh⟩).set H.length (.inst 7 ([some (.int h),some (.int d),some (.ref (H.length+1)),some (.int sh)].set 0 (some (.int x))))=cH H ⟨x,d,st,sh⟩:=Pd
theorem Pf{x:Int}:(cH H ⟨h,d,st,sh⟩).set H.length (.inst 7 ([some (.int h),some (.int d),some (.ref (H.length+1)),some (.int sh)].set 1 (some (.int x))))=cH H ⟨h,x,st,sh⟩:=Pd
theorem Pg{x:Int}:(cH H ⟨h,d,st,sh⟩).set H.length (.inst 7 ([some (.int h),some (.int d),some (.ref (H.length+1)),some (.int sh)].set 3 (some (.int x))))=cH H ⟨h,d,st,x⟩:=Pd
variable {c:Cm}
theorem wW{K:Prop}(k:K):av ((cH H c).take H.length=H) K:=⟨List.take_left' rfl,k⟩
end
theorem jc{n m:Nat}{K:Prop}(h:Nat.blt n m=true)(k:K):av (n<m) K:=⟨Nat.le_of_ble_eq_true h,k⟩
local macro_rules | `(tactic| fail "c") => `(tactic| first
 |refine jc rfl ?_
 |with_reducible refine AZ ?_
 |with_reducible refine A3 ?_
 |rw [Pe]|rw [Pf]|rw [Pg]|rw [Tw])
structure HY(C:CT):Prop where c:∀{c:Cm} {l h d:Int} {H:Hp} {K:V->Hp->Prop},K .none (cH H ⟨c.h+c.d+h,d,c.st,c.sh⟩)->C 54 [.ref H.length,ci (.b l h d)] (cH H c) K
theorem Tx(d:Nat):HY (aG tb (d+1)):=⟨λ{c l h d' H K} k=>by
 refine aw rfl rfl ?_;generalize aG tb d=C at*;fail "r";exact k⟩
def qU(md:Int)(c:Cm):Cm:=if md<c.d then⟨c.h+c.d-md,md,c.st,c.sh⟩else c
structure HZ(C:CT):Prop where c:∀{c:Cm} {md:Int} {H:Hp} {K:V->Hp->Prop},K .none (cH H (qU md c))->C 55 [.ref H.length,.int md] (cH H c) K
theorem Ty(d:Nat):HZ (aG tb (d+1)):=⟨λ{c md H K} k=>by
 refine aw rfl rfl ?_;generalize aG tb d=C at*;fail "r"
 ·rename_i hb;simp only [qU,if_pos hb]at k;exact k
 ·rename_i hb;simp only [qU,if_neg (Int.not_lt.mpr hb)]at k;exact k⟩
structure Ia(C:CT):Prop where c:∀{c:Cm} {w s k so:Int} {z:Nat} {H:Hp} {K:V->Hp->Prop},c.st.length=4->z<4->K .none (cH H ⟨c.h+c.d+w,0,c.st.set z (c.st.getD z 0+s),c.sh+k⟩)->C 56 [.ref H.length,ci (.g w s z k so)] (cH H c) K
theorem Tz(d:Nat):Ia (aG tb (d+1)):=⟨λ{c w s k so z H K} h4 hz kk=>by
 refine aw rfl rfl ?_;generalize aG tb d=C at*;fail "r";exact kk⟩
def nS(c:Cm)(ae:Int):Int:=
 if c.h<ae then(if c.st.getD 1 0≠0\/c.st.getD 2 0≠0\/c.st.getD 3 0≠0 then 0 else nF (ae-c.h) (c.st.getD 0 0))
 else if c.sh<c.h-ae then 1073741823 else nF (c.h-ae) c.sh
structure Ph(c:Cm)(ae:Int):Prop where
 h4:c.st.length=4
 s0:c.st.getD 0 0<2^30
 sh:c.sh<=7230584
 g:ae-c.h<=7230584
local macro_rules | `(tactic| fail "c") => `(tactic| first
 |refine jc rfl ?_
 |with_reducible refine AZ ?_
 |with_reducible refine A3 ?_
 |with_reducible refine S5.c (by assumption) (by omega) (by omega) (by omega) ?_)
structure Qq(C:CT):Prop where c:∀{c:Cm} {ae:Int} {H:Hp} {K:V->Hp->Prop},Ph c ae->K (.int (nS c ae)) (cH H c)->C 57 [.ref H.length,.int ae] (cH H c) K
theorem TB(d:Nat):Qq (aG tb (d+2)):=⟨λ{c ae H K} b k=>by
 refine aw rfl rfl ?_;have c5:=s5 d;generalize aG tb (d+1)=C at*;obtain⟨h,dd,st,sh⟩:=c;obtain⟨h4,h0,hs,hg⟩:=b;obtain⟨s0,s1,s2,s3,rfl⟩:=Ah h4;have h0:s0<2^30:=h0;have hs:sh<=7230584:=hs;have hg:ae-h<=7230584:=hg;fail "r";all_goals(refine nE k (congrArg V.int ?_);simp only [nS,List.getD_cons_zero,List.getD_cons_succ];(repeat' split)<;>first|rfl|(exfalso;omega))⟩
theorem Pj{e t:Int}(he:0<=e)(ht:t<2^30):0<=nF e t:=by
 unfold nF;split
 ·omega
 split
 ·omega
 split
 ·omega
 ·have hr:0<=(e*297).fdiv t:=Int.fdiv_nonneg (by omega) (by omega);exact Int.fdiv_nonneg (by have:=Int.mul_nonneg (Int.mul_nonneg hr hr) hr;omega) (by omega)
theorem jX{e t:Int}(he:0<e):(nF e t=10000/\1290<(if 0<t then(297*e).fdiv t else 1291))\/(nF e t<10000/\(if 0<t then(297*e).fdiv t else 1291)<=1290/\nF e t=((if 0<t then(297*e).fdiv t else 1291)^3+131072).fdiv 262144):=by
 unfold nF;rw [if_neg (by omega)];by_cases ht:t<=0
 ·left;rw [if_pos ht,if_neg (by omega)];exact⟨rfl,by omega⟩
 ·have h0:0<t:=by omega
  rw [if_neg ht,if_pos h0,show 297*e=e*297 by omega];have hr:0<=(e*297).fdiv t:=Int.fdiv_nonneg (by omega) (by omega);generalize(e*297).fdiv t=r at*;by_cases h:1290<r
  ·left;rw [if_pos h];exact⟨rfl,h⟩
  ·right;rw [if_neg h];have e3:r*r*r=r^3:=by rw [Int.pow_succ,Int.pow_succ,Int.pow_succ,Int.pow_zero,Int.one_mul]
   rw [e3];refine⟨?_,by omega,rfl⟩;have h1:r*r<=1290*1290:=Int.mul_le_mul (by omega) (by omega) hr (by omega);have h2:r*r*r<=1290*1290*1290:=Int.mul_le_mul h1 (by omega) hr (by omega);rw [←e3,Int.fdiv_eq_ediv_of_nonneg _ (by omega)];omega
def Ib(tall ae:Int)(st:List Int)(sh price extra:Int):Int:=
 if(ae<=tall/\sh<tall-ae)\/10000<=extra then 1073741823
 else if price<=-10000 then price
 else
  let b:=if ae<=tall then nF (tall-ae) sh else if st.getD 1 0≠0\/st.getD 2 0≠0\/st.getD 3 0≠0 then 0 else nF (ae-tall) (st.getD 0 0)
  if b<10000 then b+price+extra else 100000
theorem tS{tall ae:Int}{st:List Int}{sh price extra:Int}:rB tall ae st sh price extra=Ib tall ae st sh price extra:=by
 unfold rB Ib;by_cases hgt:ae<=tall
 ·have e1:((ae-tall).natAbs:Int)=tall-ae:=by omega
  simp only [e1,if_neg (show¬tall<ae by omega)];by_cases h1:(ae<=tall/\sh<tall-ae)\/10000<=extra
  ·rw [if_pos h1,if_pos h1];rfl
  rw [if_neg h1,if_neg h1];by_cases h2:price<=-10000
  ·rw [if_pos h2,if_pos h2]
  rw [if_neg h2,if_neg h2,if_pos hgt];by_cases h3:tall-ae=0
  ·rw [if_pos (.inl h3)];have:nF (tall-ae) sh=0:=by unfold nF;rw [if_pos h3]
   rw [this];simp
  ·rw [if_neg (by rintro (h|h)<;>omega)];rcases jX (e:=tall-ae) (t:=sh) (by omega)with⟨a,b⟩|⟨a,b,e⟩
   ·rw [a,if_neg (by omega),if_neg (by omega)]
   ·rw [if_pos b,if_pos a,e]
 ·have e1:((ae-tall).natAbs:Int)=ae-tall:=by omega
  simp only [e1,if_pos (show tall<ae by omega)];have:((ae<=tall/\sh<ae-tall)\/10000<=extra)↔10000<=extra:=by constructor<;>intro h<;>omega
  have h0:((ae<=tall/\sh<tall-ae)\/10000<=extra)↔10000<=extra:=by constructor<;>intro h<;>omega
  rw [if_neg hgt];by_cases h1:10000<=extra
  ·rw [if_pos (.inr h1),if_pos (.inr h1)];rfl
  rw [if_neg (show¬((ae<=tall/\sh<ae-tall)\/10000<=extra)by omega),if_neg (show¬((ae<=tall/\sh<tall-ae)\/10000<=extra)by omega)];by_cases h2:price<=-10000
  ·rw [if_pos h2,if_pos h2]
  rw [if_neg h2,if_neg h2];by_cases h3:st.getD 1 0≠0\/st.getD 2 0≠0\/st.getD 3 0≠0
  ·rw [if_pos (.inr ⟨by omega,h3⟩),if_pos h3];simp
  ·rw [if_neg (by rintro (h|h)<;>first|omega|exact h3 h.2),if_neg h3];rcases jX (e:=ae-tall) (t:=st.getD 0 0) (by omega)with⟨a,b⟩|⟨a,b,e⟩
   ·rw [a,if_neg (by omega),if_neg (by omega)]
   ·rw [if_pos b,if_pos a,e]
theorem wX{e t:Int}:nF e t<=10000\/nF e t=0:=by
 by_cases h:e<=0
 ·by_cases h0:e=0
  ·right;unfold nF;rw [if_pos h0]
  ·left;unfold nF;rw [if_neg h0];split
   ·omega
   split
   ·omega
   ·rename_i h1 h2;have hr:(e*297).fdiv t<=0:=by
     rw [Int.fdiv_eq_ediv_of_nonneg _ (by omega)];have:=Int.ediv_le_ediv (a:=e*297) (b:=0) (c:=t) (by omega) (by omega);simpa using this
    generalize(e*297).fdiv t=r at*;rw [Int.fdiv_eq_ediv_of_nonneg _ (by omega)];have h3:0<=r*r:=by have:=Int.mul_nonneg (a:= -r) (b:= -r) (by omega) (by omega);rw [Int.neg_mul_neg]at this;exact this
    have h4:r*r*r<=0:=Int.mul_nonpos_of_nonneg_of_nonpos h3 hr;omega
 ·rcases jX (e:=e) (t:=t) (by omega)with⟨a,b⟩|⟨a,b,c⟩<;>left<;>omega
local macro_rules | `(tactic| fail "c") => `(tactic| first
 |with_reducible refine AZ ?_
 |with_reducible refine A3 ?_
 |with_reducible refine wW ?_
 |with_reducible refine Qq.c (by assumption) (by assumption) ?_)
structure Qr(C:CT):Prop where c:∀{c:Cm} {ae price:Int} {H:Hp} {K:V->Hp->Prop},Ph c ae->K (.int (rB c.h ae c.st c.sh price 0)) (cH H c)->C 12 [.ref H.length,.int ae,.int price] (cH H c) K
theorem TC(d:Nat):Qr (aG tb (d+3)):=⟨λ{c ae price H K} b k=>by
 refine aw rfl rfl ?_;have c57:=TB d;generalize aG tb (d+2)=C at*;rw [tS]at k;have hcc:nS c ae=1073741823↔ae<=c.h/\c.sh<c.h-ae:=by
  unfold nS;have b1:=wX (e:=ae-c.h) (t:=c.st.getD 0 0);have b2:=wX (e:=c.h-ae) (t:=c.sh)
  (repeat' split)<;>constructor<;>intro h<;>omega
 fail "r";all_goals(refine nE k (congrArg V.int ?_);unfold Ib)
 ·rename_i hb;rw [if_pos (.inl (hcc.mp hb))]
 ·rename_i hb hp;rw [if_neg (by intro h;rcases h with h|h;exact hb (hcc.mpr h);omega),if_pos hp]
 all_goals
  rename_i hb hp hq;rw [if_neg (by intro h;rcases h with h|h;exact hb (hcc.mpr h);omega),if_neg (by omega)];have e:nS c ae=(if ae<=c.h then nF (c.h-ae) c.sh else if c.st.getD 1 0≠0\/c.st.getD 2 0≠0\/c.st.getD 3 0≠0 then 0 else nF (ae-c.h) (c.st.getD 0 0)):=by
   have hn:¬(ae<=c.h/\c.sh<c.h-ae):=λh=>hb (hcc.mpr h);unfold nS;by_cases h:c.h<ae
   ·have h2:¬ae<=c.h:=by omega
    rw [if_pos h,if_neg h2]
   ·have h2:ae<=c.h:=by omega
    have h3:¬c.sh<c.h-ae:=λh=>hn ⟨h2,h⟩;rw [if_neg h,if_pos h2,if_neg h3]
  rw [←e]
 ·show _=if _ then _ else _
  rw [if_pos (by omega)];omega
 ·show _=if _ then _ else _
  rw [if_neg (by omega)]⟩
end
section
theorem pr{x l:CO}{K:CO->Prop}(k:K x):bL ((H++[x])++[l]) H.length K:=⟨⟨x,by rw [List.getElem?_append_left (by simp)];exact bP,k⟩⟩
theorem px{x l:CO}:((H++[x])++[l]).set H.length y=(H++[y])++[l]:=by rw [List.set_append_left _ _ (by simp),cA]
local macro_rules | `(tactic| fail "c") => `(tactic| first
 |refine jc rfl ?_
 |with_reducible refine pr ?_
 |rw [cA]|rw [px])
structure Ht(C:CT):Prop where c:∀{H:Hp} {K:V->Hp->Prop},K (.ref H.length) (cH H ⟨0,0,[0,0,0,0],0⟩)->C 1007 [] H K
theorem Pk(d:Nat):Ht (aG tb (d+2)):=⟨λ{H K} k=>by
 refine cN (c:=7) rfl rfl rfl rfl ?_;generalize aG tb d=C at*;fail "r";have e:cH H ⟨0,0,[0,0,0,0],0⟩=H++[.inst 7 [some (.int 0),some (.int 0),some (.ref (H.length+1)),some (.int 0)]]++[.ad [.int 0,.int 0,.int 0,.int 0]]:=by simp [cH]
 rw [e]at k;have e2:∀{x:CO},(H++[x]).length=H.length+1:=by simp
 simp only [e2];exact k⟩
theorem mj{C:CT}{y0:Option V}{ck:Hp->Prop}{H:Hp}{K:Fl->aE->Hp->Prop}(hc:ck H):∀(ps:List aA) (x1:Option V),(∀x1,K .next [y0,x1] H)->
  ba (λρ=>ec ρ (.one 1)) (λρ H=>aM tb C eY ρ H) ck (ps.map ci) [y0,x1] H K
 | [],x1,k=>⟨hc,k _⟩
 |p::ps,x1,k=>by
  refine⟨hc,?_⟩;have ih:=λx1=>mj (C:=C) (y0:=y0) hc ps x1 k;rcases p with p|p|p;all_goals
   fail "r";exact ih _
structure Qs(C:CT):Prop where c:∀{ps:List aA} {H:Hp} {K:V->Hp->Prop},K .none H->C 10 [.ad (ps.map ci)] H K
theorem TD(d:Nat):Qs (aG tb (d+1)):=⟨λ{ps H K} k=>by
 refine aw rfl rfl ?_;generalize aG tb d=C at*;fail "r";refine ed.mk ?_;refine mj trivial ps _ λx1=>?_;fail "r";exact k⟩
def Hu:Option Int->V
 |none=>.none
 |some i=>.int i
def yl:Option aA->Bool
 |some (.b ..)=>true
 |_=>false
def fW(ps:List aA)(n:Nat):Option Int:=if n=ps.length then some (-10000)else match ps[n]? with
 |some (.p v)=>some v
 |some (.g ..)=>if 0<n/\yl ps[n-1]?=true then some 0 else none
 |_=>none
theorem hZ{xs:List aA}{n:Nat}{i:Int}{x:aA}(e:i=n)(h:xs[n]?=some x){K:V->Prop}(k:K (ci x)):aS (dm (xs.map ci) i) K:=by
 subst e;exact⟨⟨ci x,by show(xs.map ci)[n]?=_;rw [List.getElem?_map,h];rfl,k⟩⟩
theorem Hv{K:V->Hp->Prop}{v':V}(h:K v' H)(e:v'=v):K v H:=e▸h
structure Qt(C:CT):Prop where c:∀{ps:List aA} {n:Nat} {H:Hp} {K:V->Hp->Prop},n<=ps.length->K (Hu (fW ps n)) H->C 11 [.ad (ps.map ci),.int n] H K
theorem TE(d:Nat):Qt (aG tb (d+3)):=⟨λ{ps n H K} hn k=>by
 refine aw rfl rfl ?_;have c9:=s9 d;generalize aG tb (d+2)=C at*;have hlm:(ps.map ci).length=ps.length:=List.length_map ..;by_cases hn2:n=ps.length
 ·unfold fW at k;rw [if_pos hn2]at k;fail "r";exact k
 ·obtain⟨x,hx⟩:∃x,ps[n]?=some x:=⟨_,List.getElem?_eq_getElem (by omega)⟩
  unfold fW at k;rw [if_neg hn2,hx]at k;fail "x";refine hZ rfl hx ?_;rcases x with⟨l,h,d'⟩|⟨w,s,z,kk,so⟩|v
  ·fail "r";exact k
  ·fail "r"
   ·rename_i hb;obtain⟨y,hy⟩:∃y,ps[n-1]?=some y:=⟨_,List.getElem?_eq_getElem (by omega)⟩
    fail "v";refine hZ (n:=n-1) (by omega) hy ?_;simp only [hy]at k;refine c9.c (aa:=0) (x:=.pt y) ?_;rcases y with y|y|y;all_goals
     fail "r";exact Hv k (by simp [yl];first|rfl|omega|(split<;>first|rfl|omega))
   ·exact Hv k (by rw [if_neg (by omega)];rfl)
  ·fail "r";exact k⟩
def fX(aa:Int)(ps:List aA)(a:Nat):Cm:=
 ⟨size ((ps.take a).map .pt)-(ay aa ((ps.take a).map .pt)).dp,(ay aa ((ps.take a).map .pt)).dp,(ay aa ((ps.take a).map .pt)).st,(ay aa ((ps.take a).map .pt)).sh⟩
theorem jC:∀{xs ys:List Nd},size (xs++ys)=size xs+size ys
 | [],ys=>by simp [size]
 |x::xs,ys=>by show sz x+size (xs++ys)=sz x+size xs+size ys;rw [jC];omega
theorem aN{aa:Int}{xs:List Nd}{x:Nd}:ay aa (xs++[x])=aT aa (ay aa xs) x:=by unfold ay;rw [List.foldl_append];rfl
theorem uS{α:Type}{xs:List α}{n:Nat}{x:α}(h:xs[n]?=some x):xs.take (n+1)=xs.take n++[x]:=by
 rw [List.take_add_one,h];rfl
theorem ym{aa:Int}{a:Nat}{x:aA}(h:ps[a]?=some x):fX aa ps (a+1)=
  ⟨size ((ps.take a).map .pt)+sz (.pt x)-(aT aa (ay aa ((ps.take a).map .pt)) (.pt x)).dp,(aT aa (ay aa ((ps.take a).map .pt)) (.pt x)).dp,(aT aa (ay aa ((ps.take a).map .pt)) (.pt x)).st,(aT aa (ay aa ((ps.take a).map .pt)) (.pt x)).sh⟩:=by
 unfold fX;rw [uS h,List.map_append,List.map_singleton,aN,jC];simp [size]
theorem wY{aa:Int}(hd:0<=aa):∀{xs:List Nd} {c:vy},c.dp<=aa->(xs.foldl (aT aa) c).dp<=aa
 | [],c,h=>h
 |x::xs,c,h=>by
  refine wY hd (xs:=xs) (c:=aT aa c x) ?_;rcases x with(x|x|x)|x|x|x
  ·show min _ aa<=aa;omega
  ·exact hd
  ·exact h
  ·exact hd
  ·exact h
  ·exact h
theorem qV{md:Int}{c:Cm}(h:c.d<=md):qU md c=c:=if_neg (by omega)
theorem qW{a:Nat}(h:a≠ps.length):pen (ps.map .pt) a=(fW ps a).getD 10000:=by
 unfold fW pen;rw [if_neg h,List.getElem?_map]
 cases hx:ps[a]? with
 |none=>rfl
 |some x=>
  rcases x with x|x|x
  ·rfl
  ·show(if 0<a/\ky (ps.map Nd.pt)[a-1]?=true then(0:Int)else 10000)=(if 0<a/\yl ps[a-1]?=true then some (0:Int)else none).getD 10000;rw [List.getElem?_map];have e:ky (ps[a-1]?.map Nd.pt)=yl ps[a-1]?:=by
    cases ps[a-1]? with
    |none=>rfl
    |some y=>rcases y with y|y|y<;>rfl
   rw [e];split<;>rfl
  ·rfl
theorem Aq{a:Nat}:fW ps a=none\/∃p,fW ps a=some p:=by cases fW ps a with|none=>exact .inl rfl|some p=>exact .inr ⟨p,rfl⟩
end
section
theorem yn{a:Nat}{p:Int}(h:fW ps a=some p)(hp: -10000<p):a<ps.length:=by
 unfold fW at h;split at h
 ·cases h;omega
 ·split at h<;>first|(rename_i hx;exact(List.getElem?_eq_some_iff.mp hx).1)|cases h
theorem nT{a:Nat}(h:fW ps a=none):a≠ps.length:=by
 intro e;unfold fW at h;rw [if_pos e]at h;cases h
theorem qX{aa:Int}{a m ag:Nat}{least:Int}{p:Int}(hb:fW ps a=some p)(hp:p<10000){aq:Int}(hc:rB (fX aa ps a).h room (fX aa ps a).st (fX aa ps a).sh p 0=aq):
  bD (ps.map .pt) room aa (List.range' a (m+1)) ag least=if aq=2^30-1\/p<=-10000 then(if aq<=least then a else ag)else bD (ps.map .pt) room aa (List.range' (a+1) m) (if aq<=least then a else ag) (if aq<=least then aq else least):=by
 have e:(if a=(ps.map Nd.pt).length then-10000 else pen (ps.map .pt) a)=p:=by
  rw [List.length_map];by_cases h:a=ps.length
  ·rw [if_pos h];unfold fW at hb;rw [if_pos h]at hb;cases hb;rfl
  ·rw [if_neg h,qW h,hb];rfl
 have hc2:rB (size ((ps.map Nd.pt).take a)-(ay aa ((ps.map Nd.pt).take a)).dp) room (ay aa ((ps.map Nd.pt).take a)).st (ay aa ((ps.map Nd.pt).take a)).sh p 0=aq:=by rw [←List.map_take];exact hc
 rw [show List.range' a (m+1)=a::List.range' (a+1) m from rfl];conv=>lhs;unfold bD
 simp only [e,if_pos hp,hc2]
theorem kG{aa:Int}{a m ag:Nat}{least:Int}(hb:fW ps a=none\/∃p,fW ps a=some p/\10000<=p):
  bD (ps.map .pt) room aa (List.range' a (m+1)) ag least=bD (ps.map .pt) room aa (List.range' (a+1) m) ag least:=by
 have h:a≠ps.length:=by
  rcases hb with h|⟨p,h,hp⟩
  ·exact nT h
  ·intro e;unfold fW at h;rw [if_pos e]at h;cases h;omega
 rw [show List.range' a (m+1)=a::List.range' (a+1) m from rfl];have e:¬(if a=(ps.map Nd.pt).length then-10000 else pen (ps.map .pt) a)<10000:=by
  rw [List.length_map,if_neg h,qW h];rcases hb with hb|⟨p,hb,hp⟩
  ·rw [hb];decide
  ·rw [hb];show¬p<10000;omega
 conv=>lhs;unfold bD
 simp only [if_neg e]
theorem za{aa:Int}(hd:0<=aa)(h:∀p∈ps,okP p)(a:Nat):l0 (ay aa ((ps.take a).map .pt)) ((ps.take a).map Nd.pt).length:=
 ph (N:=0) hd λx hx=>by obtain⟨p,hp,rfl⟩:=List.mem_map.mp hx;exact h p (List.mem_of_mem_take hp)
theorem Pl{aa:Int}(hd:0<=aa)(h:∀p∈ps,okP p)(hl:ps.length<=50)(hr:room<=1000000)(a:Nat):Ph (fX aa ps a) room:=by
 have b:=za hd h a;have hle:((ps.take a).map Nd.pt).length<=50:=by rw [List.length_map,List.length_take];omega
 have hs:=(jx (N:=0) (xs:=(ps.take a).map .pt) λx hx=>by obtain⟨p,hp,rfl⟩:=List.mem_map.mp hx;exact h p (List.mem_of_mem_take hp)).1;refine⟨b.len,?_,?_,?_⟩
 ·have:=b.st 0;show(ay aa ((ps.take a).map .pt)).st.getD 0 0<2^30;omega
 ·have:=b.sh;show(ay aa ((ps.take a).map .pt)).sh<=7230584;omega
 ·have:=b.dp;show room-(size ((ps.take a).map .pt)-(ay aa ((ps.take a).map .pt)).dp)<=7230584;omega
theorem Ic{l h d:Int}:True:=trivial
def sE:aU:=match cf with
 |.cons _ (.cons _ t)=>t
 |_=>.nil
local macro_rules | `(tactic| fail "c") => `(tactic| first
 |with_reducible refine AZ ?_
 |with_reducible refine A3 ?_
 |with_reducible refine HY.c (by assumption) ?_
 |with_reducible refine HZ.c (by assumption) ?_
 |with_reducible refine Ia.c (by assumption) (by assumption) (by assumption) ?_)
theorem py(c54:HY C)(c55:HZ C)(c56:Ia C){aa:Int}(hd:0<=aa)(hps:∀p∈ps,okP p){a:Nat}(ha:a<ps.length)
  (k:∀x9,K .next [some (.ad (ps.map ci)),some (.int room),some (.int aa),some (.ref H.length),some (.int a),x5,x6,x7,x8,x9,x10] (cH H (fX aa ps (a+1)))):
  aM tb C sE [some (.ad (ps.map ci)),some (.int room),some (.int aa),some (.ref H.length),some (.int a),x5,x6,x7,x8,x9,x10] (cH H (fX aa ps a)) K:=by
 obtain⟨x,hx⟩:∃x,ps[a]?=some x:=⟨_,List.getElem?_eq_getElem ha⟩
 have b:=za hd hps a;have k:=k (some (ci x));rw [ym hx]at k;have hok:=hps x (List.mem_of_getElem? hx);have hdp:(ay aa ((ps.take a).map .pt)).dp<=aa:=wY hd (by exact hd);fail "v";refine hZ rfl hx ?_;unfold fX;generalize ay aa ((ps.take a).map .pt)=c at*;obtain⟨st,sh,dp⟩:=c;have h4:st.length=4:=b.len;dsimp only at hdp;rcases x with⟨l,h,d'⟩|⟨w,s,z,kk,so⟩|v
 ·fail "r";dsimp only at k⊢;refine Eq.mp ?_ k
  congr 2
  unfold qU;dsimp only [aT,sz,uH];by_cases h1:aa<d'
  ·rw [if_pos h1];simp only [Cm.mk.injEq,true_and,and_true];constructor<;>omega
  ·rw [if_neg h1];simp only [Cm.mk.injEq,true_and,and_true];constructor<;>omega
 ·have hz:z<4:=hok.2.2.2.2.1;fail "r";dsimp only at k⊢;refine Eq.mp ?_ k
  congr 2
  rw [qV (show(0:Int)<=aa from hd)];dsimp only [aT,sz,uH];simp only [Cm.mk.injEq,true_and,and_true];omega
 ·fail "r";dsimp only at k⊢;refine Eq.mp ?_ k
  congr 2
  rw [qV (show dp<=aa from hdp)];dsimp only [aT,sz,uH];simp only [Cm.mk.injEq,true_and,and_true];omega
local macro_rules | `(tactic| fail "c") => `(tactic| first
 |with_reducible refine AZ ?_
 |with_reducible refine A3 ?_
 |with_reducible refine wW ?_)
theorem nU{C:CT}(c11:Qt C)(c12:Qr C)(c54:HY C)(c55:HZ C)(c56:Ia C){ps:List aA}{room aa:Int}(hd:0<=aa)(hps:∀p∈ps,okP p)(hlen:ps.length<=50)(hroom:room<=1000000){H:Hp}{K:Fl->aE->Hp->Prop}:
  ∀(m a ag:Nat) (least s:Int) (x4 x8 x9 x10:Option V),a+m=ps.length+1->
  (∀x4 l s x8 x9 x10 a',K .next [some (.ad (ps.map ci)),some (.int room),some (.int aa),some (.ref H.length),x4,some (.int (bD (ps.map .pt) room aa (List.range' a m) ag least:Nat)),some (.int l),some (.int s),x8,x9,x10] (cH H (fX aa ps a')))->
  (∀ρ l s a',K (.ret (.ao [.int (bD (ps.map .pt) room aa (List.range' a m) ag least:Nat),.int l,.int s])) ρ (cH H (fX aa ps a')))->
  ba (λρ=>ec ρ (.one 4)) (λρ H=>aM tb C cf ρ H) (λ_=>True) (m0 (List.range' a m)) [some (.ad (ps.map ci)),some (.int room),some (.int aa),some (.ref H.length),x4,some (.int ag),some (.int least),some (.int s),x8,x9,x10] (cH H (fX aa ps a)) K
 |0,a,ag,least,s,x4,x8,x9,x10,hm,k,kr=>⟨trivial,k _ _ _ _ _ _ _⟩
 |m+1,a,ag,least,s,x4,x8,x9,x10,hm,k,kr=>by
  have B:=Pl hd hps hlen hroom a;have ih:=λag least s x4 x8 x9 x10=>nU c11 c12 c54 c55 c56 (room:=room) hd hps hlen hroom (H:=H) (K:=K) m (a+1) ag least s x4 x8 x9 x10 (by omega);have hpow:(2:Int)^Int.toNat 30-1=2^30-1:=rfl;refine⟨trivial,?_⟩;rw [show cf=(match cf with|.cons x (.cons y _)=>.cons x (.cons y sE)|t=>t)from rfl];generalize hT:sE=T at*;fail "v";refine c11.c (by omega) ?_;rcases hb:fW ps a with _|p
  ·have hne:=nT hb;rw [kG (.inl hb)]at k kr;fail "r";subst hT;refine py c54 c55 c56 hd hps (by omega) λx9=>?_;exact ih _ _ _ _ _ _ _ k kr
  ·by_cases hp:p<10000
   ·fail "x";refine c12.c B ?_;generalize hc:rB (fX aa ps a).h room (fX aa ps a).st (fX aa ps a).sh p 0=aq;rw [qX (ag:=ag) (least:=least) (m:=m) hb hp hc]at k kr;have hlt:=yn hb;have kr2:∀(b:Nat) ρ l s a',(if aq=2^30-1\/p<=-10000 then(if aq<=least then a else ag)else bD (ps.map .pt) room aa (List.range' (a+1) m) (if aq<=least then a else ag) (if aq<=least then aq else least))=b->K (.ret (.ao [.int (b:Nat),.int l,.int s])) ρ (cH H (fX aa ps a')):=λb ρ l s a' e=>by rw [e]at kr;exact kr ρ l s a'
    have ih2:∀(b:Nat) (l s:Int) (x4 x8 x9 x10:Option V),(if aq=2^30-1\/p<=-10000 then(if aq<=least then a else ag)else bD (ps.map .pt) room aa (List.range' (a+1) m) (if aq<=least then a else ag) (if aq<=least then aq else least))=bD (ps.map .pt) room aa (List.range' (a+1) m) b l->_:=
     λb l s x4 x8 x9 x10 e=>ih b l s x4 x8 x9 x10 (by rw [e]at k;exact k) (by rw [e]at kr;exact kr)
    unfold fX;fail "r";all_goals try (refine kr2 _ _ _ _ a ?_;(repeat' split)<;>first|rfl|(exfalso;omega))
    all_goals
     subst hT;refine py c54 c55 c56 hd hps (hlt (by omega)) λx9=>?_;refine ih2 _ _ _ _ _ _ _ ?_
     (repeat' split)<;>first|rfl|(exfalso;omega)
   ·rw [kG (.inr ⟨p,hb,by omega⟩)]at k kr;have hne:a≠ps.length:=by intro e;unfold fW at hb;rw [if_pos e]at hb;cases hb;omega
    fail "r";subst hT;refine py c54 c55 c56 hd hps (by omega) λx9=>?_;exact ih _ _ _ _ _ _ _ k kr
local macro_rules | `(tactic| fail "c") => `(tactic| first
 |with_reducible refine AZ ?_
 |with_reducible refine A3 ?_
 |with_reducible refine wW ?_
 |with_reducible refine Qs.c (by assumption) ?_
 |with_reducible refine S3.c (by assumption) (by omega) (by omega) ?_
 |with_reducible refine Ht.c (by assumption) ?_)
structure TF(C:CT):Prop where c:∀{ps:List aA} {room aa:Int} {H:Hp} {K:V->Hp->Prop},0<=aa->aa<=1000000->(∀p∈ps,okP p)->ps.length<=50->-(2^30-1)<=room->room<=1000000->(∀l s,K (.ao [.int (bA (ps.map .pt) room aa:Nat),.int l,.int s]) H)->C 13 [.ad (ps.map ci),.int room,.int aa] H K
theorem TG(d:Nat):TF (aG tb (d+4)):=⟨λ{ps room aa H K} hd hd2 hps hlen hr1 hr2 k=>by
 refine aw rfl rfl ?_;have c10:=TD (d+2);have c3:=s3 (d+1);have ccol:=Pk (d+1);have c11:=TE d;have c12:=TC d;have c54:=Tx (d+2);have c55:=Ty (d+2);have c56:=Tz (d+2);generalize aG tb (d+3)=C at*;have hlm:(ps.map ci).length=ps.length:=List.length_map ..;fail "r";rw [hlm,qF,List.range_eq_range'];refine ed.mk ?_;have e:cH H ⟨0,0,[0,0,0,0],0⟩=cH H (fX aa ps 0):=by simp [fX,ay,size]
 rw [e];have es:bD (ps.map .pt) room aa (List.range' 0 (ps.length+1)) ps.length 1073741823=bA (ps.map .pt) room aa:=by
  unfold bA;rw [List.length_map,List.range_eq_range'];rfl
 refine nU c11 c12 c54 c55 c56 hd hps hlen hr2 _ _ _ _ _ _ _ _ _ (by omega) (λx4 l s x8 x9 x10 a'=>?_) (λρ l s a'=>?_)
 ·rw [es];fail "r";exact k _ _
 ·rw [es];fail "r";exact k _ _⟩
structure Qu(C:CT):Prop where c:∀{ps:List aA} {room aa:Int} {H:Hp} {K:V->Hp->Prop},0<=aa->aa<=1000000->(∀p∈ps,okP p)->ps.length<=50->-(2^30-1)<=room->room<=1000000->(∀l,K (.ao [.int (bA (ps.map .pt) room aa:Nat),.int l]) H)->C 14 [.ad (ps.map ci),.int room,.int aa] H K
theorem TH(d:Nat):Qu (aG tb (d+5)):=⟨λ{ps room aa H K} hd hd2 hps hlen hr1 hr2 k=>by
 refine aw rfl rfl ?_;have c13:=TG d;generalize aG tb (d+4)=C at*;fail "v";refine c13.c hd hd2 hps hlen hr1 hr2 λl s=>?_;fail "r";exact k l⟩
end
section
theorem wZ{n d:Nat}:frz n H (d+1) (.ad (ps.map ci))=some (.ad (ps.map ci)):=rfl
theorem tT:NR (.ad (ps.map ci)):=.ad λy hy=>by obtain⟨p,-,rfl⟩:=List.mem_map.mp hy;exact pq p
local macro_rules | `(tactic| fail "c") => `(tactic| first
 |refine HV.c (by assumption) (by omega) (by omega) (by omega) (by omega) (by omega) (by omega) (by omega) (by omega) ?_
 |with_reducible refine wS.c (by assumption) (by omega) ?_)
theorem uT{n:Nat}:t9 (n:Int)=m0 (List.range n):=rfl
theorem kH{C:CT}(cg:HV C)(cs:wS C){ps:List aA}{t:Int}(ht0:0<=t)(ht1:t<=20000)(hps:∀p∈ps,okP p)(hlen:ps.length<=100){H:Hp}{K:Fl->aE->Hp->Prop}:
  ∀(m a:Nat) (x3 x4 x5 x6:Option V),a+m=ps.length->
  (aJ t (ps.drop a)=[]->∀x3 x4 x5 x6,K .next [some (.ad (ps.map ci)),some (gl t 0 0 0),some (.ref H.length),x3,x4,x5,x6] (H++[.ad []]))->
  (∀ρ,K (.ret (.ad ((aJ t (ps.drop a)).map ci))) ρ (H++[.ad []]))->
  ba (λρ=>ec ρ (.one 3)) (λρ H=>aM tb C kt ρ H) (λ_=>True) (m0 (List.range' a m)) [some (.ad (ps.map ci)),some (gl t 0 0 0),some (.ref H.length),x3,x4,x5,x6] (H++[.ad []]) K
 |0,a,x3,x4,x5,x6,hm,k,kr=>⟨trivial,k (by rw [List.drop_eq_nil_of_le (by omega)];rfl) _ _ _ _⟩
 |m+1,a,x3,x4,x5,x6,hm,k,kr=>by
  obtain⟨x,hx⟩:∃x,ps[a]?=some x:=⟨_,List.getElem?_eq_getElem (by omega)⟩
  have ih:=λx3 x4 x5 x6=>kH cg cs ht0 ht1 hps hlen (H:=H) (K:=K) m (a+1) x3 x4 x5 x6 (by omega);have hd:ps.drop a=x::ps.drop (a+1):=by
   obtain⟨h1,h2⟩:=List.getElem?_eq_some_iff.mp hx;rw [←h2];exact List.drop_eq_getElem_cons h1
  have hok:=hps x (List.mem_of_getElem? hx);refine⟨trivial,?_⟩;fail "v";refine hZ rfl hx ?_;rw [hd]at k kr;rcases x with⟨l,h,d'⟩|⟨w,s,z,kk,so⟩|v
  ·obtain⟨a1,a2,a3,a4,a5,a6⟩:=hok;fail "x";refine av.mk (by show _<=10000000;simp) ?_;fail "x";refine av.mk (by rw [map_drop (by omega)];show _<=10000000;simp;omega) ?_;rw [map_drop (by omega)];refine wK (kr _) ?_;rw [hd];simp only [aJ,List.map_cons,List.cons_append,List.nil_append,ci];rw [show max 0 (t-h)=max (t-h) 0 by omega];rfl
  ·fail "r";exact ih _ _ _ _ k kr
  ·fail "r";exact ih _ _ _ _ k kr
structure TJ(C:CT):Prop where c:∀{ps:List aA} {t:Int} {H:Hp} {K:V->Hp->Prop},0<=t->t<=20000->(∀p∈ps,okP p)->ps.length<=100->K (.ad ((aJ t ps).map ci)) H->C 15 [.ad (ps.map ci),gl t 0 0 0] H K
theorem TK(d:Nat):TJ (aG tb (d+5)):=⟨λ{ps t H K} ht0 ht1 hps hlen k=>by
 refine aw rfl rfl ?_;have cg:=O6 d;have cs:=wT d;generalize aG tb (d+4)=C at*;have hlm:(ps.map ci).length=ps.length:=List.length_map ..;fail "r";rw [hlm,uT,List.range_eq_range'];refine ed.mk ?_;refine kH cg cs ht0 ht1 hps hlen _ _ _ _ _ _ (by omega) (λe x3 x4 x5 x6=>?_) (λρ=>?_)
 ·rw [List.drop_zero]at e;rw [e]at k;fail "r";refine dH (u:=.ad []) ?_ (dC (d:=8) rfl) (dg k);show(if H.length<H.length then _ else _)=_;rw [if_neg (by omega),bP];rfl
 ·fail "r";exact dH wZ tT (dg k)⟩
local macro_rules | `(tactic| fail "c") => `(tactic| first
 |rw [cA]
 |refine aV rfl ?_
 |refine S0.c (by assumption) ?_
 |with_reducible refine S1.c (by assumption) ?_
 |with_reducible refine S2.c (by assumption) (by omega) (by omega) ?_
 |with_reducible refine S3.c (by assumption) (by omega) (by omega) ?_)
def dw(c:cz)(n:Int):V:=.obj 8 [.int n,.int c.ai,.int c.most,gl c.gap.w c.gap.s c.gap.z c.gap.k,.int c.al]
def eM(cl:Int->cz):V:=.obj 9 [.dct [(1,dw (cl 1) 1),(2,dw (cl 2) 2)]]
structure Pm(C:CT):Prop where c:∀{c:cz} {n:Int} {H:Hp} {K:V->Hp->Prop},dW c->n=1\/n=2->K (dw c n) H->C 1008 [.int n,.int c.ai,.int c.most,gl c.gap.w c.gap.s c.gap.z c.gap.k,.int c.al] H K
theorem Pn(d:Nat):Pm (aG tb (d+4)):=⟨λ{c n H K} b hn kk=>by
 refine cN (c:=8) rfl rfl rfl rfl ?_;have c0:=s0 (d+1);have c1:=s1 (d+1);have c2:=s2 d;have c3:=s3 d;generalize aG tb (d+2)=C at*;obtain⟨b1,b2,-,-,-,-,-,b8⟩:=b;fail "r";exact bv (fs:=[.int n,.int c.ai,.int c.most,gl c.gap.w c.gap.s c.gap.z c.gap.k,.int c.al]) rfl kk⟩
structure Qv(C:CT):Prop where c:∀{cl:Int->cz} {n:Int} {H:Hp} {K:V->Hp->Prop},n=1\/n=2->K (dw (cl n) n) H->C 61 [eM cl,.int n] H K
theorem TL(d:Nat):Qv (aG tb (d+1)):=⟨λ{cl n H K} hn kk=>by
 refine aw rfl rfl ?_;generalize aG tb d=C at*;rcases hn with rfl|rfl
 ·fail "r";exact kk
 ·fail "r";exact kk⟩
theorem w0{v b:Int}(h:0<=v)(hb:0<b):ju v b=v.fdiv b:=by
 unfold ju;rw [if_neg (by omega),Int.natAbs_of_nonneg h,Int.natAbs_of_nonneg (by omega)]
structure Id(C:CT):Prop where c:∀{c:cz} {n size:Int} {H:Hp} {K:V->Hp->Prop},dW c->0<=size->K (.int (aR size c.ai)) H->C 59 [dw c n,.int size] H K
theorem Qw(d:Nat):Id (aG tb (d+3)):=⟨λ{c n size H K} b hs k=>by
 refine aw rfl rfl ?_;have c4:=P9 d;generalize aG tb (d+2)=C at*;have b1:=b.ai;fail "r"
 ·rename_i hb;unfold aR at k;rw [if_pos hb]at k;exact k
 ·rename_i hb;unfold aR at k;rw [if_neg hb]at k;fail "v";refine c4.c (by omega) (by omega) ?_;fail "r";exact nE k (by rw [w0 hs (by omega)])⟩
theorem sF:ju free 500*1000=(free.natAbs:Int).fdiv 500*(if 0<free then 1000 else-1000):=by
 unfold ju;have h5:((500:Int).natAbs:Int)=500:=rfl;rw [h5];by_cases h:free<0
 ·rw [if_pos h,if_neg (show¬0<free by omega)];omega
 ·rw [if_neg h];by_cases h0:0<free
  ·rw [if_pos h0]
  ·rw [if_neg h0,show free=0 by omega];rfl
structure Qx(C:CT):Prop where c:∀{c:cz} {n free szr:Int} {H:Hp} {K:V->Hp->Prop},dW c->-500000000<=free->free<=500000000->0<=szr->szr<=500000000->K (.int (bK c szr free)) H->C 18 [dw c n,.int free,.int szr] H K
theorem TM(d:Nat):Qx (aG tb (d+3)):=⟨λ{c n free szr H K} b h1 h2 h3 h4 k=>by
 refine aw rfl rfl ?_;have c4:=P9 d;generalize aG tb (d+2)=C at*;have b1:=b.ai;have b2:=b.most;have hq:(free.natAbs:Int).fdiv 500=(free.natAbs:Int) / 500:=Int.fdiv_eq_ediv_of_nonneg _ (by omega);have ho:c.ai=500->max (min (min (ju free 500*1000) (c.most-szr)) 1073741823) (-1073741823)=bK c szr free:=λe=>by
  rw [sF];unfold bK;dsimp only;rw [if_neg (show¬c.ai=1000 by omega),if_pos e,hq];split<;>omega
 unfold bK at k;dsimp only at k;fail "r"
 ·rename_i hb;rw [if_pos hb,if_neg (show¬c.ai=500 by omega)]at k;exact nE k (congrArg V.int (by omega))
 ·rename_i ha hb;have e:c.ai=500:=by omega
  fail "v";refine c4.c (by omega) (by omega) ?_;fail "r";have ko:K (.int (bK c szr free)) H:=k;rw [←ho e,←e]at ko;exact ko
 ·rename_i ha;rw [if_neg (show¬c.ai=1000 by omega),if_neg (show¬c.ai=500 by omega)]at k;exact nE k (congrArg V.int (by omega))⟩
theorem uU{c:cz}{szr:Int}(b:dW c)(h1: -500000000<=free)(h2:free<=500000000)(h3:0<=szr)(h4:szr<=500000000): -(2^30-1)<=bK c szr free/\bK c szr free<=1000000:=by
 have b1:=b.ai;have b2:=b.most;have hq:(free.natAbs:Int).fdiv 500=(free.natAbs:Int) / 500:=Int.fdiv_eq_ediv_of_nonneg _ (by omega);unfold bK;rw [hq];dsimp only
 (repeat' split)<;>omega
end
section
local macro_rules | `(tactic| fail "c") => `(tactic| first
 |rw [cA]|rw [px]
 |refine aV rfl ?_
 |with_reducible refine pr ?_)
structure Po(C:CT):Prop where c:∀{cl:Int->cz} {H:Hp} {K:V->Hp->Prop},K (eM cl) H->C 1009 [.ad [dw (cl 1) 1,dw (cl 2) 2]] H K
theorem w1{c:cz}{n:Int}:NR (dw c n):=dC (d:=8) rfl
theorem Pp(d:Nat):Po (aG tb (d+2)):=⟨λ{cl H K} kk=>by
 refine cN (c:=9) rfl rfl rfl rfl ?_;generalize aG tb d=C at*;fail "r";refine ed.mk ?_;have e2:∀{x:CO},(H++[x]).length=H.length+1:=by simp
 rw [e2];generalize hG:H++[CO.inst 9 [some (.ref (H.length+1))]]=G;have hg:(List.replicate 1 (Option.none:Option V)).set 0 (some (V.ref (H.length+1)))=[some (.ref (H.length+1))]:=rfl;have hgl:G.length=H.length+1:=by rw [←hG];simp
 have hg0:∀{l:CO},(G++[l])[H.length]?=some (CO.inst 9 [some (.ref (H.length+1))]):=by intro l;rw [←hG,List.getElem?_append_left (by simp)];exact bP
 have hg1:∀{l:CO},(G++[l])[H.length+1]?=some l:=by intro l;rw [←hgl];exact bP
 have hs:∀{l m:CO},(G++[l]).set (H.length+1) m=G++[m]:=by intro l m;rw [←hgl,cA]
 refine⟨trivial,?_⟩;fail "v";rw [hg,hG];refine ar hg0 ?_;fail "x";refine ar hg1 ?_;fail "x";refine av.mk ⟨by decide,by show _<=10000000;exact Nat.le_of_ble_eq_true rfl⟩ ?_;rw [hs];refine⟨trivial,?_⟩;fail "v";refine ar hg0 ?_;fail "x";refine ar hg1 ?_;fail "x";refine av.mk ⟨by decide,by show _<=10000000;exact Nat.le_of_ble_eq_true rfl⟩ ?_;rw [hs];refine⟨trivial,?_⟩;fail "v";refine dH (u:=eM cl) ?_ ?_ ?_
 ·show(if H.length<H.length then _ else _)=_;rw [if_neg (by omega),hg0];show(Option.map (V.obj 9) ((frz _ _ 7 (.ref (H.length+1))).bind λa=>some [a]))=_;rw [qR (Nat.le_succ _) hg1 (λp hp=>by
   have hp:p∈[((1:Int),dw (cl 1) 1),(2,dw (cl 2) 2)]:=hp;rcases hp with _|⟨_,_|⟨_,h⟩⟩
   ·rfl
   ·rfl
   ·cases h)]
  rfl
 ·refine .obj λx hx=>?_;rcases hx with _|⟨_,h⟩
  ·refine .dct λp hp=>?_;rcases hp with _|⟨_,_|⟨_,h⟩⟩
   ·exact w1
   ·exact w1
   ·cases h
  ·cases h
 ·rw [←hG,List.append_assoc];exact dg kk⟩
end
section
structure eT where
 sz:Int
 last:Int
 ag:Int
 sat:Int
 spl:Int
structure BS where
 vs:Int
 md:Int
 R:List Nd
 P:List Nd
 ah:Int
 ae:Int
 mdp:Int
 an:List (Int×Nat×eT)
 pen:Int
 l1:V
 l2:V
 l3:V
 total:Int
 st:List Int
 sh:Int
 dp:Int
 ag:Option fG
structure eU where
 c:Nat
 p:Nat
 i:Nat
 t:Nat
def gC(e:eT):CO:=.inst 10 [some (.int e.sz),some (.int e.last),some (.int e.ag),some (.int e.sat),some (.int e.spl)]
def dN:Option fG->V
 |none=>.none
 |some e=>.obj 11 [.int e.at_,.int e.pv,.int e.aq,.int e.ae]
def bC(a:eU)(s:BS):CO:=.inst 12 [some (.int s.vs),some (.int s.md),some (gl 0 0 0 0),some (.ref a.c),some (.ad []),some (.ref a.p),some (.int s.ah),some (.int s.ae),some (.int s.mdp),some (.ref a.i),some (.int s.pen),some s.l1,some s.l2,some s.l3,some (.int s.total),some (.ref a.t),some (.int s.sh),some (.int s.dp),some (dN s.ag)]
def fY(an:List (Int×Nat×eT)):List (Int×V):=an.map λx=>(x.1,.ref x.2.1)
structure BA(aa:Int)(H:Hp)(rb:Nat)(a:eU)(s:BS):Prop where
 b:H[rb]?=some (bC a s)
 c:H[a.c]?=some (.ad (s.R.map (nd aa)))
 p:H[a.p]?=some (.ad (s.P.map (nd aa)))
 i:H[a.i]?=some (.dct (fY s.an))
 t:H[a.t]?=some (.ad (s.st.map .int))
 e:∀x∈s.an,H[x.2.1]?=some (gC x.2.2)
 cp:a.c≠a.p
 ct:a.c≠a.t
 pt:a.p≠a.t
theorem dy{x y:Nat}{A B:CO}(h1:H[x]?=some A)(h2:H[y]?=some B)(h:A≠B):x≠y:=by
 rintro rfl;rw [h1]at h2;exact h (Option.some.inj h2)
section
variable {aa:Int}{H:Hp}{rb:Nat}{a:eU}{s:BS}
theorem BA.nbc(h:BA aa H rb a s):rb≠a.c:=dy h.b h.c (by intro h;cases h)
theorem BA.nbp(h:BA aa H rb a s):rb≠a.p:=dy h.b h.p (by intro h;cases h)
theorem BA.nbi(h:BA aa H rb a s):rb≠a.i:=dy h.b h.i (by intro h;cases h)
theorem BA.nbt(h:BA aa H rb a s):rb≠a.t:=dy h.b h.t (by intro h;cases h)
theorem BA.nci(h:BA aa H rb a s):a.c≠a.i:=dy h.c h.i (by intro h;cases h)
theorem BA.npi(h:BA aa H rb a s):a.p≠a.i:=dy h.p h.i (by intro h;cases h)
theorem BA.nti(h:BA aa H rb a s):a.t≠a.i:=dy h.t h.i (by intro h;cases h)
theorem BA.nbe(h:BA aa H rb a s):∀x∈s.an,rb≠x.2.1:=λx hx=>dy h.b (h.e x hx) (by intro h;cases h)
theorem BA.nce(h:BA aa H rb a s):∀x∈s.an,a.c≠x.2.1:=λx hx=>dy h.c (h.e x hx) (by intro h;cases h)
theorem BA.npe(h:BA aa H rb a s):∀x∈s.an,a.p≠x.2.1:=λx hx=>dy h.p (h.e x hx) (by intro h;cases h)
theorem BA.nie(h:BA aa H rb a s):∀x∈s.an,a.i≠x.2.1:=λx hx=>dy h.i (h.e x hx) (by intro h;cases h)
theorem BA.nte(h:BA aa H rb a s):∀x∈s.an,a.t≠x.2.1:=λx hx=>dy h.t (h.e x hx) (by intro h;cases h)
theorem BA.setB(h:BA aa H rb a s){s':BS}(hR:s'.R=s.R)(hP:s'.P=s.P)(hi:s'.an=s.an)(ht:s'.st=s.st):BA aa (H.set rb (bC a s')) rb a s' where
 b:=bm h.b
 c:=by rw [az h.nbc,hR];exact h.c
 p:=by rw [az h.nbp,hP];exact h.p
 i:=by rw [az h.nbi,hi];exact h.i
 t:=by rw [az h.nbt,ht];exact h.t
 e:=λx hx=>by rw [hi]at hx;rw [az (h.nbe x hx)];exact h.e x hx
 cp:=h.cp
 ct:=h.ct
 pt:=h.pt
theorem BA.setC(h:BA aa H rb a s){R:List Nd}:BA aa (H.set a.c (.ad (R.map (nd aa)))) rb a {s with R:=R} where
 b:=by rw [az (Ne.symm h.nbc)];exact h.b
 c:=bm h.c
 p:=by rw [az h.cp];exact h.p
 i:=by rw [az h.nci];exact h.i
 t:=by rw [az h.ct];exact h.t
 e:=λx hx=>by rw [az (h.nce x hx)];exact h.e x hx
 cp:=h.cp
 ct:=h.ct
 pt:=h.pt
theorem BA.setP(h:BA aa H rb a s){P:List Nd}:BA aa (H.set a.p (.ad (P.map (nd aa)))) rb a {s with P:=P} where
 b:=by rw [az (Ne.symm h.nbp)];exact h.b
 c:=by rw [az (Ne.symm h.cp)];exact h.c
 p:=bm h.p
 i:=by rw [az h.npi];exact h.i
 t:=by rw [az h.pt];exact h.t
 e:=λx hx=>by rw [az (h.npe x hx)];exact h.e x hx
 cp:=h.cp
 ct:=h.ct
 pt:=h.pt
theorem BA.setT(h:BA aa H rb a s){st:List Int}:BA aa (H.set a.t (.ad (st.map .int))) rb a {s with st:=st} where
 b:=by rw [az (Ne.symm h.nbt)];exact h.b
 c:=by rw [az (Ne.symm h.ct)];exact h.c
 p:=by rw [az (Ne.symm h.pt)];exact h.p
 i:=by rw [az h.nti];exact h.i
 t:=bm h.t
 e:=λx hx=>by rw [az (h.nte x hx)];exact h.e x hx
 cp:=h.cp
 ct:=h.ct
 pt:=h.pt
theorem BA.app(h:BA aa H rb a s)(X:Hp):BA aa (H++X) rb a s where
 b:=by rw [List.getElem?_append_left (aF h.b)];exact h.b
 c:=by rw [List.getElem?_append_left (aF h.c)];exact h.c
 p:=by rw [List.getElem?_append_left (aF h.p)];exact h.p
 i:=by rw [List.getElem?_append_left (aF h.i)];exact h.i
 t:=by rw [List.getElem?_append_left (aF h.t)];exact h.t
 e:=λx hx=>by rw [List.getElem?_append_left (aF (h.e x hx))];exact h.e x hx
 cp:=h.cp
 ct:=h.ct
 pt:=h.pt
end
theorem dz{r:Nat}{x:CO}{K:CO->Prop}(h:H[r]?=some x)(k:K y):bL (H.set r y) r K:=ar (bm h) k
theorem w2{r:Nat}{x l:CO}{K:CO->Prop}(h:H[r]?=some x)(k:K y):bL (H.set r y++[l]) r K:=ar (by rw [List.getElem?_append_left (by rw [List.length_set];exact aF h)];exact bm h) k
theorem w3{r:Nat}{x z l:CO}(h:H[r]?=some x):(H.set r y++[l]).set r z=H.set r z++[l]:=by
 rw [List.set_append_left _ _ (by rw [List.length_set];exact aF h),List.set_set]
local macro_rules | `(tactic| fail "c") => `(tactic| first
 |with_reducible refine dz (by assumption) ?_
 |with_reducible refine w2 (by assumption) ?_
 |with_reducible refine ar (by assumption) ?_
 |refine aV rfl ?_
 |rw [List.set_set]
 |(rw [w3 (by assumption)]))
structure TN(C:CT):Prop where c:∀{rb:Nat} {f0 f1 f2 f3 f4 f5 f6 f7 f8 f9 f10 f11 f12 f13 f14 f15 f16 f17 f18:Option V} {H:Hp} {K:V->Hp->Prop},H[rb]?=some (.inst 12 [f0,f1,f2,f3,f4,f5,f6,f7,f8,f9,f10,f11,f12,f13,f14,f15,f16,f17,f18])->K .none (H.set rb (.inst 12 [f0,f1,f2,f3,f4,f5,f6,f7,f8,f9,f10,f11,f12,f13,some (.int 0),some (.ref H.length),some (.int 0),some (.int 0),some .none])++[.ad [.int 0,.int 0,.int 0,.int 0]])->C 66 [.ref rb] H K
theorem Qy(d:Nat):TN (aG tb (d+1)):=⟨λ{rb f0 f1 f2 f3 f4 f5 f6 f7 f8 f9 f10 f11 f12 f13 f14 f15 f16 f17 f18 H K} h k=>by
 refine aw rfl rfl ?_;generalize aG tb d=C at*;rw [show H.length=(H.set rb (CO.inst 12 ([f0,f1,f2,f3,f4,f5,f6,f7,f8,f9,f10,f11,f12,f13,f14,f15,f16,f17,f18].set 14 (some (.int 0))))).length by rw [List.length_set]]at k;fail "r";exact k⟩
end
section
theorem w4{X:Hp}{r:Nat}{x:CO}{K:CO->Prop}(h:H[r]?=some x)(k:K x):bL (H++X) r K:=ar (by rw [List.getElem?_append_left (aF h)];exact h) k
theorem yo{X:Hp}{r:Nat}{x:CO}(h:H[r]?=some x):(H++X).set r y=H.set r y++X:=List.set_append_left _ _ (aF h)
theorem w5{X:Hp}{r:Nat}{x:CO}{K:CO->Prop}(h:H[r]?=some x)(k:K y):bL (H.set r y++X) r K:=w4 (bm h) k
theorem ml{X:Hp}{r:Nat}{x z:CO}(h:H[r]?=some x):(H.set r y++X).set r z=H.set r z++X:=by
 rw [List.set_append_left _ _ (by rw [List.length_set];exact aF h),List.set_set]
theorem ia{X:Hp}{r:Nat}{x:CO}(h:H[r]?=some x):(H.set r y++X)[r]?=some y:=by rw [List.getElem?_append_left (by rw [List.length_set];exact aF h)];exact bm h
theorem w6{X:Hp}{r:Nat}:(H.set r y++X).length=H.length+X.length:=by simp
local macro_rules | `(tactic| fail "c") => `(tactic| first
 |with_reducible refine dz (by assumption) ?_
 |with_reducible refine w5 (by assumption) ?_
 |with_reducible refine ar (by assumption) ?_
 |with_reducible refine w4 (by assumption) ?_
 |refine aV rfl ?_
 |rw [List.set_set]
 |(rw [ml (by assumption)])
 |(rw [yo (by assumption)]))
structure TP(C:CT):Prop where c:∀{rb:Nat} {vs md x:Int} {f2 f3 f4 f5 f6 f7 f8 f9 f10 f11 f12 f13 f14 f15 f16 f17 f18:Option V} {H:Hp} {K:V->Hp->Prop},H[rb]?=some (.inst 12 [some (.int vs),some (.int md),f2,f3,f4,f5,f6,f7,f8,f9,f10,f11,f12,f13,f14,f15,f16,f17,f18])->K .none (H.set rb (.inst 12 [some (.int vs),some (.int md),f2,f3,f4,f5,some (.int x),some (.int vs),some (.int md),f9,f10,f11,f12,f13,some (.int 0),some (.ref H.length),some (.int 0),some (.int 0),some .none])++[.ad [.int 0,.int 0,.int 0,.int 0]])->C 67 [.ref rb,.int x] H K
theorem TQ(d:Nat):TP (aG tb (d+2)):=⟨λ{rb vs md x f2 f3 f4 f5 f6 f7 f8 f9 f10 f11 f12 f13 f14 f15 f16 f17 f18 H K} h k=>by
 refine aw rfl rfl ?_;have c66:=Qy d;generalize aG tb (d+1)=C at*;fail "x";refine c66.c h ?_;fail "r";exact k⟩
structure TR(C:CT):Prop where c:∀{rb:Nat} {f0 f1 f3 f4 f5 f6 f7 f8 f9 f10 f11 f12 f13 f14 f15 f16 f17 f18:Option V} {H:Hp} {K:V->Hp->Prop},H[rb]?=some (.inst 12 [f0,f1,some (gl 0 0 0 0),f3,f4,f5,f6,f7,f8,f9,f10,f11,f12,f13,f14,f15,f16,f17,f18])->K .none (H.set rb (.inst 12 [f0,f1,some (gl 0 0 0 0),f3,f4,some (.ref H.length),some (.int 0),some (.int 0),some (.int 0),some (.ref (H.length+2)),some (.int 0),some (.int 0),some (.int 0),some (gl 0 0 0 0),some (.int 0),some (.ref (H.length+1)),some (.int 0),some (.int 0),some .none])++[.ad [],.ad [.int 0,.int 0,.int 0,.int 0],.dct []])->C 65 [.ref rb] H K
theorem Qz(d:Nat):TR (aG tb (d+2)):=⟨λ{rb f0 f1 f3 f4 f5 f6 f7 f8 f9 f10 f11 f12 f13 f14 f15 f16 f17 f18 H K} h k=>by
 refine aw rfl rfl ?_;have c66:=Qy d;generalize aG tb (d+1)=C at*;fail "x";refine c66.c (ia h) ?_;rw [ml h,List.append_assoc,w6];fail "x";rw [List.append_assoc];rw [show(H.set rb _++([CO.ad []]++[CO.ad [V.int 0,V.int 0,V.int 0,V.int 0]])).length=H.length+2 by simp];fail "r";exact k⟩
def Hw(vs md:Int)(R:List Nd):BS:=⟨vs,md,R,[],0,0,0,[],0,.int 0,.int 0,gl 0 0 0 0,0,[0,0,0,0],0,0,none⟩
end
section
theorem eN{X:Hp}{k:Nat}{x:CO}(h:X[k]?=some x):(H++X)[H.length+k]?=some x:=by
 rw [List.getElem?_append_right (by omega),show H.length+k-H.length=k by omega];exact h
local macro_rules | `(tactic| fail "c") => `(tactic| first
 |rw [cA]|rw [px]
 |refine aV rfl ?_
 |with_reducible refine pr ?_
 |with_reducible refine S3.c (by assumption) (by omega) (by omega) ?_
 |with_reducible refine Hg.c (by assumption) ?_)
structure Hx(C:CT):Prop where c:∀{vs md aa:Int} {H:Hp} {K:V->Hp->Prop},0<=vs->vs<=1000000->0<=md->md<=1000000->(∀H' a,BA aa H' H.length a (Hw vs md [])->K (.ref H.length) H')->C 1012 [.int vs,.int md] H K
theorem Pq(d:Nat):Hx (aG tb (d+6)):=⟨λ{vs md aa H K} h1 h2 h3 h4 k=>by
 refine cN (c:=12) rfl rfl rfl rfl ?_;have c3:=s3 (d+2);have cg:=O9 d;have c65:=Qz (d+2);generalize aG tb (d+4)=C at*;fail "x";refine c65.c (f0:=some (.int vs)) (f1:=some (.int md)) (by rw [List.getElem?_append_left (by simp)];exact bP) ?_;refine k _ ⟨H.length+1,H.length+2,H.length+4,H.length+3⟩ ?_;rw [px];have e1:∀x:CO,(H++[x]).length=H.length+1:=by simp
 have e2:∀x y:CO,(H++[x]++[y]).length=H.length+2:=by simp
 simp only [e1,e2];rw [List.append_assoc,List.append_assoc];exact⟨eN (k:=0) rfl,eN (k:=1) rfl,eN (k:=2) rfl,eN (k:=4) rfl,eN (k:=3) rfl,λx hx=>(by cases hx),by dsimp only;omega,by dsimp only;omega,by dsimp only;omega⟩⟩
theorem nV{C:CT}{y0 y1:Option V}{aa:Int}{ck:Hp->Prop}{H:Hp}{K:Fl->aE->Hp->Prop}(hc:ck H):∀(xs:List Nd) (x2:Option V),(∀x2,K .next [y0,y1,x2] H)->
  ba (λρ=>ec ρ (.one 2)) (λρ H=>aM tb C cw ρ H) ck (xs.map (nd aa)) [y0,y1,x2] H K
 | [],x2,k=>⟨hc,k _⟩
 |x::xs,x2,k=>by
  refine⟨hc,?_⟩;have ih:=λx2=>nV (C:=C) (y0:=y0) (y1:=y1) (aa:=aa) hc xs x2 k;rcases x with(x|x|x)|x|x|x;all_goals
   fail "r";exact ih _
local macro_rules | `(tactic| fail "c") => `(tactic| first
 |with_reducible refine ar (by assumption) ?_)
structure Pr(C:CT):Prop where c:∀{aa:Int} {rb:Nat} {a:eU} {s:BS} {xs:List Nd} {H:Hp} {K:V->Hp->Prop},BA aa H rb a s->s.R.length<=1000->xs.length<=1000->(∀H',BA aa H' rb a {s with R:=s.R++xs}->K .none H')->C 68 [.ref rb,.ad (xs.map (nd aa))] H K
theorem TS(d:Nat):Pr (aG tb (d+1)):=⟨λ{aa rb a s xs H K} B h1 h2 k=>by
 refine aw rfl rfl ?_;generalize aG tb d=C at*;have hb:=B.b;have hc:=B.c;fail "r";refine ed.mk ?_;refine nV trivial xs _ λx2=>?_;fail "x";refine av.mk (by show _<=10000000;simp;omega) ?_;have:=B.setC (R:=s.R++xs);rw [List.map_append]at this;fail "r";exact k _ this⟩
def Ar:Nd->Int|.pt (.p v)=>v|_=>0
def As:Nd->Int|.k w=>w|_=>0
def Au:Nd->V|.pt (.g w s z k _)=>gl w s z k|_=>gl 0 0 0 0
local macro_rules | `(tactic| fail "c") => `(tactic| first
 |with_reducible refine dz (by assumption) ?_
 |with_reducible refine ar (by assumption) ?_
 |refine aV rfl ?_
 |rw [List.set_set])
structure A4(C:CT):Prop where c:∀{aa:Int} {rb:Nat} {a:eU} {s:BS} {x:Nd} {H:Hp} {K:V->Hp->Prop},BA aa H rb a s->(∀H',BA aa H' rb a {s with l1:=.int (Ar x),l2:=.int (As x),l3:=Au x}->K .none H')->C 70 [.ref rb,nd aa x] H K
theorem TT(d:Nat):A4 (aG tb (d+1)):=⟨λ{aa rb a s x H K} B k=>by
 refine aw rfl rfl ?_;generalize aG tb d=C at*;have hb:=B.b;unfold bC at hb;have k2:=k _ (B.setB (s':={s with l1:=.int (Ar x),l2:=.int (As x),l3:=Au x}) rfl rfl rfl rfl);rcases x with(x|x|x)|x|x|x;all_goals
  fail "r";exact k2⟩
end
section
theorem eO{α:Type}{f:α->V}{xs:List α}:vz (.ad (xs.map f)) (.ad []):=by
 cases xs with
 |nil=>exact .inl ⟨(show∀x∈([]:List V),jg 7 x fromλx hx=>by cases hx),(show∀x∈([]:List V),jg 7 x fromλx hx=>by cases hx)⟩
 |cons x xs=>exact .inr ⟨_,_,rfl,rfl,by simp⟩
theorem mm{α:Type}{f:α->V}{xs:List α}:kX (.ad (xs.map f)) (.ad [])=xs.isEmpty:=by
 unfold kX
 cases xs with
 |nil=>simp
 |cons x xs=>simp
def fq(s:BS)(x:Int):BS:={s with ah:=x,ae:=s.vs,mdp:=s.md,total:=0,st:=[0,0,0,0],sh:=0,dp:=0,ag:=none}
theorem BA.fresh{aa:Int}{a:eU}{s:BS}(h:BA aa H rb a s){s':BS}(hR:s'.R=s.R)(hP:s'.P=s.P)(hi:s'.an=s.an):
  BA aa (H.set rb (bC {a with t:=H.length} s')++[.ad (s'.st.map .int)]) rb {a with t:=H.length} s':=by
 have l:=(h.setB (s':={s' with st:=s.st}) hR hP hi rfl).app [.ad (s'.st.map .int)];have len:(H.set rb (bC {a with t:=H.length} s')).length=H.length:=List.length_set ..;have ne:∀{r:Nat} {x:CO},H[r]?=some x->r≠H.length:=λe=>by have:=aF e;omega
 have ot:∀{r:Nat} {x:CO},rb≠r->H[r]?=some x->(H.set rb (bC {a with t:=H.length} s')++[CO.ad (s'.st.map .int)])[r]?=some x:=λe h=>by
  rw [List.getElem?_append_left (by rw [List.length_set];exact aF h),az e];exact h
 exact⟨ia h.b,ot h.nbc (by rw [hR];exact h.c),ot h.nbp (by rw [hP];exact h.p),ot h.nbi (by rw [hi];exact h.i),by
  show(H.set rb (bC {a with t:=H.length} s')++[CO.ad (s'.st.map .int)])[H.length]?=_;rw [List.getElem?_append_right (by rw [len];exact Nat.le_refl _),len,Nat.sub_self];rfl,λx hx=>by rw [hi]at hx;exact ot (h.nbe x hx) (h.e x hx),h.cp,ne h.c,ne h.p⟩
structure Hy(C:CT):Prop where c:∀{aa:Int} {rb:Nat} {a:eU} {s:BS} {x:Int} {H:Hp} {K:V->Hp->Prop},BA aa H rb a s->(∀H',BA aa H' rb {a with t:=H.length} (fq s x)->(∀r,r<H.length->r≠rb->H'[r]?=H[r]?)->K .none H')->C 67 [.ref rb,.int x] H K
theorem Hz(d:Nat):Hy (aG tb (d+2)):=⟨λ{aa rb a s x H K} B k=>by
 refine(TQ d).c B.b ?_;refine k _ (B.fresh (s':=fq s x) rfl rfl rfl) λr hr hne=>?_;rw [List.getElem?_append_left (by rw [List.length_set];exact hr),az (Ne.symm hne)]⟩
local macro_rules | `(tactic| fail "c") => `(tactic| first
 |with_reducible refine dz (by assumption) ?_
 |with_reducible refine ar (by assumption) ?_
 |refine aV rfl ?_
 |with_reducible refine AT.c (by assumption) ?_
 |with_reducible refine S6.c (by assumption) ?_
 |with_reducible refine HV.c (by assumption) (by omega) (by omega) (by omega) (by omega) (by omega) (by assumption) (by omega) (by omega) ?_
 |rw [List.set_set])
def bU(s:BS):BS:={(if s.ah=0 then fq s 2 else s)with ah:=2}
structure QA(C:CT):Prop where c:∀{aa:Int} {rb:Nat} {a:eU} {s:BS} {l h d:Int} {g:mL} {H:Hp} {K:V->Hp->Prop},BA aa H rb a s->m4 g->s.R.length<=1000->0<=h->h<=1000000->(∀H' a',BA aa H' rb a' {bU s with R:=.pt (.g (max (g.w-h) 0) g.s g.z g.k 107)::s.R}->K .none H')->C 71 [.ref rb,ci (.b l h d),gl g.w g.s g.z g.k] H K
theorem TU(d:Nat):QA (aG tb (d+5)):=⟨λ{aa rb a s l h d' g H K} B gb hR hh0 hh1 k=>by
 refine aw rfl rfl ?_;have c17:=OX (d+3);have c6:=s6 (d+3);have cg:=O6 d;have cs:=wT d;have c67:=Hz (d+2);generalize aG tb (d+4)=C at*;have hb:=B.b;unfold bC at hb;have g1:=gb.w;have g2:=gb.s;have g3:=gb.k;have g4:=gb.z;have g5:=gb.zs;fail "r"
 ·rename_i hs;fail "v";refine c67.c B λH1 B1 _=>?_;have hb1:=B1.b;have hc1:=(B1.setB (s':={fq s 2 with ah:=2}) rfl rfl rfl rfl).c;unfold bC at hb1;fail "x";refine ar hc1 ?_;fail "v";refine cs.c (by omega) ?_;fail "x";refine ar hc1 ?_;fail "v";refine av.mk (by show _<=10000000;simp [fq];omega) ?_;have B2:=(B1.setB (s':={fq s 2 with ah:=2}) rfl rfl rfl rfl).setC (R:=.pt (.g (max (g.w-h) 0) g.s g.z g.k 107)::s.R);have k2:=k _ _ (by unfold bU;rw [if_pos hs];exact B2);exact k2
 ·rename_i hs;have hc1:=(B.setB (s':={s with ah:=2}) rfl rfl rfl rfl).c;fail "x";refine ar hc1 ?_;fail "v";refine cs.c (by omega) ?_;fail "x";refine ar hc1 ?_;fail "v";refine av.mk (by show _<=10000000;simp;omega) ?_;have B2:=(B.setB (s':={s with ah:=2}) rfl rfl rfl rfl).setC (R:=.pt (.g (max (g.w-h) 0) g.s g.z g.k 107)::s.R);have k2:=k _ _ (by unfold bU;rw [if_neg hs];exact B2);exact k2⟩
end
section
def jY(P:List Nd):Bool:=match P.getLast? with
 |some y=> !iY y
 |none=>false
def cC(P R:List Nd):Nd->Option Int
 |.pt (.p v)=>some v
 |.pt (.g ..)=>if jY P=true then some 0 else none
 |.k _=>if Ai R[1]?=true then some 0 else none
 |_=>none
theorem yp{aa:Int}{P:List Nd}{y:Nd}(h:P.getLast?=some y){K:V->Prop}(k:K (nd aa y)):aS (dm (P.map (nd aa)) (-1)) K:=by
 refine⟨⟨nd aa y,?_,k⟩⟩;show(if 0<(P.map (nd aa)).length then(P.map (nd aa))[(P.map (nd aa)).length-1-0]? else none)=_;rw [List.getLast?_eq_getElem?]at h;have hl:=(List.getElem?_eq_some_iff.mp h).1;rw [List.length_map,if_pos (by omega),List.getElem?_map,Nat.sub_zero,h];rfl
theorem Av{aa:Int}{xs:List Nd}{n:Nat}{i:Int}{x:Nd}(e:i=n)(h:xs[n]?=some x){K:V->Prop}(k:K (nd aa x)):aS (dm (xs.map (nd aa)) i) K:=by
 subst e;exact⟨⟨nd aa x,by show(xs.map (nd aa))[n]?=_;rw [List.getElem?_map,h];rfl,k⟩⟩
theorem ib{α:Type}{f:α->V}{xs:List α}{X Y:Prop}(h:xs≠[])(k:X):gf (b0 true (kX (.ad (xs.map f)) (.ad []))) X Y:=by
 rw [mm]
 cases xs with
 |nil=>exact absurd rfl h
 |cons x xs=>exact ku k
theorem jD{α:Type}{f:α->V}{xs:List α}{X Y:Prop}(h:xs=[])(k:Y):gf (b0 true (kX (.ad (xs.map f)) (.ad []))) X Y:=by
 rw [mm,h];exact nD k
local macro_rules | `(tactic| fail "c") => `(tactic| first
 |with_reducible refine ar (by assumption) ?_
 |with_reducible refine ib (by assumption) ?_
 |with_reducible refine jD (by assumption) ?_
 |refine av.mk eO ?_)
structure TV(C:CT):Prop where c:∀{aa:Int} {rb:Nat} {a:eU} {s:BS} {x:Nd} {H:Hp} {K:V->Hp->Prop},BA aa H rb a s->((∃w,x= .k w)->2<=s.R.length)->K (Hu (cC s.P s.R x)) H->C 72 [.ref rb,nd aa x] H K
theorem TW(d:Nat):TV (aG tb (d+3)):=⟨λ{aa rb a s x H K} B h2 k=>by
 refine aw rfl rfl ?_;have c9:=s9 d;generalize aG tb (d+2)=C at*;have hb:=B.b;have hp:=B.p;have hc:=B.c;unfold bC at hb;rcases x with(⟨l,h,d'⟩|⟨w,s',z,kk,so⟩|v)|w|x|x
 ·fail "r";exact k
 ·unfold cC jY at k
  cases hy:s.P.getLast? with
  |none=>
   have hne:=List.getLast?_eq_none_iff.mp hy;rw [hy]at k;fail "r";exact k
  |some y=>
   have hne:s.P≠[]:=by intro h;rw [h]at hy;cases hy
   rw [hy]at k;fail "x";refine yp hy ?_;refine c9.c ?_
   cases hy2:iY y
   ·simp only [hy2]at k;fail "r";exact k
   ·simp only [hy2]at k;fail "r";exact k
 ·fail "r";exact k
 ·have hl:=h2 ⟨_,rfl⟩;obtain⟨y,hy⟩:∃y,s.R[1]?=some y:=⟨_,List.getElem?_eq_getElem (by omega)⟩
  unfold cC at k;rw [hy]at k;fail "x";refine Av (n:=1) rfl hy ?_;rcases y with(y|y|y)|y|y|y;all_goals
   fail "r";exact k
 ·fail "r";exact k
 ·fail "r";exact k⟩
structure Aw(s:BS):Prop where
 h4:s.st.length=4
 s0:s.st.getD 0 0<2^30
 sh:s.sh<=7230584
 g:s.ae-s.total<=7230584
local macro_rules | `(tactic| fail "c") => `(tactic| first
 |with_reducible refine ar (by assumption) ?_
 |with_reducible refine S5.c (by assumption) (by omega) (by omega) (by omega) ?_)
structure QB(C:CT):Prop where c:∀{aa price:Int} {rb:Nat} {a:eU} {s:BS} {H:Hp} {K:V->Hp->Prop},BA aa H rb a s->Aw s->K (.int (rB s.total s.ae s.st s.sh price s.pen)) H->C 73 [.ref rb,.int price] H K
theorem TX(d:Nat):QB (aG tb (d+2)):=⟨λ{aa price rb a s H K} B cb k=>by
 refine aw rfl rfl ?_;have c5:=s5 d;generalize aG tb (d+1)=C at*;have hb:=B.b;have ht:=B.t;unfold bC at hb;obtain⟨h4,h0,hs,hg⟩:=cb;obtain⟨s0,s1,s2,s3,e4⟩:=Ah h4;rw [tS]at k;rw [e4]at ht h0 k;have h0:s0<2^30:=h0;generalize s.total=total at*;generalize s.ae=ae at*;generalize s.sh=sh at*;generalize s.pen=pen at*;fail "r";all_goals(refine nE k (congrArg V.int ?_);(try simp only [Int.neg_sub]at*);simp only [Ib,List.getD_cons_zero,List.getD_cons_succ];(repeat' split)<;>first|rfl|(exfalso;omega))⟩
end
section
abbrev fe:=List (Int×Nat×eT)
structure bw(an:fe):Prop where
 k:(an.map (·.1)).Nodup
 a:(an.map (·.2.1)).Nodup
 m:∀x∈an,x.1=1\/x.1=2
def kput(n:Int)(e:eT)(an:fe):fe:=an.map λx=>if x.1=n then(x.1,x.2.1,e)else x
def eb(x:Int×Nat×eT):Int×Nat×eT:=(x.1,x.2.1,{x.2.2 with ag:=x.2.2.last})
def kI(n:Int)(an:fe):fe:=an.map λx=>if x.1=n then eb x else x
theorem gO{β:Type}{f:Int×Nat×eT->β}:∀{an:fe},(an.map f).Nodup->∀{x y},x∈an->y∈an->f x=f y->x=y
 | [],_,x,y,hx,_,_=>by cases hx
 |z::an,h,x,y,hx,hy,e=>by
  rw [List.map_cons,List.nodup_cons]at h;rcases List.mem_cons.mp hx with ex|hx'
  ·rcases List.mem_cons.mp hy with ey|hy'
   ·rw [ex,ey]
   ·exact absurd (List.mem_map.mpr ⟨y,hy',by rw [←ex];exact e.symm⟩) h.1
  ·rcases List.mem_cons.mp hy with ey|hy'
   ·exact absurd (List.mem_map.mpr ⟨x,hx',by rw [←ey];exact e⟩) h.1
   ·exact gO h.2 hx' hy' e
theorem fI{n:Int}{r:Nat}{e:eT}:∀{an:fe},(an.map (·.1)).Nodup->(n,r,e)∈an->aW n (fY an)=some (.ref r)
 | [],_,h=>by cases h
 |(m,q,f)::an,hk,h=>by
  rw [List.map_cons,List.nodup_cons]at hk;show(match decide (m=n)with|true=>some (V.ref q)|false=>aW n (fY an))=_;rcases List.mem_cons.mp h with h|h
  ·cases h;rw [decide_eq_true rfl]
  ·have:m≠n:=by rintro rfl;exact hk.1 (List.mem_map.mpr ⟨_,h,rfl⟩)
   rw [decide_eq_false this];exact fI hk.2 h
theorem qY{n:Int}:∀{an:fe},n∉an.map (·.1)->aW n (fY an)=none
 | [],_=>rfl
 |(m,q,f)::an,h=>by
  rw [List.map_cons,List.mem_cons,not_or]at h;show(match decide (m=n)with|true=>some (V.ref q)|false=>aW n (fY an))=_;rw [decide_eq_false (λe=>h.1 e.symm)];exact qY h.2
theorem ic{n:Int}{e:eT}{an:fe}:(kput n e an).map (·.1)=an.map (·.1):=by
 unfold kput;rw [List.map_map];apply List.map_congr_left;intro x _;simp only [Function.comp];split<;>rfl
theorem qZ{n:Int}{e:eT}{an:fe}:(kput n e an).map (·.2.1)=an.map (·.2.1):=by
 unfold kput;rw [List.map_map];apply List.map_congr_left;intro x _;simp only [Function.comp];split<;>rfl
theorem uV{n:Int}{e:eT}{an:fe}:fY (kput n e an)=fY an:=by
 unfold kput fY;rw [List.map_map];apply List.map_congr_left;intro x _;simp only [Function.comp];split<;>rfl
theorem bw.kput{n:Int}{e:eT}{an:fe}(h:bw an):bw (kput n e an):=by
 refine⟨by rw [ic];exact h.k,by rw [qZ];exact h.a,λx hx=>?_⟩;have:x.1∈(Mine.kput n e an).map (·.1):=List.mem_map.mpr ⟨x,hx,rfl⟩;rw [ic]at this;obtain⟨y,hy,e⟩:=List.mem_map.mp this;rw [←e];exact h.m y hy
theorem q3{n:Int}{r:Nat}{e f:eT}{an:fe}(h:(n,r,e)∈an):(n,r,f)∈kput n f an:=
 List.mem_map.mpr ⟨_,h,by simp⟩
theorem sG{n:Int}{r:Nat}{e:eT}{an:fe}(hk:(an.map (·.1)).Nodup)(h:(n,r,e)∈an):kI n an=kput n {e with ag:=e.last} an:=by
 unfold kI kput;apply List.map_congr_left;intro x hx;by_cases hn:x.1=n
 ·have:=gO hk hx h hn;subst this;rw [if_pos rfl,if_pos rfl];rfl
 ·rw [if_neg hn,if_neg hn]
theorem BA.setE{aa:Int}{a:eU}{s:BS}(h:BA aa H rb a s)(ok:bw s.an){n:Int}{r:Nat}{e e':eT}(hm:(n,r,e)∈s.an):BA aa (H.set r (gC e')) rb a {s with an:=kput n e' s.an} where
 b:=by rw [az (Ne.symm (h.nbe _ hm))];exact h.b
 c:=by rw [az (Ne.symm (h.nce _ hm))];exact h.c
 p:=by rw [az (Ne.symm (h.npe _ hm))];exact h.p
 i:=by rw [az (Ne.symm (h.nie _ hm))];show _=some (CO.dct (fY (kput n e' s.an)));rw [uV];exact h.i
 t:=by rw [az (Ne.symm (h.nte _ hm))];exact h.t
 e:=λx hx=>by
  obtain⟨y,hy,e⟩:=List.mem_map.mp hx;by_cases hn:y.1=n
  ·rw [if_pos hn]at e;have:=gO ok.k hy hm hn;subst this;subst e;exact bm (h.e _ hm)
  ·rw [if_neg hn]at e;subst e;have:r≠y.2.1:=by
    intro hr;have:=gO ok.a hm hy hr;rw [←this]at hn;exact hn rfl
   rw [az this];exact h.e y hy
 cp:=h.cp
 ct:=h.ct
 pt:=h.pt
theorem nW{an:fe}:(fY an).map (·.1)=an.map (·.1):=by unfold fY;rw [List.map_map];rfl
theorem Ax{an:fe}(h:bw an):∃l,mO ((fY an).map (·.1))=some l/\(∀n,n∈l↔n∈an.map (·.1)):=by
 rw [nW];have hk:=h.k;have hm:∀n∈an.map (·.1),n=1\/n=2:=λn hn=>by obtain⟨x,hx,rfl⟩:=List.mem_map.mp hn;exact h.m x hx
 generalize an.map (·.1)=L at*;match L,hk,hm with
 | [],_,_=>exact⟨_,rfl,λn=>Iff.rfl⟩
 | [a],_,_=>exact⟨_,rfl,λn=>Iff.rfl⟩
 | [a,b],_,_=>
  refine⟨_,rfl,λn=>?_⟩;split
  ·simp [or_comm]
  ·rfl
 |a::b::c::r,hk,hm=>
  exfalso;have h1:=hm a (by simp);have h2:=hm b (by simp);have h3:=hm c (by simp);simp at hk;omega
theorem sJ{n:Int}{an:fe}:(kI n an).map (·.1)=an.map (·.1):=by
 unfold kI;rw [List.map_map];apply List.map_congr_left;intro x _;simp only [Function.comp];split<;>rfl
theorem nX:∀{l:List Int} {an:fe},l.foldl (λan n=>kI n an) an=an.map λx=>if x.1∈l then eb x else x
 | [],an=>by simp
 |n::l,an=>by
  rw [List.foldl_cons,nX];unfold kI;rw [List.map_map];apply List.map_congr_left;intro x _;simp only [Function.comp];by_cases h1:x.1=n
  ·rw [if_pos h1];have e1:(eb x).1=x.1:=rfl;rw [e1];by_cases h2:x.1∈l
   ·rw [if_pos h2,if_pos (List.mem_cons_of_mem _ h2)];rfl
   ·rw [if_neg h2,if_pos (by rw [h1];exact .head _)]
  ·rw [if_neg h1];by_cases h2:x.1∈l
   ·rw [if_pos h2,if_pos (List.mem_cons_of_mem _ h2)]
   ·rw [if_neg h2,if_neg (by rw [List.mem_cons,not_or];exact⟨h1,h2⟩)]
theorem Ay{l:List Int}{an:fe}(h:∀n,n∈l↔n∈an.map (·.1)):(an.map λx=>if x.1∈l then eb x else x)=an.map eb:=by
 apply List.map_congr_left;intro x hx;rw [if_pos ((h _).mpr (List.mem_map.mpr ⟨x,hx,rfl⟩))]
local macro_rules | `(tactic| fail "c") => `(tactic| first
 |with_reducible refine ar (by assumption) ?_
 |refine aV rfl ?_
 |refine aS.mk ⟨_,by assumption,?_⟩)
theorem mo{C:CT}{aa:Int}{rb:Nat}{a:eU}{s:BS}{y1 y2 y3:Option V}{K:Fl->aE->Hp->Prop}:∀(l:List Int) (an:fe) (H:Hp) (x4 x5:Option V),BA aa H rb a {s with an:=an}->bw an->(∀n∈l,n∈an.map (·.1))->
  (∀H' x4 x5,BA aa H' rb a {s with an:=l.foldl (λan n=>kI n an) an}->K .next [some (.ref rb),y1,y2,y3,x4,x5] H')->
  ba (λρ=>ec ρ (.one 4)) (λρ H=>aM tb C b9 ρ H) (λ_=>True) (l.map .int) [some (.ref rb),y1,y2,y3,x4,x5] H K
 | [],an,H,x4,x5,B,ok,hl,k=>⟨trivial,k _ _ _ B⟩
 |n::l,an,H,x4,x5,B,ok,hl,k=>by
  refine⟨trivial,?_⟩;obtain⟨⟨m,r,e⟩,hm,hmn⟩:=List.mem_map.mp (hl n (.head _));dsimp only at hmn;subst hmn;have hb:=B.b;unfold bC at hb;have hi:=B.i;have he:=B.e _ hm;unfold gC at he;have hd:=fI ok.k hm;have B2:=B.setE ok (e':={e with ag:=e.last}) hm;have ok2:=ok.kput (n:=m) (e:={e with ag:=e.last});have e2:=sG ok.k hm;have ih:=λH x4 x5 B=>mo (C:=C) (aa:=aa) (rb:=rb) (a:=a) (s:=s) (y1:=y1) (y2:=y2) (y3:=y3) (K:=K) l (kI m an) H x4 x5 B (by rw [e2];exact ok2) (λn hn=>by rw [sJ];exact hl n (.tail _ hn)) k;rw [e2]at ih;fail "r";exact ih _ _ _ B2
end
section
def xu(x:Nd)(p:Int):Int:=match x with
 |.pt (.p _)=>p
 |_=>10000
def lg(c:Int):Option fG->Bool
 |none=>true
 |some b=>decide (c<=b.aq)
def dD(s:BS)(p:Int):Int:=rB s.total s.ae s.st s.sh p s.pen
def upd(s:BS)(x:Nd)(p:Int):BS:=
 if lg (dD s p) s.ag=true then{s with ag:=some ⟨s.P.length,xu x p,dD s p,s.ae⟩,an:=s.an.map eb}else s
def jE(s:BS)(p:Int):Bool:=decide (dD s p=1073741823)||decide (p<=-10000)
def Az(s:BS)(x:Nd)(p:Int):Option fG:=if jE s p=true then(upd s x p).ag else none
theorem zb{s:BS}{p:Int}{X Y:Prop}(e:s.ag=none)(k:X):gf (isNone (dN s.ag)) X Y:=by rw [e];exact ku k
local macro_rules | `(tactic| fail "c") => `(tactic| first
 |with_reducible refine dz (by assumption) ?_
 |with_reducible refine ar (by assumption) ?_
 |refine aV rfl ?_
 |rw [List.set_set]
 |with_reducible refine QB.c (by assumption) (by assumption) (by assumption) ?_)
def sK:aU:=match bF with
 |.cons _ (.cons _ (.cons _ (.cons _ t)))=>t
 |_=>.nil
theorem nY{aa:Int}{a:eU}{s s':BS}{p:Int}(B:BA aa H rb a s')(k:∀ρ,K (.ret (dN (if jE s p=true then s'.ag else none))) ρ H):
  aM tb C sK [some (.ref rb),x1,some (.int p),some (.int (dD s p)),x4,x5] H K:=by
 have hb:=B.b;unfold bC at hb;unfold jE at k;fail "r";all_goals
  refine wK (k _) ?_;by_cases hq:(decide (dD s p=1073741823)||decide (p<=-10000))=true
  ·rw [if_pos hq]<;>first|rfl|(exfalso;simp at hq;omega)
  ·rw [if_neg hq]<;>first|rfl|(exfalso;simp at hq;omega)
def sL:aU:=match bF with
 |.cons _ (.cons _ (.cons _ (.cons (.ite _ t _) _)))=>t
 |_=>.nil
theorem nZ(cp:yY C){aa:Int}{a:eU}{s:BS}{x:Nd}{p aq:Int}(B:BA aa H rb a s)(ok:bw s.an)
  (k:∀H' x4 x5,BA aa H' rb a {s with ag:=some ⟨s.P.length,xu x p,aq,s.ae⟩,an:=s.an.map eb}->K .next [some (.ref rb),some (nd aa x),some (.int p),some (.int aq),x4,x5] H'):
  aM tb C sL [some (.ref rb),some (nd aa x),some (.int p),some (.int aq),x4,x5] H K:=by
 have hb:=B.b;have hp:=B.p;unfold bC at hb;have hpm:(s.P.map (nd aa)).length=s.P.length:=List.length_map ..;have B1:=B.setB (s':={s with ag:=some ⟨s.P.length,xu x p,aq,s.ae⟩}) rfl rfl rfl rfl;have hi1:=B1.i;obtain⟨l,hl,hm⟩:=Ax ok;have fin:∀K:Fl->aE->Hp->Prop,(∀H' x4 x5,BA aa H' rb a {s with ag:=some ⟨s.P.length,xu x p,aq,s.ae⟩,an:=s.an.map eb}->K .next [some (.ref rb),some (nd aa x),some (.int p),some (.int aq),x4,x5] H')->ba (λρ=>ec ρ (.one 4)) (λρ H=>aM tb C b9 ρ H) (λ_=>True) (l.map .int) [some (.ref rb),some (nd aa x),some (.int p),some (.int aq),x4,x5] (H.set rb (bC a {s with ag:=some ⟨s.P.length,xu x p,aq,s.ae⟩})) K:=λK k=>by
  refine mo (s:={s with ag:=some ⟨s.P.length,xu x p,aq,s.ae⟩}) l s.an _ _ _ B1 ok (λn hn=>(hm n).mp hn) λH' x4 x5 B'=>k H' x4 x5 ?_;rw [nX,Ay hm]at B';exact B'
 rcases x with(⟨l,h,d'⟩|⟨w,s',z,kk,so⟩|v)|w|x|⟨n,s',c,ps,t⟩
 all_goals
  fail "x";refine cp.c ?_;rw [hpm];fail "x";refine ar hi1 ?_;fail "v";refine aS.mk ⟨_,hl,?_⟩;fail "v";refine ed.mk ?_;exact fin _ λH' x4 x5 B'=>k H' x4 x5 B'
structure QC(C:CT):Prop where c:∀{aa:Int} {rb:Nat} {a:eU} {s:BS} {x:Nd} {H:Hp} {K:V->Hp->Prop},BA aa H rb a s->bw s.an->((∃w,x= .k w)->2<=s.R.length)->(cC s.P s.R x≠none->Aw s)->((cC s.P s.R x=none\/∃p,cC s.P s.R x=some p/\10000<=p)->K .none H)->(∀p,cC s.P s.R x=some p->p<10000->∀H',BA aa H' rb a (upd s x p)->K (dN (Az s x p)) H')->C 74 [.ref rb,nd aa x] H K
theorem TY(d:Nat):QC (aG tb (d+5)):=⟨λ{aa rb a s x H K} B ok h2 cb kn ks=>by
 refine aw rfl rfl ?_;have c72:=TW (d+1);have c73:=TX (d+2);have cp:=Ho d;generalize aG tb (d+4)=C at*;have hb:=B.b;have hp:=B.p;have hi:=B.i;unfold bC at hb;rw [show bF=(match bF with|.cons a (.cons b (.cons c (.cons (.ite e _ f) _)))=>.cons a (.cons b (.cons c (.cons (.ite e sL f) sK)))|t=>t)from rfl];generalize hT:sK=T at*;generalize hU:sL=U at*;fail "x";refine c72.c B h2 ?_
 cases hpa:cC s.P s.R x with
 |none=>
  fail "r";exact kn (.inl hpa)
 |some p=>
  have ks:=ks p hpa;fail "r"
  ·rename_i hb;exact kn (.inr ⟨p,hpa,hb⟩)
  rename_i hp10;have hpm:(s.P.map (nd aa)).length=s.P.length:=List.length_map ..;have tail:lg (dD s p) s.ag=true->∀H',BA aa H' rb a {s with ag:=some ⟨s.P.length,xu x p,dD s p,s.ae⟩,an:=s.an.map eb}->∀x4 x5,
    aM tb C T [some (.ref rb),some (nd aa x),some (.int p),some (.int (dD s p)),x4,x5] H' (fL false H K):=λhbt H' B' x4 x5=>by
   subst hT;refine nY B' λρ=>?_;have e:upd s x p={s with ag:=some ⟨s.P.length,xu x p,dD s p,s.ae⟩,an:=s.an.map eb}:=if_pos hbt;have:=ks (by omega) H' (by rw [e];exact B');unfold Az at this;rw [e]at this;exact this
  have tailn:lg (dD s p) s.ag=false->∀x4 x5,
    aM tb C T [some (.ref rb),some (nd aa x),some (.int p),some (.int (dD s p)),x4,x5] H (fL false H K):=λhbt x4 x5=>by
   subst hT;refine nY B λρ=>?_;have e:upd s x p=s:=if_neg (by rw [hbt];simp);have:=ks (by omega) H (by rw [e];exact B);unfold Az at this;rw [e]at this;exact this
  fail "v";refine c73.c B (cb (by rw [hpa];simp)) ?_;rw [show rB s.total s.ae s.st s.sh p s.pen=dD s p from rfl];generalize dD s p=aq at*
  cases hbst:s.ag with
  |none=>
   rw [hbst]at tail hb;fail "r";subst hU;exact nZ cp B ok λH' x4 x5 B'=>tail rfl _ B' _ _
  |some b=>
   rw [hbst]at tail tailn hb;fail "r"
   ·rename_i hc;subst hU;exact nZ cp B ok λH' x4 x5 B'=>tail (decide_eq_true hc) _ B' _ _
   ·rename_i hc;exact tailn (decide_eq_false (Int.not_le.mpr hc)) _ _⟩
end
section
local macro_rules | `(tactic| fail "c") => `(tactic| first
 |rw [cA]
 |refine aV rfl ?_)
structure Ps(C:CT):Prop where c:∀{x:Int} {H:Hp} {K:V->Hp->Prop},K (.ref H.length) (H++[gC ⟨x,-1,-1,-1,0⟩])->C 1010 [.int x] H K
theorem Pt(d:Nat):Ps (aG tb (d+2)):=⟨λ{x H K} k=>by
 refine cN (c:=10) rfl rfl rfl rfl ?_;generalize aG tb d=C at*;fail "r";exact k⟩
theorem BA.addE{aa:Int}{a:eU}{s:BS}(h:BA aa H rb a s){n:Int}{r:Nat}{e:eT}(hr:H[r]?=some (gC e))(hn:n∉s.an.map (·.1)):
  BA aa (H.set a.i (.dct (dn n (.ref r) (fY s.an)))) rb a {s with an:=s.an++[(n,r,e)]} where
 b:=by rw [az (Ne.symm h.nbi)];exact h.b
 c:=by rw [az (Ne.symm h.nci)];exact h.c
 p:=by rw [az (Ne.symm h.npi)];exact h.p
 i:=by
  have:dn n (.ref r) (fY s.an)=fY (s.an++[(n,r,e)]):=by
   unfold fY;generalize s.an=an at*;clear h;induction an with
   |nil=>rfl
   |cons x an ih=>
    rw [List.map_cons,List.mem_cons,not_or]at hn;show(match decide (x.1=n)with|true=>_|false=>_)=_;rw [decide_eq_false (λe=>hn.1 e.symm)];show(x.1,V.ref x.2.1)::dn n (.ref r) (an.map λx=>(x.1,V.ref x.2.1))=_;rw [ih hn.2];rfl
  rw [this];exact bm h.i
 t:=by rw [az (Ne.symm h.nti)];exact h.t
 e:=λx hx=>by
  rcases List.mem_append.mp hx with hx|hx
  ·rw [az (h.nie x hx)];exact h.e x hx
  ·rw [List.mem_singleton]at hx;subst hx;rw [az (dy h.i hr (by intro h;cases h))];exact hr
 cp:=h.cp
 ct:=h.ct
 pt:=h.pt
theorem bw.add{an:fe}(h:bw an){n:Int}{r:Nat}{e:eT}(hn:n∉an.map (·.1))(hr:r∉an.map (·.2.1))(pb:n=1\/n=2):bw (an++[(n,r,e)]):=by
 refine⟨?_,?_,λx hx=>?_⟩
 ·rw [List.map_append];refine List.nodup_append.mpr ⟨h.k,by simp,λa ha b hb=>?_⟩;simp at hb;subst hb;rintro rfl;exact hn ha
 ·rw [List.map_append];refine List.nodup_append.mpr ⟨h.a,by simp,λa ha b hb=>?_⟩;simp at hb;subst hb;rintro rfl;exact hr ha
 ·rcases List.mem_append.mp hx with hx|hx
  ·exact h.m x hx
  ·rw [List.mem_singleton]at hx;subst hx;exact pb
theorem uW{n:Int}{e f:eT}{an:fe}:kput n f (kput n e an)=kput n f an:=by
 unfold kput;rw [List.map_map];apply List.map_congr_left;intro x _;simp only [Function.comp];by_cases h:x.1=n
 ·simp [h]
 ·simp [h]
theorem fZ(h:∀p∈ps,okP p):0<=be ps:=(jx (N:=0) (xs:=ps.map .pt) λx hx=>by obtain⟨p,hp,rfl⟩:=List.mem_map.mp hx;exact h p hp).1
def q4(cl:cz)(n:Int)(ps:List aA)(pl:Nat)(e:eT)(s:BS):BS:=
 {s with ae:=s.ae-aR (be (ps.take pl)) cl.ai,pen:=s.pen+gM ps pl,an:=kput n ⟨e.sz+be (ps.take pl),e.last,e.ag,s.P.length,pl⟩ s.an}
theorem uX:gM ps ps.length= -10000:=if_pos rfl
def yq:aA->Int
 |.p v=>v
 |_=>0
theorem mq{pl:Nat}(h:pl≠ps.length){x:aA}(hx:ps[pl]?=some x):gM ps pl=yq x:=by
 unfold gM;rw [if_neg h,hx];cases x<;>rfl
local macro_rules | `(tactic| fail "c") => `(tactic| first
 |with_reducible refine ar (by assumption) ?_
 |with_reducible refine dz (by assumption) ?_
 |refine aV rfl ?_
 |rw [List.set_set]
 |refine ar (by assumption) ?_)
structure Pu(C:CT):Prop where c:∀{aa:Int} {rb:Nat} {a:eU} {s:BS} {cl:cz} {n sz c t:Int} {ps:List aA} {pl r:Nat} {e:eT} {H:Hp} {K:V->Hp->Prop},BA aa H rb a s->bw s.an->(n,r,e)∈s.an->dW cl->(∀p∈ps,okP p)->pl<=ps.length->(∀H',BA aa H' rb a (q4 cl n ps pl e s)->K .none H')->C 77 [.ref rb,nd aa (.i n sz c ps t),dw cl n,.ref r,.int pl] H K
theorem TZ(d:Nat):Pu (aG tb (d+4)):=⟨λ{aa rb a s cl n sz c t ps pl r e H K} B ok hm hcl hps hpl k=>by
 refine aw rfl rfl ?_;have c16:=Qa (d+1);have c59:=Qw d;generalize aG tb (d+3)=C at*;have hb:=B.b;have hp:=B.p;unfold bC at hb;have he:=B.e _ hm;have hlm:(ps.map ci).length=ps.length:=List.length_map ..;have hpm:(s.P.map (nd aa)).length=s.P.length:=List.length_map ..;have hsz:0<=be (ps.take pl):=fZ λp hp=>hps p (List.mem_of_mem_take hp);have B1:=B.setE ok (e':={e with sz:=e.sz+be (ps.take pl)}) hm;have B2:=B.setE ok (e':=⟨e.sz+be (ps.take pl),e.last,e.ag,s.P.length,pl⟩) hm;have B3:=B2.setB (s':={s with an:=kput n ⟨e.sz+be (ps.take pl),e.last,e.ag,s.P.length,pl⟩ s.an,ae:=s.ae-aR (be (ps.take pl)) cl.ai}) rfl rfl rfl rfl;have B4:=λy=>B2.setB (s':={s with an:=kput n ⟨e.sz+be (ps.take pl),e.last,e.ag,s.P.length,pl⟩ s.an,ae:=s.ae-aR (be (ps.take pl)) cl.ai,pen:=y}) rfl rfl rfl rfl;have hb1:=B1.b;have hp1:=B1.p;have hb2:=B2.b;unfold gC at he;fail "x";refine c16.c (xs:=ps.take pl) (by rw [map_take hpl];exact .ad _) ?_;fail "r";rw [hpm];fail "x";refine c59.c hcl hsz ?_;have hb3:=B3.b;by_cases hend:pl=ps.length
 ·have B5:=B4 (s.pen+ -10000);have k2:=k _ (by unfold q4;rw [hend,uX,←hend];exact B5);fail "r";exact k2
 ·obtain⟨x,hx⟩:∃x,ps[pl]?=some x:=⟨_,List.getElem?_eq_getElem (by omega)⟩
  have B5:=B4 (s.pen+yq x);have k2:=k _ (by unfold q4;rw [mq hend hx];exact B5);have B6:=B4 (s.pen+0);rcases x with x|x|x;all_goals
   fail "x";refine hZ rfl hx ?_;fail "r"
  ·have k2:=k _ (by unfold q4;rw [mq hend hx,show yq (aA.b _ _ _)=0 from rfl,Int.add_zero];exact B3);exact k2
  ·have k2:=k _ (by unfold q4;rw [mq hend hx,show yq (aA.g _ _ _ _ _)=0 from rfl,Int.add_zero];exact B3);exact k2
  ·fail "v";refine hZ rfl hx ?_;fail "r";exact k2⟩
end
section
def dh:Nat->aU->aU
 |0,t=>t
 |n+1,.cons _ t=>dh n t
 |_+1,.nil=>.nil
def jd:Nat->aU->aU->aU
 |0,_,T=>T
 |n+1,.cons s r,T=>.cons s (jd n r T)
 |_+1,.nil,_=>.nil
local macro_rules | `(tactic| fail "c") => `(tactic| first
 |with_reducible refine ar (by assumption) ?_
 |with_reducible refine dz (by assumption) ?_
 |refine aV rfl ?_
 |rw [List.set_set]
 |refine ar (by assumption) ?_)
def sM(cl:cz)(n sz need G S:Int)(e:eT)(s:BS):BS:=
 {s with ae:=G-need,sh:=S,an:=kput n ⟨e.sz+sz,s.P.length,e.ag,e.sat,e.spl⟩ s.an}
def pz:aU:=dh 12 bc
theorem uY{aa:Int}{a:eU}{s:BS}{cl:cz}{n sz c t need S:Int}{r:Nat}{e:eT}(B:BA aa H rb a s)(ok:bw s.an)(hm:(n,r,e)∈s.an)
  (k:∀ρ H',BA aa H' rb a (sM cl n sz need G S e s)->K .next ρ H'):
  aM tb C pz [some (.ref rb),some (nd aa (.i n sz c ps t)),some (dw cl n),some (.ref r),x4,some (.int need),some (.int (-1)),some (.int G),some (.int S),x9] H K:=by
 have hb:=B.b;unfold bC at hb;have hpm:(s.P.map (nd aa)).length=s.P.length:=List.length_map ..;have B1:=B.setB (s':={s with ae:=G,sh:=S}) rfl rfl rfl rfl;have hb1:=B1.b;have hp1:=B1.p;have he1:=B1.e _ hm;have B2:=B1.setE ok (e':=⟨e.sz+sz,s.P.length,e.ag,e.sat,e.spl⟩) hm;have hb2:=B2.b;have he2:=(B1.setE ok (e':=⟨e.sz,s.P.length,e.ag,e.sat,e.spl⟩) hm).e _ (q3 hm);have B3:=B2.setB (s':=sM cl n sz need G S e s) rfl rfl rfl rfl;fail "r";rw [hpm];fail "r";exact k _ _ B3
theorem uZ(c77:Pu C){aa:Int}{a:eU}{s:BS}{cl:cz}{n sz c t need S:Int}{pl r:Nat}{e:eT}(B:BA aa H rb a s)(ok:bw s.an)(hm:(n,r,e)∈s.an)
  (hcl:dW cl) (hps:∀p∈ps,okP p) (hpl:pl<=ps.length) (k:∀ρ H',BA aa H' rb a (q4 cl n ps pl ⟨e.sz,s.P.length,e.ag,e.sat,e.spl⟩ {s with ae:=G,sh:=S})->K .next ρ H'):
  aM tb C pz [some (.ref rb),some (nd aa (.i n sz c ps t)),some (dw cl n),some (.ref r),x4,some (.int need),some (.int pl),some (.int G),some (.int S),x9] H K:=by
 have hb:=B.b;unfold bC at hb;have hpm:(s.P.map (nd aa)).length=s.P.length:=List.length_map ..;have B1:=B.setB (s':={s with ae:=G,sh:=S}) rfl rfl rfl rfl;have hb1:=B1.b;have hp1:=B1.p;have he1:=B1.e _ hm;have B2:=B1.setE ok (e':=⟨e.sz,s.P.length,e.ag,e.sat,e.spl⟩) hm;have hb2:=B2.b;fail "r";rw [hpm];fail "x";refine c77.c B2 ok.kput (q3 hm) hcl hps hpl λH' B'=>?_;fail "r";refine k _ _ ?_;unfold q4 at B'⊢;rw [uW]at B';exact B'
end
section
theorem bw.len{an:fe}(h:bw an):an.length<=2:=by
 have hk:=h.k;have hm:∀n∈an.map (·.1),n=1\/n=2:=λn hn=>by obtain⟨x,hx,rfl⟩:=List.mem_map.mp hn;exact h.m x hx
 have e:an.length=(an.map (·.1)).length:=by rw [List.length_map]
 rw [e];generalize an.map (·.1)=L at*;match L,hk,hm with
 | [],_,_=>simp
 | [a],_,_=>simp
 | [a,b],_,_=>simp
 |a::b::c::r,hk,hm=>
  exfalso;have h1:=hm a (by simp);have h2:=hm b (by simp);have h3:=hm c (by simp);simp at hk;omega
def jF:aU:=dh 10 bc
def pA:aU:=dh 7 bc
local macro_rules | `(tactic| fail "c") => `(tactic| first
 |with_reducible refine ar (by assumption) ?_
 |with_reducible refine dz (by assumption) ?_
 |refine aV rfl ?_
 |rw [List.set_set]
 |with_reducible refine Id.c (by assumption) (by assumption) (by assumption) ?_
 |refine ar (by assumption) ?_)
theorem tU(c59:Id C)(c18:Qx C)(c14:Qu C){cl:cz}{aa n sz c t S:Int}{r:Nat}{e:eT}(he:H[r]?=some (gC e))
  (hcl:dW cl) (hps:∀p∈ps,okP p) (hlen:ps.length<=50) (hd0:0<=aa) (hd1:aa<=1000000) (hsz:0<=sz) (hf1: -500000000<=G-U) (hf2:G-U<=500000000) (hz1:0<=e.sz) (hz2:e.sz<=500000000)
  (kw:¬(max (G-U+S) 0<aR sz cl.ai\/cl.most<sz+e.sz)->aM tb C jF [some (.ref rb),some (nd aa (.i n sz c ps t)),some (dw cl n),some (.ref r),x4,some (.int (aR sz cl.ai)),some (.int (-1)),some (.int G),some (.int S),some (.int U)] H K)
  (ks:(max (G-U+S) 0<aR sz cl.ai\/cl.most<sz+e.sz)->aM tb C jF [some (.ref rb),some (nd aa (.i n sz c ps t)),some (dw cl n),some (.ref r),x4,some (.int (aR sz cl.ai)),some (.int (bA (ps.map .pt) (bK cl e.sz (G-U)) aa:Nat)),some (.int G),some (.int S),some (.int U)] H K):
  aM tb C pA [some (.ref rb),some (nd aa (.i n sz c ps t)),some (dw cl n),some (.ref r),x4,x5,x6,some (.int G),some (.int S),some (.int U)] H K:=by
 have hr:=uU hcl hf1 hf2 hz1 hz2;unfold gC at he;have e7:pA=jd 3 pA jF:=rfl;rw [e7];generalize jF=T at*;fail "r"
 ·rename_i h1;fail "v";refine c18.c hcl hf1 hf2 hz1 hz2 ?_;fail "x";refine c14.c hd0 hd1 hps hlen hr.1 hr.2 λl=>?_;fail "r";exact ks (.inl h1)
 ·rename_i h1 h2;fail "v";refine c18.c hcl hf1 hf2 hz1 hz2 ?_;fail "x";refine c14.c hd0 hd1 hps hlen hr.1 hr.2 λl=>?_;fail "r";exact ks (.inr h2)
 ·rename_i h1 h2;exact kw (by omega)
def dj(cl:cz)(n:Int)(r:Nat)(e:eT)(s:BS):BS:=
 {(if s.ah=0 then fq s 1 else s)with an:=s.an++[(n,r,e)],st:=(if s.ah=0 then fq s 1 else s).st.set cl.gap.z ((if s.ah=0 then fq s 1 else s).st.getD cl.gap.z 0+cl.gap.s)}
theorem tV(c67:Hy C){a:eU}{s:BS}{cl:cz}{aa n sz c t:Int}{r:Nat}{e:eT}(B:BA aa H rb a s)(ok:bw s.an)(he:H[r]?=some (gC e))(hn:n∉s.an.map (·.1))(hr:r∉s.an.map (·.2.1))(pb:n=1\/n=2)
  (hcl:dW cl) (h4:s.st.length=4)
  (k:∀H' a',BA aa H' rb a' (dj cl n r e s)->bw (dj cl n r e s).an->aM tb C pz [some (.ref rb),some (nd aa (.i n sz c ps t)),some (dw cl n),some (.ref r),some (.bool true),x5,x6,x7,x8,x9] H' K):
  aM tb C jF [some (.ref rb),some (nd aa (.i n sz c ps t)),some (dw cl n),some (.ref r),some (.bool true),x5,x6,x7,x8,x9] H K:=by
 have e7:jF=jd 2 jF pz:=rfl;rw [e7];generalize pz=T at*;have hb:=B.b;unfold bC at hb;have hz:=hcl.z;have hlen:=ok.len;have C5:n.natAbs<2^60:=by omega
 have main:∀(s1:BS) (a1:eU) (H1:Hp),BA aa H1 rb a1 s1->s1.an=s.an->s1.st.length=4->H1[r]?=some (gC e)->
   (∀H' a',BA aa H' rb a' {s1 with an:=s.an++[(n,r,e)],st:=s1.st.set cl.gap.z (s1.st.getD cl.gap.z 0+cl.gap.s)}->aM tb C T [some (.ref rb),some (nd aa (.i n sz c ps t)),some (dw cl n),some (.ref r),some (.bool true),x5,x6,x7,x8,x9] H' K)->
   aM tb C (dh 1 (jd 2 jF T)) [some (.ref rb),some (nd aa (.i n sz c ps t)),some (dw cl n),some (.ref r),some (.bool true),x5,x6,x7,x8,x9] H1 K:=by
  intro s1 a1 H1 B1 hi1 Iz he1 k1;have hb1:=B1.b;unfold bC at hb1;have hd1:=B1.i;rw [hi1]at hd1;have B2:=B1.addE (n:=n) (e:=e) he1 (by rw [hi1];exact hn);rw [hi1]at B2;have hb2:=B2.b;have ht2:=B2.t;dsimp only at ht2;have B3:=B2.setT (st:=s1.st.set cl.gap.z (s1.st.getD cl.gap.z 0+cl.gap.s));have hlm:(fY s.an).length<=2:=by unfold fY;rw [List.length_map];exact hlen
  have hst:(s1.st.map V.int).length=4:=by rw [List.length_map];exact Iz
  fail "x";refine av.mk ⟨C5,by show _<=10000000;omega⟩ ?_;fail "r";exact k1 _ _ B3
 by_cases hs:s.ah=0
 ·have ea:dj cl n r e s={fq s 1 with an:=s.an++[(n,r,e)],st:=(fq s 1).st.set cl.gap.z ((fq s 1).st.getD cl.gap.z 0+cl.gap.s)}:=by unfold dj;rw [if_pos hs]
  fail "x";refine c67.c B λH1 B1 hfr=>?_;refine main _ _ _ B1 rfl rfl (by rw [hfr r (aF he) (dy he B.b (by intro h;cases h))];exact he) λH' a' B'=>?_;rw [←ea]at B';exact k _ _ B' (by rw [ea];exact ok.add hn hr pb)
 ·have ea:dj cl n r e s={s with an:=s.an++[(n,r,e)],st:=s.st.set cl.gap.z (s.st.getD cl.gap.z 0+cl.gap.s)}:=by unfold dj;rw [if_neg hs]
  have head1:∀(T':aU) (K':Fl->aE->Hp->Prop),aM tb C T' [some (.ref rb),some (nd aa (.i n sz c ps t)),some (dw cl n),some (.ref r),some (.bool true),x5,x6,x7,x8,x9] H K'->aM tb C (jd 1 jF T') [some (.ref rb),some (nd aa (.i n sz c ps t)),some (dw cl n),some (.ref r),some (.bool true),x5,x6,x7,x8,x9] H K':=by
   intro T' K' k';fail "r";exact k'
  show aM tb C (jd 1 jF (dh 1 (jd 2 jF T))) _ _ _;refine head1 _ _ ?_;refine main _ _ _ B rfl h4 he λH' a' B'=>?_;rw [←ea]at B';exact k _ _ B' (by rw [ea];exact ok.add hn hr pb)
end
section
def cK(s:BS):BS:=if s.ah=0 then fq s 1 else s
abbrev gP(cl:cz)(sz:Int)(e:eT)(G S U:Int):Prop:=max (G-U+S) 0<aR sz cl.ai\/cl.most<sz+e.sz
def eV(cl:cz)(aa n sz:Int)(ps:List aA)(e:eT)(G S U:Int)(s:BS):BS:=
 if gP cl sz e G S U then q4 cl n ps (bA (ps.map .pt) (bK cl e.sz (G-U)) aa) ⟨e.sz,s.P.length,e.ag,e.sat,e.spl⟩ {s with ae:=G,sh:=S}
 else sM cl n sz (aR sz cl.ai) G S e s
def e0(cl:cz):eT:=⟨cl.al,-1,-1,-1,0⟩
def jG(cl:cz)(s:BS):Int:=(cK s).ae-(aR cl.al cl.ai+cl.gap.w)
def pB(cl:cz)(aa n sz:Int)(ps:List aA)(e:eT)(s:BS):BS:=eV cl aa n sz ps e s.ae s.sh (s.total+s.dp) s
def jZ(cl:cz)(aa n sz:Int)(ps:List aA)(r:Nat)(s:BS):BS:=eV cl aa n sz ps (e0 cl) (jG cl s) ((cK s).sh+cl.gap.k) ((cK s).total+(cK s).dp) (dj cl n r (e0 cl) s)
theorem pC{cl:cz}{aa n sz:Int}{e:eT}{S:Int}{s:BS}(h:bw s.an):bw (eV cl aa n sz ps e G S U s).an:=by
 unfold eV;split
 ·exact h.kput
 ·exact h.kput
theorem lh(c77:Pu C){aa:Int}{a:eU}{s:BS}{cl:cz}{n sz c t S:Int}{r:Nat}{e:eT}{pl:Int}{K:V->Hp->Prop}(B:BA aa H rb a s)(ok:bw s.an)(hm:(n,r,e)∈s.an)
  (hcl:dW cl) (hps:∀p∈ps,okP p) (hpl:(¬gP cl sz e G S U/\pl= -1)\/(gP cl sz e G S U/\pl=(bA (ps.map .pt) (bK cl e.sz (G-U)) aa:Nat)))
  (k:∀H',BA aa H' rb a (eV cl aa n sz ps e G S U s)->K .none H') {H0:Hp}:
  aM tb C pz [some (.ref rb),some (nd aa (.i n sz c ps t)),some (dw cl n),some (.ref r),x4,some (.int (aR sz cl.ai)),some (.int pl),some (.int G),some (.int S),x9] H (fL false H0 K):=by
 rcases hpl with⟨h,rfl⟩|⟨h,rfl⟩
 ·refine uY B ok hm λρ H' B'=>k H' ?_;unfold eV;rw [if_neg h];exact B'
 ·have hle:bA (ps.map .pt) (bK cl e.sz (G-U)) aa<=ps.length:=by
   have:=l9 (ps:=ps.map Nd.pt) (room:=bK cl e.sz (G-U)) (aa:=aa);rw [List.length_map]at this;exact this
  refine uZ c77 B ok hm hcl hps hle λρ H' B'=>k H' ?_;unfold eV;rw [if_pos h];exact B'
local macro_rules | `(tactic| fail "c") => `(tactic| first
 |with_reducible refine ar (by assumption) ?_
 |with_reducible refine dz (by assumption) ?_
 |refine aV rfl ?_
 |rw [List.set_set]
 |with_reducible refine AT.c (by assumption) ?_
 |with_reducible refine Id.c (by assumption) (by assumption) (by assumption) ?_)
structure T0(C:CT):Prop where c:∀{aa:Int} {rb:Nat} {a:eU} {s:BS} {cl:cz} {n sz c t:Int} {ps:List aA} {H:Hp} {K:V->Hp->Prop},BA aa H rb a s->bw s.an->n=1\/n=2->dW cl->(∀p∈ps,okP p)->ps.length<=50->0<=aa->aa<=1000000->0<=sz->s.st.length=4->(s.ah=0->s.an=[])->(∀x∈s.an,0<=x.2.2.sz/\x.2.2.sz<=500000000)->-400000000<=(cK s).ae-((cK s).total+(cK s).dp)->(cK s).ae-((cK s).total+(cK s).dp)<=500000000->(∀r e,(n,r,e)∈s.an->0<=e.sat->∀H',BA aa H' rb a {s with pen:=s.pen+c}->K .none H')->(∀r e,(n,r,e)∈s.an->e.sat<0->∀H',BA aa H' rb a (pB cl aa n sz ps e s)->K .none H')->(n∉s.an.map (·.1)->∀r H' a',BA aa H' rb a' (jZ cl aa n sz ps r s)->bw (jZ cl aa n sz ps r s).an->K .none H')->C 76 [.ref rb,nd aa (.i n sz c ps t),dw cl n] H K
set_option maxHeartbeats 1000000 in
theorem T1(d:Nat):T0 (aG tb (d+6)):=⟨λ{aa rb a s cl n sz c t ps H K} B ok pb hcl hps hlen hd0 hd1 hsz h4 hst hez hf1 hf2 kA kB kC=>by
 refine aw rfl rfl ?_;have c17:=OX (d+4);have c59:=Qw (d+2);have c18:=TM (d+2);have c14:=TH d;have c67:=Hz (d+3);have c77:=TZ (d+1);have cn:=Pt (d+3);generalize aG tb (d+5)=C at*;have hb:=B.b;have hi:=B.i;unfold bC at hb;have hheld:=hcl.al;have hh0:0<=cl.al:=hheld.1;rw [show bc=jd 7 bc pA from rfl];by_cases hin:n∈s.an.map (·.1)
 ·obtain⟨⟨m,r,e⟩,hm,e1⟩:=List.mem_map.mp hin;dsimp only at e1;subst e1;have hd:=fI ok.k hm;have he:=B.e _ hm;have he':H[r]?=some (CO.inst 10 [some (.int e.sz),some (.int e.last),some (.int e.ag),some (.int e.sat),some (.int e.spl)]):=he;have hs0:s.ah≠0:=λh=>by rw [hst h]at hm;cases hm
  have es1:cK s=s:=if_neg hs0;rw [es1]at hf1 hf2;have B1:=B;by_cases hsat:0<=e.sat
  ·have k2:=kA r e hm hsat _ (B.setB (s':={s with pen:=s.pen+c}) rfl rfl rfl rfl);generalize pA=T at*;fail "v";refine ar hb ?_;fail "v";refine aS.mk ⟨_,rfl,?_⟩;fail "v";refine ar hi ?_;fail "v";refine aS.mk ⟨_,rfl,?_⟩;fail "v";refine ar hi ?_;fail "v";rw [hd];fail "r";exact k2
  ·have k2:=kB r e hm (by omega);have mid:∀x5 x6,aM tb C pA [some (.ref rb),some (nd aa (.i m sz c ps t)),some (dw cl m),some (.ref r),some (.bool false),x5,x6,some (.int s.ae),some (.int s.sh),some (.int (s.total+s.dp))] H (fL false H K):=by
    intro x5 x6;have hz:=hez _ hm;have skip:∀(x5 x6 x7 x8 x9:Option V) (K':Fl->aE->Hp->Prop),aM tb C pz [some (.ref rb),some (nd aa (.i m sz c ps t)),some (dw cl m),some (.ref r),some (.bool false),x5,x6,x7,x8,x9] H K'->aM tb C jF [some (.ref rb),some (nd aa (.i m sz c ps t)),some (dw cl m),some (.ref r),some (.bool false),x5,x6,x7,x8,x9] H K':=by
     intro x5 x6 x7 x8 x9 K' k';rw [show jF=jd 2 jF pz from rfl];generalize pz=T at*;fail "r";exact k'
    refine tU c59 c18 c14 he hcl hps hlen hd0 hd1 hsz (by omega) hf2 hz.1 hz.2 (λhn=>?_) (λhn=>?_)
    ·exact skip _ _ _ _ _ _ (lh c77 B ok hm hcl hps (.inl ⟨hn,rfl⟩) k2)
    ·exact skip _ _ _ _ _ _ (lh c77 B ok hm hcl hps (.inr ⟨hn,rfl⟩) k2)
   generalize pA=T at*;fail "v";refine ar hb ?_;fail "v";refine aS.mk ⟨_,rfl,?_⟩;fail "v";refine ar hi ?_;fail "v";refine aS.mk ⟨_,rfl,?_⟩;fail "v";refine ar hi ?_;fail "v";rw [hd];fail "r";exact mid _ _
 ·have hd:=qY hin;have mid:∀x5 x6,aM tb C pA [some (.ref rb),some (nd aa (.i n sz c ps t)),some (dw cl n),some (.ref H.length),some (.bool true),x5,x6,some (.int (jG cl s)),some (.int ((cK s).sh+cl.gap.k)),some (.int ((cK s).total+(cK s).dp))] (H++[gC (e0 cl)]) (fL false H K):=by
   intro x5 x6;have Ba:=B.app [gC (e0 cl)];have hr:H.length∉s.an.map (·.2.1):=λh=>by
    obtain⟨x,hx,e⟩:=List.mem_map.mp h;have:=aF (B.e x hx);omega
   have hheld2:aR cl.al cl.ai<=20000/\0<=aR cl.al cl.ai:=by
    have hq:cl.al.fdiv 1000=cl.al / 1000:=Int.fdiv_eq_ediv_of_nonneg _ (by omega);unfold aR;rw [hq];have:=hcl.ai;split
    ·omega
    ·rcases this with h|h|h<;>rw [h]<;>omega
   have hw:=hcl.w;refine tU c59 c18 c14 bP hcl hps hlen hd0 hd1 hsz (by unfold jG;omega) (by unfold jG;omega) hh0 (by show cl.al<=_;omega) (λhn=>?_) (λhn=>?_)
   ·refine tV c67 Ba ok bP hin hr pb hcl h4 λH' a' B' ok'=>?_;exact lh c77 B' ok' (by show _∈s.an++_;simp) hcl hps (.inl ⟨hn,rfl⟩) λH2 B2=>kC hin _ _ _ B2 (pC ok')
   ·refine tV c67 Ba ok bP hin hr pb hcl h4 λH' a' B' ok'=>?_;exact lh c77 B' ok' (by show _∈s.an++_;simp) hcl hps (.inr ⟨hn,rfl⟩) λH2 B2=>kC hin _ _ _ B2 (pC ok')
  have hb2:(H++[gC (e0 cl)])[rb]?=some (bC a s):=(B.app [gC (e0 cl)]).b;unfold bC at hb2;generalize pA=T at*;fail "v";refine ar hb ?_;fail "v";refine aS.mk ⟨_,rfl,?_⟩;fail "v";refine ar hi ?_;fail "v";refine aS.mk ⟨_,rfl,?_⟩;fail "v";refine ar hi ?_;fail "v";rw [hd];fail "x";refine cn.c ?_;rw [show gC ⟨cl.al,-1,-1,-1,0⟩=gC (e0 cl)from rfl];unfold jG at mid;unfold cK at mid;by_cases hs:s.ah=0
  ·rw [if_pos hs,show(fq s 1).total+(fq s 1).dp=0 from rfl,show(fq s 1).ae=s.vs from rfl,show(fq s 1).sh=0 from rfl]at mid;fail "r";exact mid _ _
  ·rw [if_neg hs]at mid;fail "r";exact mid _ _⟩
end
section
def bQ(x:Nd)(s:BS):BS:=match x with
 |.pt (.b l h d)=>{s with total:=s.total+(s.dp+h),dp:=d}
 |.pt (.g w st z k _)=>{s with st:=s.st.set z (s.st.getD z 0+st),sh:=s.sh+k,total:=s.total+(s.dp+w),dp:=0}
 |.k w=>{s with total:=s.total+(s.dp+w),dp:=0}
 |_=>s
def bn(s:BS):BS:=if s.mdp<s.dp then{s with total:=s.total+(s.dp-s.mdp),dp:=s.mdp}else s
def ff(x:Nd)(s:BS):BS:={s with P:=s.P++[x],R:=s.R.tail}
def gw:aU:=dh 1 bu
local macro_rules | `(tactic| fail "c") => `(tactic| first
 |with_reducible refine ar (by assumption) ?_
 |with_reducible refine dz (by assumption) ?_
 |refine aV rfl ?_
 |rw [List.set_set]
 |refine ar (by assumption) ?_)
theorem n5{aa:Int}{a:eU}{s:BS}{x:Nd}{K:V->Hp->Prop}(B:BA aa H rb a s)(hR:s.R=x::af)(hP:s.P.length<=1000)(k:∀H',BA aa H' rb a (ff x (bn s))->K .none H'):
  aM tb C gw [some (.ref rb),some (nd aa x),x2] H (fL false H0 K):=by
 have move:∀(s1:BS) (H1:Hp),BA aa H1 rb a s1->s1.R=x::af->s1.P.length<=1000->(∀H',BA aa H' rb a (ff x s1)->K .none H')->aM tb C (dh 1 gw) [some (.ref rb),some (nd aa x),x2] H1 (fL false H0 K):=by
  intro s1 H1 B1 h1 hP1 k1;have hb1:=B1.b;unfold bC at hb1;have hp1:=B1.p;have hc1:=B1.c;rw [h1]at hc1;have B2:=B1.setP (P:=s1.P++[x]);have hb2:=B2.b;unfold bC at hb2;have hc2:=B2.c;dsimp only at hc2;rw [h1]at hc2;have B3:=B2.setC (R:=af);rw [List.map_append]at B2 B3 hb2 hc2;have k2:=k1 _ (by unfold ff;rw [h1];exact B3);fail "x";refine av.mk (by show _<=10000000;rw [List.length_map];omega) ?_;fail "r";exact k2
 have hb:=B.b;unfold bC at hb;rw [show gw=jd 1 gw (dh 1 gw)from rfl];generalize hX:dh 1 gw=X at*;unfold bn at k;by_cases hk:s.mdp<s.dp
 ·rw [if_pos hk]at k;have B1:=B.setB (s':={s with total:=s.total+(s.dp-s.mdp),dp:=s.mdp}) rfl rfl rfl rfl;fail "r";subst hX;exact move _ _ B1 hR hP k
 ·rw [if_neg hk]at k;fail "r";subst hX;exact move _ _ B hR hP k
def isI:Nd->Bool
 |.i .. =>true
 |_=>false
local macro_rules | `(tactic| fail "c") => `(tactic| first
 |with_reducible refine ar (by assumption) ?_
 |with_reducible refine dz (by assumption) ?_
 |refine aV rfl ?_
 |rw [List.set_set]
 |refine S6.c (by assumption) ?_
 |refine S7.c (by assumption) ?_
 |refine ar (by assumption) ?_)
structure QD(C:CT):Prop where c:∀{aa:Int} {rb:Nat} {a:eU} {s:BS} {x:Nd} {af:List Nd} {tv:V} {H:Hp} {K:V->Hp->Prop},BA aa H rb a s->s.R=x::af->s.P.length<=1000->isI x=false->xt x->s.st.length=4->(∀H',BA aa H' rb a (ff x (bn (bQ x s)))->K .none H')->C 75 [.ref rb,nd aa x,tv] H K
theorem T2(d:Nat):QD (aG tb (d+2)):=⟨λ{aa rb a s x af tv H K} B hR hP hx hz h4 k=>by
 refine aw rfl rfl ?_;have c6:=s6 d;have c7:=s7 d;generalize aG tb (d+1)=C at*;have hb:=B.b;unfold bC at hb;have ht:=B.t;have ht4:(s.st.map V.int).length=4:=by rw [List.length_map];exact h4
 have tail:∀s1 H1,BA aa H1 rb a s1->s1.R=s.R->s1.P=s.P->s1=bQ x s->aM tb C gw [some (.ref rb),some (nd aa x),some tv] H1 (fL false H K):=by
  intro s1 H1 B1 h1 h2 h3;refine n5 B1 (by rw [h1,hR]) (by rw [h2];exact hP) ?_;rw [h3];exact k
 rw [show bu=jd 1 bu gw from rfl];generalize hX:gw=X at*;rcases x with(⟨l,h,d'⟩|⟨w,st,z,kk,so⟩|v)|w|c|⟨n,sz,c,ps,t⟩
 ·have B1:=B.setB (s':={s with total:=s.total+(s.dp+h),dp:=d'}) rfl rfl rfl rfl;fail "r";exact tail _ _ B1 rfl rfl rfl
 ·have hz:z<4:=hz;have B1:=B.setT (st:=s.st.set z (s.st.getD z 0+st));have hb1:=B1.b;have B2:=B1.setB (s':={s with st:=s.st.set z (s.st.getD z 0+st),sh:=s.sh+kk,total:=s.total+(s.dp+w),dp:=0}) rfl rfl rfl rfl;fail "r";exact tail _ _ B2 rfl rfl rfl
 ·fail "r";exact tail _ _ B rfl rfl rfl
 ·have B1:=B.setB (s':={s with total:=s.total+(s.dp+w),dp:=0}) rfl rfl rfl rfl;fail "r";exact tail _ _ B1 rfl rfl rfl
 ·fail "r";exact tail _ _ B rfl rfl rfl
 ·cases hx⟩
end
def yr:Nd->Bool
 |.pt (.b ..)=>true
 |_=>false
def iy(top:mL)(h:Int):Nd:=.pt (.g (max (top.w-h) 0) top.s top.z top.k 107)
def jH(top:mL):List Nd->List Nd->List Nd
 |pre,[]=>bG pre
 |pre,.pt (.b l h d)::af=>bG pre++iy top h:: .pt (.b l h d)::af
 |pre,x::af=>jH top (pre++[x]) af
def bj(top:mL)(xs:List Nd):List Nd:=jH top [] xs
theorem n6{top:mL}:∀{xs pre:List Nd},(jH top pre xs).map aP=(iZ top pre xs).map aP
 | [],pre=>rfl
 |x::xs,pre=>by
  rcases x with(⟨l,h,d⟩|x|x)|x|x|x
  ·show(bG pre++iy top h:: .pt (.b l h d)::xs).map aP=(bG pre++_:: .pt (.b l h d)::xs).map aP;rw [List.map_append,List.map_append];rfl
  all_goals exact n6 (xs:=xs) (pre:=pre++[_])
theorem eC{top:mL}{l h d:Int}{af:List Nd}:∀{xs pre:List Nd},(∀x∈xs,yr x=false)->jH top pre (xs++ .pt (.b l h d)::af)=bG (pre++xs)++iy top h:: .pt (.b l h d)::af
 | [],pre,_=>by rw [List.append_nil];rfl
 |x::xs,pre,hx=>by
  have h1:=hx x (.head _);have ih:=eC (top:=top) (l:=l) (h:=h) (d:=d) (af:=af) (xs:=xs) (pre:=pre++[x]) λy hy=>hx y (.tail _ hy);rw [List.append_assoc]at ih;rcases x with(x|x|x)|x|x|x
  ·cases h1
  all_goals exact ih
theorem dO{top:mL}:∀{xs pre:List Nd},(∀x∈xs,yr x=false)->jH top pre xs=bG (pre++xs)
 | [],pre,_=>by rw [List.append_nil];rfl
 |x::xs,pre,hx=>by
  have h1:=hx x (.head _);have ih:=dO (top:=top) (xs:=xs) (pre:=pre++[x]) λy hy=>hx y (.tail _ hy);rw [List.append_assoc]at ih;rcases x with(x|x|x)|x|x|x
  ·cases h1
  all_goals exact ih
theorem pD:∀(xs:List Nd),(∀x∈xs,yr x=false)\/∃pre l h d af,(∀x∈pre,yr x=false)/\xs=pre++ .pt (.b l h d)::af
 | []=>.inl λ_ h=>by cases h
 |x::xs=>by
  by_cases hx:yr x=true
  ·rcases x with(⟨l,h,d⟩|x|x)|x|x|x
   ·exact .inr ⟨[],l,h,d,xs,λ_ h=>(by cases h),rfl⟩
   all_goals cases hx
  ·have hx:yr x=false:=by simpa using hx
   rcases pD xs with h|⟨pre,l,h,d,af,h1,h2⟩
   ·exact .inl λy hy=>by rcases List.mem_cons.mp hy with rfl|hy;exact hx;exact h y hy
   ·exact .inr ⟨x::pre,l,h,d,af,λy hy=>by rcases List.mem_cons.mp hy with rfl|hy;exact hx;exact h1 y hy,by rw [h2];rfl⟩
theorem mr{xs ys:List Nd}:bG (xs++ys)=bG xs++bG ys:=List.filter_append ..
theorem j0{N:Nat}{xs:List Nd}(h:∀x∈xs,bV N x):∀x∈bG xs,bV N x:=λx hx=>h x (List.mem_filter.mp hx).1
theorem kc{xs:List Nd}:∀x∈bG xs,iu x=true:=λx hx=>(List.mem_filter.mp hx).2
theorem yt{N:Nat}{top:mL}(g:m4 top){h:Int}(h0:0<=h):bV N (iy top h):=by
 have:=g.ok;have g1:=g.w;obtain⟨a,b,c,d,e,f,i,j⟩:=this;exact⟨by omega,by omega,c,d,e,f,i,j⟩
theorem fJ{N:Nat}{top:mL}(g:m4 top){xs:List Nd}(h:∀x∈xs,bV N x):∀x∈bj top xs,bV N x:=by
 rcases pD xs with hb|⟨pre,l,hh,d,af,h1,rfl⟩
 ·rw [bj,dO hb];exact j0 h
 ·rw [bj,eC h1,List.nil_append];intro x hx;rcases List.mem_append.mp hx with hx|hx
  ·exact j0 (λy hy=>h y (List.mem_append_left _ hy)) x hx
  ·rcases List.mem_cons.mp hx with rfl|hx
   ·exact yt g (h (.pt (.b l hh d)) (by simp)).2.2.1
   ·exact h x (List.mem_append_right _ hx)
theorem ie{top:mL}{xs:List Nd}:(bj top xs).length<=xs.length+1:=by
 rcases pD xs with hb|⟨pre,l,hh,d,af,h1,rfl⟩
 ·rw [bj,dO hb,List.nil_append];have:=jA (xs:=xs);omega
 ·rw [bj,eC h1,List.nil_append];have:=jA (xs:=pre);simp;omega
theorem w7{P:List Nd}{x:Nd}(hk:(∃w,x= .k w)->af≠[]){ext:List Nd}:pen (P++(x::af)++ext) P.length=(cC P (x::af) x).getD 10000:=by
 have e0:(P++(x::af)++ext)[P.length]?=some x:=by
  rw [List.append_assoc,List.getElem?_append_right (Nat.le_refl _),Nat.sub_self];rfl
 unfold pen;rw [e0];rcases x with(⟨l,h,d⟩|⟨w,s,z,k,so⟩|v)|w|x|x
 ·rfl
 ·show(if 0<P.length/\ky (P++_++ext)[P.length-1]?=true then(0:Int)else 10000)=(if jY P=true then some (0:Int)else none).getD 10000;have e:(0<P.length/\ky (P++(Nd.pt (.g w s z k so)::af)++ext)[P.length-1]?=true)↔jY P=true:=by
   unfold jY;rw [List.getLast?_eq_getElem?];by_cases hP:0<P.length
   ·rw [List.append_assoc,List.getElem?_append_left (by omega),List.getElem?_eq_getElem (by omega)];generalize P[P.length-1]'(by omega)=y;rcases y with(y|y|y)|y|y|y<;>simp [ky,iY]<;>omega
   ·have:P=[]:=List.eq_nil_of_length_eq_zero (by omega);subst this;simp
  by_cases h:jY P=true
  ·rw [if_pos (e.mpr h),if_pos h];rfl
  ·rw [if_neg (λq=>h (e.mp q)),if_neg h];rfl
 ·rfl
 ·have hne:=hk ⟨w,rfl⟩;obtain⟨y,ys,rfl⟩:=List.exists_cons_of_ne_nil hne;have e1:(P++(Nd.k w::y::ys)++ext)[P.length+1]?=some y:=by
   rw [List.append_assoc,List.getElem?_append_right (by omega),show P.length+1-P.length=1 by omega];rfl
  show(if Ai (P++_++ext)[P.length+1]?=true then(0:Int)else 10000)=(if Ai (some y)=true then some (0:Int)else none).getD 10000;rw [e1];split<;>rfl
 ·rfl
 ·rfl
theorem ig{cl:Int->cz}{aa:Int}:∀{xs ys pre:List Nd} {S:Sm},cT cl aa pre (xs++ys) S=cT cl aa (pre++xs) ys (cT cl aa pre xs S)
 | [],ys,pre,S=>by rw [List.append_nil];rfl
 |x::xs,ys,pre,S=>by
  show cT cl aa (pre++[x]) (xs++ys) _=_;rw [ig,List.append_assoc];rfl
theorem sN{cl:Int->cz}{vs aa:Int}{P:List Nd}{x:Nd}:bi cl vs aa (P++[x])=cy cl aa P (bi cl vs aa P) x:=by
 unfold bi;rw [ig];rfl
theorem q5{d1 d2:Int}:∀{xs:List Nd} {c1 c2:vy},c1.sh=c2.sh->c1.st=c2.st->(xs.foldl (aT d1) c1).sh=(xs.foldl (aT d2) c2).sh/\(xs.foldl (aT d1) c1).st=(xs.foldl (aT d2) c2).st
 | [],_,_,h,g=>⟨h,g⟩
 |x::xs,c1,c2,h,g=>by
  refine q5 (xs:=xs) (c1:=aT d1 c1 x) (c2:=aT d2 c2 x) ?_ ?_
  ·rcases x with(x|x|x)|x|x|x<;>first|exact h|(show c1.sh+_=c2.sh+_;rw [h])
  ·rcases x with(x|x|x)|x|x|x<;>first|exact g|(show c1.st.set _ _=c2.st.set _ _;rw [g])
theorem AA{d1 d2:Int}{xs:List Nd}:(ay d1 xs).sh=(ay d2 xs).sh:=(q5 rfl rfl).1
theorem u0{xs:List Int}{z:Nat}{v:Int}(h:xs.length=ys.length)(hz:z<xs.length):cq (xs.set z (xs.getD z 0+v)) ys=(cq xs ys).set z ((cq xs ys).getD z 0+v):=by
 rw [hV h];apply List.ext_getElem?;intro i;unfold cq;rw [List.getElem?_zipWith,List.getElem?_set,List.getElem?_set,List.getElem?_zipWith];have hl:z<(List.zipWith (λx1 x2:Int=>x1+x2) xs ys).length:=by rw [List.length_zipWith];omega
 by_cases hi:z=i
 ·subst hi;rw [if_pos rfl,if_pos hz,if_pos rfl,if_pos hl,List.getElem?_eq_getElem (show z<ys.length by omega),List.getD_eq_getElem?_getD,List.getD_eq_getElem?_getD,List.getElem?_eq_getElem hz,List.getElem?_eq_getElem (show z<ys.length by omega)];simp;omega
 ·rw [if_neg hi,if_neg hi]
theorem u8{xs:List Int}{z:Nat}{v:Int}(h:xs.length=ys.length)(hz:z<xs.length):cq xs (ys.set z (ys.getD z 0+v))=(cq xs ys).set z ((cq xs ys).getD z 0+v):=by
 rw [hV h];apply List.ext_getElem?;intro i;unfold cq;rw [List.getElem?_zipWith,List.getElem?_set,List.getElem?_set,List.getElem?_zipWith];have hl:z<(List.zipWith (λx1 x2:Int=>x1+x2) xs ys).length:=by rw [List.length_zipWith];omega
 by_cases hi:z=i
 ·subst hi;rw [if_pos rfl,if_pos (show z<ys.length by omega),if_pos rfl,if_pos hl,List.getElem?_eq_getElem hz,List.getD_eq_getElem?_getD,List.getD_eq_getElem?_getD,List.getElem?_eq_getElem hz,List.getElem?_eq_getElem (show z<ys.length by omega)];simp;omega
 ·rw [if_neg hi,if_neg hi]
structure zc(vs:Int)(S:Sm)(n:Nat):Prop where
 g:vs-3000000*n<=S.ae/\S.ae<=vs
 r:∀p∈S.ab,0<=p.2.sz/\p.2.sz<=3000000*n
theorem ke{s ai:Int}(h:ai=0\/ai=500\/ai=1000)(h0:0<=s):0<=aR s ai/\aR s ai<=s:=by
 have hq:s.fdiv 1000=s / 1000:=Int.fdiv_eq_ediv_of_nonneg _ (by omega);unfold aR;rw [hq];split
 ·omega
 ·rcases h with h|h|h<;>rw [h]<;>omega
theorem jI{n:Int}:∀{ab:Rows} {r:dI},aB n ab=some r->(n,r)∈ab
 | [],_,h=>by cases h
 |(m,x)::l,r,h=>by
  unfold aB at h;split at h
  ·rename_i e;cases h;rw [e];exact .head _
  ·exact .tail _ (jI h)
theorem pE{n:Int}{x:dI}:∀{ab:Rows} {p},p∈bH n x ab->p∈ab\/p.2=x
 | [],_,h=>by cases h
 |(m,y)::l,p,h=>by
  unfold bH at h;split at h
  ·rcases List.mem_cons.mp h with rfl|h
   ·exact .inr rfl
   ·exact .inl (.tail _ h)
  ·rcases List.mem_cons.mp h with rfl|h
   ·exact .inl (.head _)
   ·rcases pE h with h|h
    ·exact .inl (.tail _ h)
    ·exact .inr h
theorem sO(h:∀p∈ps,okP p){n:Nat}:0<=be (ps.take n)/\be (ps.take n)<=be ps:=by
 have h1:=fZ (ps:=ps.take n) λp hp=>h p (List.mem_of_mem_take hp);have h2:=fZ (ps:=ps.drop n) λp hp=>h p (List.mem_of_mem_drop hp);have h3:be ps=be (ps.take n)+be (ps.drop n):=by
  unfold be;rw [←jC,←List.map_append,List.take_append_drop]
 omega
theorem zc.step{vs aa:Int}{cl:Int->cz}(hc:∀n,n=1\/n=2->dW (cl n)){N:Nat}(hN:N<=50){S:Sm}{x:Nd}{m:Nat}(hx:bV N x)(h:zc vs S m):zc vs (cy cl aa pre S x) (m+1):=by
 have hg:=h.g;have mono:zc vs S (m+1):=⟨by omega,λp hp=>by have:=h.r p hp;omega⟩
 rcases x with x|x|x|⟨n,s,c,ps,t⟩
 ·exact mono
 ·exact mono
 ·exact mono
 ·obtain⟨hn,hs,hc0,hc1,hps,hpl,ht0,ht1⟩:=hx;have hcl:=hc n hn;have hsb:=mi hps hpl;have hs0:0<=s:=by omega
  have hs1:s<=2000000:=by omega
  have hheld:=hcl.al;have hw:=hcl.w;have tb1:=ke hcl.ai hheld.1;have tb2:=ke hcl.ai hs0;show zc vs (aZ (cl n) aa pre n s c ps (aD (cl n) n S)) (m+1);have hnew:vs-3000000*m-40000<=(aD (cl n) n S).ae/\(aD (cl n) n S).ae<=vs/\∀p∈(aD (cl n) n S).ab,0<=p.2.sz/\p.2.sz<=3000000*m+20000:=by
   unfold aD
   cases aB n S.ab with
   |some _=>exact⟨by dsimp only;omega,hg.2,λp hp=>by have:=h.r p hp;omega⟩
   |none=>
    refine⟨by dsimp only;omega,by dsimp only;omega,λp hp=>?_⟩;rcases List.mem_append.mp hp with hp|hp
    ·have:=h.r p hp;omega
    ·rw [List.mem_singleton]at hp;subst hp;dsimp only;omega
  generalize aD (cl n) n S=S1 at*;obtain⟨n1,n2,n3⟩:=hnew;unfold aZ;have hrow:0<=((aB n S1.ab).getD ⟨0,-1,-1,0⟩).sz/\((aB n S1.ab).getD ⟨0,-1,-1,0⟩).sz<=3000000*m+20000:=by
   cases hr:aB n S1.ab with
   |some r=>exact n3 _ (jI hr)
   |none=>simp only [Option.getD_none];omega
  generalize(aB n S1.ab).getD ⟨0,-1,-1,0⟩=row at*;dsimp only;split
  ·exact⟨by dsimp only;omega,λp hp=>by have:=n3 p hp;omega⟩
  split
  ·refine⟨by dsimp only;omega,λp hp=>?_⟩;rcases pE hp with hp|hp
   ·have:=n3 p hp;omega
   ·rw [hp];dsimp only;omega
  ·generalize bA (ps.map Nd.pt) (bK (cl n) row.sz (S1.ae-size pre)) aa=pl;have hp1:=sO hps (n:=pl);have tb3:=ke hcl.ai hp1.1;unfold be at hp1 tb3 hsb hs;refine⟨by dsimp only;omega,λp hp=>?_⟩;rcases pE hp with hp|hp
   ·have:=n3 p hp;omega
   ·rw [hp];dsimp only;omega
theorem tW{vs aa:Int}{cl:Int->cz}(hc:∀n,n=1\/n=2->dW (cl n)){N:Nat}(hN:N<=50):∀{xs:List Nd},(∀x∈xs,bV N x)->zc vs (bi cl vs aa xs) xs.length:=by
 have go:∀{xs pre:List Nd} {S:Sm} {m:Nat},(∀x∈xs,bV N x)->zc vs S m->zc vs (cT cl aa pre xs S) (m+xs.length):=by
  intro xs;induction xs with
  |nil=>intro pre S m _ h;exact h
  |cons x xs ih=>
   intro pre S m hx h;have:=ih (pre:=pre++[x]) (λy hy=>hx y (.tail _ hy)) (h.step hc hN (aa:=aa) (pre:=pre) (hx x (.head _)));rw [List.length_cons,show m+(xs.length+1)=m+1+xs.length by omega];exact this
 intro xs hx;have:=go (pre:=[]) (m:=0) hx (S:=⟨vs,0,[],[0,0,0,0],0⟩) ⟨by dsimp only;omega,λp hp=>by cases hp⟩;rw [Nat.zero_add]at this;exact this
structure Cf where
 cl:Int->cz
 vs:Int
 md:Int
 aa:Int
 top:mL
 N:Nat
structure Cf.Ok(F:Cf):Prop where
 cl:∀n,n=1\/n=2->dW (F.cl n)
 top:m4 F.top
 vs:0<=F.vs/\F.vs<=1000000
 md:0<=F.md/\F.md<=100000
 aa:0<=F.aa/\F.aa<=100000
 N:F.N<=50
def ft(e:eT):dI:=⟨e.sz,e.last,e.sat,e.spl⟩
def aL(an:fe):Rows:=an.map λx=>(x.1,ft x.2.2)
def Cf.S(F:Cf)(P:List Nd):Sm:=bi F.cl F.vs F.aa P
structure kW(F:Cf)(s:BS):Prop where
 tot:s.total=size s.P-(ay F.md s.P).dp
 dp:s.dp=(ay F.md s.P).dp
 st:s.st=cq (ay F.md s.P).st (F.S s.P).aj
 sh:s.sh=(ay F.md s.P).sh+(F.S s.P).give
 pen:s.pen=(F.S s.P).extra
 ae:s.ae=(F.S s.P).ae
 ab:aL s.an=(F.S s.P).ab
 mdp:s.mdp=F.md
def zd:Nd->Bool
 |.m _=>true
 |_=>false
def cO(F:Cf)(P:List Nd)(n:Int)(m:Nat):Int:=((aB n (F.S (P.take m)).ab).map (·.last)).getD (-1)
def Cf.end_(F:Cf)(L:List Nd):Option fG:=nK F.cl F.vs F.md F.aa L
def Cf.go(F:Cf)(L:List Nd)(n:Nat)(r:List Nd)(b:Option fG):Option fG:=gr F.cl F.vs F.md F.aa L n r b
def gQ(F:Cf)(s:BS):Prop:=match s.ag with
 |none=>∀x∈s.an,x.2.2.ag= -1
 |some e=>e.at_<=s.P.length/\∀x∈s.an,x.2.2.ag=cO F s.P x.1 e.at_
structure dk(F:Cf)(j:Nat)(s:BS)(W:List Nd):Prop where
 vs:s.vs=F.vs
 md:s.md=F.md
 st3:s.ah=0\/s.ah=1\/s.ah=2
 line:(s.ah=2/\s.P++s.R=bj F.top W/\∃x∈W,yr x=true)\/(s.ah≠2/\∃pre,W=pre++s.R/\(∀x∈pre,yr x=false)/\s.P=bG pre)
 zero:s.ah=0->(∀x∈s.P,zd x=true)/\s.total=0/\s.dp=0/\s.st=[0,0,0,0]/\s.sh=0/\s.pen=0/\s.mdp=0/\s.an=[]
 core:kW F (cK s)
 ok:bw s.an
 okW:∀x∈W,bV F.N x
 len:W.length<=60
 best0:s.ah≠2->s.ag=none
 fwd:s.ah=2->∀ext,F.end_ (s.P++s.R++ext)=F.go (s.P++s.R++ext) (s.P.length+j) ((s.R++ext).drop j) s.ag
 bst:gQ F s
 lk:∀w,s.P.getLast?=some (.k w)->s.R≠[]
section
variable {F:Cf}{j:Nat}{s:BS}{W:List Nd}
theorem dk.okPR(h:dk F j s W)(hF:F.Ok):∀x∈s.P++s.R,bV F.N x:=by
 rcases h.line with⟨_,e,_⟩|⟨_,pre,e,_,e2⟩
 ·rw [e];exact fJ hF.top h.okW
 ·intro x hx;have hW:=h.okW;rw [e]at hW;rcases List.mem_append.mp hx with hx|hx
  ·rw [e2]at hx;exact j0 (λy hy=>hW y (List.mem_append_left _ hy)) x hx
  ·exact hW x (List.mem_append_right _ hx)
theorem dk.okP(h:dk F j s W)(hF:F.Ok):∀x∈s.P,bV F.N x:=λx hx=>h.okPR hF x (List.mem_append_left _ hx)
theorem dk.okR(h:dk F j s W)(hF:F.Ok):∀x∈s.R,bV F.N x:=λx hx=>h.okPR hF x (List.mem_append_right _ hx)
theorem dk.lenPR(h:dk F j s W):s.P.length+s.R.length<=61:=by
 have hl:=h.len;rcases h.line with⟨_,e,_⟩|⟨_,pre,e,_,e2⟩
 ·have:=congrArg List.length e;rw [List.length_append]at this;have:=ie (top:=F.top) (xs:=W);omega
 ·have:=congrArg List.length e;rw [List.length_append]at this;have:=jA (xs:=pre);rw [e2];omega
theorem tX:(cK s).P=s.P:=by unfold cK;split<;>rfl
theorem pF:(cK s).an=s.an:=by unfold cK;split<;>rfl
end
theorem A5{x:Nd}(h:zd x=true):iu x=true:=by
 rcases x with(x|x|x)|x|x|x<;>first|rfl|cases h
theorem yu{F:Cf}:∀{P:List Nd},(∀x∈P,zd x=true)->F.S P=⟨F.vs,0,[],[0,0,0,0],0⟩/\ay F.md P=⟨[0,0,0,0],0,0⟩/\size P=0:=by
 intro P;unfold Cf.S bi ay;have:∀{P pre:List Nd} {S:Sm} {c:vy},(∀x∈P,zd x=true)->cT F.cl F.aa pre P S=S/\P.foldl (aT F.md) c=c/\size P=0:=by
  intro P;induction P with
  |nil=>intro _ _ _ _;exact⟨rfl,rfl,rfl⟩
  |cons x P ih=>
   intro pre S c h;have hx:=h x (.head _);obtain⟨h1,h2,h3⟩:=ih (pre:=pre++[x]) (S:=S) (c:=c) λy hy=>h y (.tail _ hy);rcases x with(x|x|x)|x|x|x;all_goals first
    |(cases hx;done)
    |exact⟨h1,h2,by show 0+size P=0;rw [h3];rfl⟩
 exactλh=>this h
theorem A6:cq [0,0,0,0] [0,0,0,0]=[0,0,0,0]:=by simp [cq]
theorem li{F:Cf}{n:Nat}{x:Nd}{r:List Nd}{b:Option fG}:
  F.go L n (x::r) b=if pen L n<10000 then
   (if ja F.cl F.vs F.md F.aa (L.take n) (pen L n)=2^30-1\/pen L n<=-10000 then cU ⟨n,m3 L[n]?,ja F.cl F.vs F.md F.aa (L.take n) (pen L n),(F.S (L.take n)).ae⟩ b
    else F.go L (n+1) r (cU ⟨n,m3 L[n]?,ja F.cl F.vs F.md F.aa (L.take n) (pen L n),(F.S (L.take n)).ae⟩ b))
   else F.go L (n+1) r b:=rfl
theorem AB{n:Nat}{x:Nd}(h:L[n]?=some x)(hx:iu x=true):pen L n=10000:=by
 unfold pen;rw [h];rcases x with(x|x|x)|x|x|x<;>first|rfl|cases hx
theorem ze{F:Cf}{L X:List Nd}{b:Option fG}:∀{B A:List Nd},L=A++B++X->(∀x∈B,iu x=true)->F.go L A.length (B++X) b=F.go L (A.length+B.length) X b
 | [],A,_,_=>rfl
 |y::B,A,e,h=>by
  have hy:L[A.length]?=some y:=by rw [e,List.append_assoc,List.getElem?_append_right (Nat.le_refl _),Nat.sub_self];rfl
  rw [List.cons_append,li,AB hy (h y (.head _)),if_neg (by decide)];have:=ze (F:=F) (L:=L) (X:=X) (b:=b) (B:=B) (A:=A++[y]) (by rw [e];simp) λz hz=>h z (.tail _ hz);rw [List.length_append,List.length_singleton]at this;rw [this,List.length_cons,Nat.add_assoc,Nat.add_comm 1]
theorem w8{F:Cf}{P X:List Nd}(h:∀x∈P,iu x=true):F.end_ (P++X)=F.go (P++X) P.length X none:=by
 have:=ze (F:=F) (L:=P++X) (X:=X) (b:=none) (B:=P) (A:=[]) rfl h;rw [List.length_nil,Nat.zero_add]at this;exact this
theorem gR{n:Int}{r:Nat}{e:eT}:∀{an:fe},(an.map (·.1)).Nodup->(n,r,e)∈an->aB n (aL an)=some (ft e)
 | [],_,h=>by cases h
 |(m,q,f)::an,hk,h=>by
  rw [List.map_cons,List.nodup_cons]at hk;show(if m=n then some (ft f)else aB n (aL an))=_;rcases List.mem_cons.mp h with h|h
  ·cases h;rw [if_pos rfl]
  ·have:m≠n:=by rintro rfl;exact hk.1 (List.mem_map.mpr ⟨_,h,rfl⟩)
   rw [if_neg this];exact gR hk.2 h
theorem tY{n:Int}:∀{an:fe},n∉an.map (·.1)->aB n (aL an)=none
 | [],_=>rfl
 |(m,q,f)::an,h=>by
  rw [List.map_cons,List.mem_cons,not_or]at h;show(if m=n then some (ft f)else aB n (aL an))=_;rw [if_neg (λe=>h.1 e.symm)];exact tY h.2
theorem yv{n:Int}{x:dI}:∀{an:fe},n∉an.map (·.1)->bH n x (aL an)=aL an
 | [],_=>rfl
 |(m,q,f)::an,h=>by
  rw [List.map_cons,List.mem_cons,not_or]at h;show(if m=n then(m,x)::aL an else(m,ft f)::bH n x (aL an))=_;rw [if_neg (λe=>h.1 e.symm),yv h.2];rfl
theorem yw{n:Int}{e:eT}{an:fe}(h:n∉an.map (·.1)):kput n e an=an:=by
 unfold kput;conv=>rhs;rw [←List.map_id an]
 apply List.map_congr_left;intro x hx;rw [if_neg (λe=>h (List.mem_map.mpr ⟨x,hx,e⟩))];rfl
theorem mt{n:Int}{e:eT}:∀{an:fe},(an.map (·.1)).Nodup->bH n (ft e) (aL an)=aL (kput n e an)
 | [],_=>rfl
 |(m,q,f)::an,hk=>by
  rw [List.map_cons,List.nodup_cons]at hk;show(if m=n then(m,ft e)::aL an else(m,ft f)::bH n (ft e) (aL an))=aL ((if m=n then(m,q,e)else(m,q,f))::kput n e an);by_cases h:m=n
  ·rw [if_pos h,if_pos h];subst h;rw [yw hk.1];rfl
  ·rw [if_neg h,if_neg h,mt hk.2];rfl
theorem pG{F:Cf}{P:List Nd}{x:Nd}:F.S (P++[x])=cy F.cl F.aa P (F.S P) x:=sN
theorem tZ{md:Int}(h:0<=md){P:List Nd}:(ay md P).dp<=md:=wY h (by exact h)
theorem eD{P:List Nd}{x:Nd}:size (P++[x])=size P+sz x:=by rw [jC];simp [size]
theorem lj{F:Cf}{P:List Nd}:(F.S P).aj.length=4:=fV
theorem n7{F:Cf}(hF:F.Ok){s:BS}{x:Nd}(h:kW F s)(hx:isI x=false)(ok:bV F.N x):kW F (ff x (bn (bQ x s))):=by
 have hS:F.S (s.P++[x])=F.S s.P:=by
  rw [pG];rcases x with(x|x|x)|x|x|x<;>first|rfl|cases hx
 obtain⟨tot,dp,st,sh,pen,ae,ab,mdp⟩:=h;have hdl:=tZ hF.md.1 (P:=s.P);have hml:(F.S s.P).aj.length=4:=lj;have hcl:(ay F.md s.P).st.length=4:=fU;have hmd:=hF.md.1;rcases x with(⟨l,h,d⟩|⟨w,g,z,k,so⟩|v)|w|c|x
 ·have e:bn (bQ (.pt (.b l h d)) s)={s with total:=s.total+(s.dp+h)+(d-min d F.md),dp:=min d F.md}:=by
   unfold bn bQ;dsimp only;rw [mdp];by_cases hk:F.md<d
   ·rw [if_pos hk,show min d F.md=F.md by omega]
   ·rw [if_neg hk,show min d F.md=d by omega,Int.sub_self,Int.add_zero]
  rw [e];refine⟨?_,?_,?_,?_,?_,?_,?_,mdp⟩
  ·show s.total+(s.dp+h)+(d-min d F.md)=size (s.P++[_])-(ay F.md (s.P++[_])).dp;rw [eD,aN];show _=size s.P+(h+d)-min d F.md;omega
  ·show min d F.md=(ay F.md (s.P++[_])).dp;rw [aN];rfl
  ·show s.st=cq (ay F.md (s.P++[_])).st (F.S (s.P++[_])).aj;rw [aN,hS];exact st
  ·show s.sh=(ay F.md (s.P++[_])).sh+(F.S (s.P++[_])).give;rw [aN,hS];exact sh
  ·show s.pen=(F.S (s.P++[_])).extra;rw [hS];exact pen
  ·show s.ae=(F.S (s.P++[_])).ae;rw [hS];exact ae
  ·show aL s.an=(F.S (s.P++[_])).ab;rw [hS];exact ab
 ·have hz:z<4:=ok.2.2.2.2.1;have e:bn (bQ (.pt (.g w g z k so)) s)={s with st:=s.st.set z (s.st.getD z 0+g),sh:=s.sh+k,total:=s.total+(s.dp+w),dp:=0}:=by
   unfold bn bQ;dsimp only;rw [mdp,if_neg (by omega)]
  rw [e];refine⟨?_,?_,?_,?_,?_,?_,?_,mdp⟩
  ·show s.total+(s.dp+w)=size (s.P++[_])-(ay F.md (s.P++[_])).dp;rw [eD,aN];show _=size s.P+w-0;omega
  ·show 0=(ay F.md (s.P++[_])).dp;rw [aN];rfl
  ·show s.st.set z (s.st.getD z 0+g)=cq (ay F.md (s.P++[_])).st (F.S (s.P++[_])).aj;rw [aN,hS,st];exact(u0 (by rw [hcl,hml]) (by rw [hcl];exact hz)).symm
  ·show s.sh+k=(ay F.md (s.P++[_])).sh+(F.S (s.P++[_])).give;rw [aN,hS];show _=(ay F.md s.P).sh+k+_;omega
  ·show s.pen=(F.S (s.P++[_])).extra;rw [hS];exact pen
  ·show s.ae=(F.S (s.P++[_])).ae;rw [hS];exact ae
  ·show aL s.an=(F.S (s.P++[_])).ab;rw [hS];exact ab
 ·have e:bn (bQ (.pt (.p v)) s)=s:=by
   unfold bn bQ;dsimp only;rw [mdp,if_neg (by omega)]
  rw [e];refine⟨?_,?_,?_,?_,?_,?_,?_,mdp⟩
  ·show s.total=size (s.P++[_])-(ay F.md (s.P++[_])).dp;rw [eD,aN];show _=size s.P+0-(ay F.md s.P).dp;omega
  ·show s.dp=(ay F.md (s.P++[_])).dp;rw [aN];exact dp
  ·show s.st=cq (ay F.md (s.P++[_])).st (F.S (s.P++[_])).aj;rw [aN,hS];exact st
  ·show s.sh=(ay F.md (s.P++[_])).sh+(F.S (s.P++[_])).give;rw [aN,hS];exact sh
  ·show s.pen=(F.S (s.P++[_])).extra;rw [hS];exact pen
  ·show s.ae=(F.S (s.P++[_])).ae;rw [hS];exact ae
  ·show aL s.an=(F.S (s.P++[_])).ab;rw [hS];exact ab
 ·have e:bn (bQ (.k w) s)={s with total:=s.total+(s.dp+w),dp:=0}:=by
   unfold bn bQ;dsimp only;rw [mdp,if_neg (by omega)]
  rw [e];refine⟨?_,?_,?_,?_,?_,?_,?_,mdp⟩
  ·show s.total+(s.dp+w)=size (s.P++[_])-(ay F.md (s.P++[_])).dp;rw [eD,aN];show _=size s.P+w-0;omega
  ·show 0=(ay F.md (s.P++[_])).dp;rw [aN];rfl
  ·show s.st=cq (ay F.md (s.P++[_])).st (F.S (s.P++[_])).aj;rw [aN,hS];exact st
  ·show s.sh=(ay F.md (s.P++[_])).sh+(F.S (s.P++[_])).give;rw [aN,hS];exact sh
  ·show s.pen=(F.S (s.P++[_])).extra;rw [hS];exact pen
  ·show s.ae=(F.S (s.P++[_])).ae;rw [hS];exact ae
  ·show aL s.an=(F.S (s.P++[_])).ab;rw [hS];exact ab
 ·have e:bn (bQ (.m c) s)=s:=by
   unfold bn bQ;dsimp only;rw [mdp,if_neg (by omega)]
  rw [e];refine⟨?_,?_,?_,?_,?_,?_,?_,mdp⟩
  ·show s.total=size (s.P++[_])-(ay F.md (s.P++[_])).dp;rw [eD,aN];show _=size s.P+0-(ay F.md s.P).dp;omega
  ·show s.dp=(ay F.md (s.P++[_])).dp;rw [aN];exact dp
  ·show s.st=cq (ay F.md (s.P++[_])).st (F.S (s.P++[_])).aj;rw [aN,hS];exact st
  ·show s.sh=(ay F.md (s.P++[_])).sh+(F.S (s.P++[_])).give;rw [aN,hS];exact sh
  ·show s.pen=(F.S (s.P++[_])).extra;rw [hS];exact pen
  ·show s.ae=(F.S (s.P++[_])).ae;rw [hS];exact ae
  ·show aL s.an=(F.S (s.P++[_])).ab;rw [hS];exact ab
 ·cases hx
inductive gS(F:Cf)(n sz c:Int)(ps:List aA)(s:BS):BS->Prop where
 |aq {r e}:(n,r,e)∈s.an->0<=e.sat->gS F n sz c ps s {s with pen:=s.pen+c}
 |old {r e}:(n,r,e)∈s.an->e.sat<0->gS F n sz c ps s (pB (F.cl n) F.aa n sz ps e s)
 |new {r}:n∉s.an.map (·.1)->bw (jZ (F.cl n) F.aa n sz ps r s).an->gS F n sz c ps s (jZ (F.cl n) F.aa n sz ps r s)
theorem cV{md:Int}{P:List Nd}{n s c t:Int}:ay md (P++[.i n s c ps t])=ay md P:=by rw [aN];rfl
theorem sP{P:List Nd}{n s c t:Int}:size (P++[.i n s c ps t])=size P:=by rw [eD];show _+0=_;omega
theorem w9{F:Cf}{s:BS}{S1:Sm}{n sz c t Sh:Int}{r:Nat}{e:eT}(hP:F.S (s.P++[.i n sz c ps t])=aZ (F.cl n) F.aa s.P n sz c ps S1)
  (tot:s.total=size s.P-(ay F.md s.P).dp) (dp:s.dp=(ay F.md s.P).dp) (st:s.st=cq (ay F.md s.P).st S1.aj) (sh:Sh=(ay F.md s.P).sh+S1.give) (pen:s.pen=S1.extra) (ae:G=S1.ae)
  (ab:aL s.an=S1.ab) (mdp:s.mdp=F.md) (hU:U=size s.P) (ok:bw s.an) (hm:(n,r,e)∈s.an) (hs:e.sat<0):
  kW F (ff (.i n sz c ps t) (eV (F.cl n) F.aa n sz ps e G Sh U s)):=by
 have hrow:(aB n S1.ab).getD ⟨0,-1,-1,0⟩=ft e:=by rw [←ab,gR ok.k hm];rfl
 have hfree:S1.ae-size s.P=G-U:=by rw [ae,hU]
 have hcond:((aR sz (F.cl n).ai<=0\/aR sz (F.cl n).ai<=G-U+S1.give+(ay 0 s.P).sh)/\sz+e.sz<=(F.cl n).most)↔¬gP (F.cl n) sz e G Sh U:=by
  unfold gP;rw [sh,AA (d1:=0) (d2:=F.md)];constructor
  ·intro h;omega
  ·intro h;omega
 have hS:aZ (F.cl n) F.aa s.P n sz c ps S1=if gP (F.cl n) sz e G Sh U then
   {S1 with ab:=bH n ⟨e.sz+be (ps.take (bA (ps.map .pt) (bK (F.cl n) e.sz (G-U)) F.aa)),s.P.length,s.P.length,bA (ps.map .pt) (bK (F.cl n) e.sz (G-U)) F.aa⟩ S1.ab,ae:=S1.ae-aR (be (ps.take (bA (ps.map .pt) (bK (F.cl n) e.sz (G-U)) F.aa))) (F.cl n).ai,extra:=S1.extra+gM ps (bA (ps.map .pt) (bK (F.cl n) e.sz (G-U)) F.aa)}
   else{S1 with ab:=bH n ⟨e.sz+sz,s.P.length,e.sat,e.spl⟩ S1.ab,ae:=S1.ae-aR sz (F.cl n).ai}:=by
  unfold aZ;rw [hrow];have h1:¬0<=(ft e).sat:=by show¬0<=e.sat;omega
  dsimp only;rw [if_neg h1,hfree,show(ft e).sz=e.sz from rfl];by_cases hb:gP (F.cl n) sz e G Sh U
  ·rw [if_pos hb,if_neg (λh=>hcond.mp h hb)];rfl
  ·rw [if_neg hb,if_pos (hcond.mpr hb)];rfl
 rw [hS]at hP;unfold eV;by_cases hb:gP (F.cl n) sz e G Sh U
 ·rw [if_pos hb]at hP⊢;generalize bA (ps.map .pt) (bK (F.cl n) e.sz (G-U)) F.aa=pl at*;refine⟨?_,?_,?_,?_,?_,?_,?_,mdp⟩
  ·show s.total=size (s.P++[_])-(ay F.md (s.P++[_])).dp;rw [sP,cV];exact tot
  ·show s.dp=(ay F.md (s.P++[_])).dp;rw [cV];exact dp
  ·show s.st=cq (ay F.md (s.P++[_])).st (F.S (s.P++[_])).aj;rw [cV,hP];exact st
  ·show Sh=(ay F.md (s.P++[_])).sh+(F.S (s.P++[_])).give;rw [cV,hP];exact sh
  ·show s.pen+gM ps pl=(F.S (s.P++[_])).extra;rw [hP,pen]
  ·show G-aR _ _=(F.S (s.P++[_])).ae;rw [hP,ae]
  ·show aL (kput n ⟨e.sz+be (ps.take pl),s.P.length,e.ag,s.P.length,pl⟩ s.an)=(F.S (s.P++[_])).ab;rw [hP,←mt ok.k,ab];rfl
 ·rw [if_neg hb]at hP⊢;refine⟨?_,?_,?_,?_,?_,?_,?_,mdp⟩
  ·show s.total=size (s.P++[_])-(ay F.md (s.P++[_])).dp;rw [sP,cV];exact tot
  ·show s.dp=(ay F.md (s.P++[_])).dp;rw [cV];exact dp
  ·show s.st=cq (ay F.md (s.P++[_])).st (F.S (s.P++[_])).aj;rw [cV,hP];exact st
  ·show Sh=(ay F.md (s.P++[_])).sh+(F.S (s.P++[_])).give;rw [cV,hP];exact sh
  ·show s.pen=(F.S (s.P++[_])).extra;rw [hP,pen]
  ·show G-aR _ _=(F.S (s.P++[_])).ae;rw [hP,ae]
  ·show aL (kput n ⟨e.sz+sz,s.P.length,e.ag,e.sat,e.spl⟩ s.an)=(F.S (s.P++[_])).ab;rw [hP,←mt ok.k,ab];rfl
theorem dP{n m:Int}{x:dI}:∀{ab:Rows},aB m ab≠none->aB m (bH n x ab)≠none
 | [],h=>h
 |(k,y)::l,h=>by
  unfold bH;by_cases h1:k=n
  ·rw [if_pos h1];unfold aB at h⊢;split<;>rename_i hk
   ·simp
   ·rw [if_neg hk]at h;exact h
  ·rw [if_neg h1];unfold aB at h⊢;split<;>rename_i hk
   ·simp
   ·rw [if_neg hk]at h;exact dP h
theorem kJ{m:Int}{q:Rows}:∀{ab:Rows},aB m ab≠none->aB m (ab++q)≠none
 | [],h=>absurd rfl h
 |(k,y)::l,h=>by
  unfold aB at h;show(if k=m then some y else aB m (l++q))≠none;split<;>rename_i hk
  ·simp
  ·rw [if_neg hk]at h;exact kJ h
theorem u9{cl:Int->cz}{aa:Int}{S:Sm}{x:Nd}{m:Int}(h:aB m S.ab≠none):aB m (cy cl aa pre S x).ab≠none:=by
 rcases x with x|x|x|⟨n,s,c,ps,t⟩
 ·exact h
 ·exact h
 ·exact h
 ·show aB m (aZ (cl n) aa pre n s c ps (aD (cl n) n S)).ab≠none;have h1:aB m (aD (cl n) n S).ab≠none:=by
   unfold aD
   cases aB n S.ab with
   |some _=>exact h
   |none=>exact kJ h
  unfold aZ;dsimp only;split
  ·exact h1
  split
  ·exact dP h1
  ·exact dP h1
theorem pH{cl:Int->cz}{aa:Int}{m:Int}:∀{xs pre:List Nd} {S:Sm},aB m S.ab≠none->aB m (cT cl aa pre xs S).ab≠none
 | [],_,_,h=>h
 |x::xs,pre,S,h=>pH (xs:=xs) (u9 h)
theorem t0{F:Cf}{P:List Nd}{m:Nat}:F.S P=cT F.cl F.aa (P.take m) (P.drop m) (F.S (P.take m)):=by
 conv=>lhs;rw [←List.take_append_drop m P]
 unfold Cf.S bi;rw [ig];rfl
theorem vd{F:Cf}{P:List Nd}{m:Nat}{n:Int}(h:aB n (F.S P).ab=none):aB n (F.S (P.take m)).ab=none:=by
 cases hq:aB n (F.S (P.take m)).ab with
 |none=>rfl
 |some r=>
  exfalso;rw [t0 (m:=m)]at h;exact pH (by rw [hq];simp) h
theorem sQ{F:Cf}{P:List Nd}{x:Nd}{n:Int}{m:Nat}(h:m<=P.length):cO F (P++[x]) n m=cO F P n m:=by
 unfold cO;rw [List.take_append_of_le_length h]
theorem bR(s:BS):(bn s).P=s.P/\(bn s).R=s.R/\(bn s).ah=s.ah/\(bn s).an=s.an/\(bn s).ag=s.ag/\(bn s).vs=s.vs/\(bn s).md=s.md:=by
 unfold bn;split<;>exact⟨rfl,rfl,rfl,rfl,rfl,rfl,rfl⟩
theorem gT(x:Nd)(s:BS):(bQ x s).P=s.P/\(bQ x s).R=s.R/\(bQ x s).ah=s.ah/\(bQ x s).an=s.an/\(bQ x s).ag=s.ag/\(bQ x s).vs=s.vs/\(bQ x s).md=s.md:=by
 rcases x with(x|x|x)|x|x|x<;>exact⟨rfl,rfl,rfl,rfl,rfl,rfl,rfl⟩
theorem dk.moved{F:Cf}{s r:BS}{x:Nd}(h:dk F 1 s W)(hR:s.R=x::af)(hkr:(∃w,x= .k w)->af≠[])(hx:s.ah=2\/iu x=true)
  (eP:r.P=s.P) (eR:r.R=s.R) (eb:r.ag=s.ag) (HP:r.vs=s.vs) (emd:r.md=s.md) (es:(s.ah=2->r.ah=2)/\(s.ah≠2->r.ah≠2)/\(r.ah=0\/r.ah=1\/r.ah=2))
  (zero:r.ah=0->(∀y∈r.P++[x],zd y=true)/\r.total=0/\r.dp=0/\r.st=[0,0,0,0]/\r.sh=0/\r.pen=0/\r.mdp=0/\r.an=[])
  (core:kW F (cK (ff x r))) (ok:bw r.an) (bst:match s.ag with|none=>∀y∈r.an,y.2.2.ag= -1|some e=>∀y∈r.an,y.2.2.ag=cO F s.P y.1 e.at_):dk F 0 (ff x r) W where
 vs:=HP.trans h.vs
 md:=emd.trans h.md
 st3:=es.2.2
 line:=by
  show(r.ah=2/\(r.P++[x])++r.R.tail=bj F.top W/\_)\/(r.ah≠2/\∃pre,W=pre++r.R.tail/\_/\r.P++[x]=bG pre);rw [eP,eR,hR];rcases h.line with⟨h2,e,hb⟩|⟨h2,pre,e1,e2,e3⟩
  ·refine .inl ⟨es.1 h2,?_,hb⟩;rw [←e,hR];simp
  ·have hmi:iu x=true:=by rcases hx with h|h;exact absurd h h2;exact h
   refine .inr ⟨es.2.1 h2,pre++[x],?_,λy hy=>?_,?_⟩
   ·rw [e1,hR];simp
   ·rcases List.mem_append.mp hy with hy|hy
    ·exact e2 y hy
    ·rw [List.mem_singleton]at hy;subst hy;rcases y with(y|y|y)|y|y|y<;>first|rfl|cases hmi
   ·rw [mr,e3];show _=_++List.filter iu [x];rw [List.filter_cons_of_pos hmi];rfl
 zero:=zero
 core:=core
 ok:=ok
 okW:=h.okW
 len:=h.len
 best0:=λhs=>by
  have:s.ah≠2:=λh2=>hs (es.1 h2);exact eb.trans (h.best0 this)
 fwd:=λhs ext=>by
  have h2:s.ah=2:=Classical.byContradiction λh2=>es.2.1 h2 hs;have:=h.fwd h2 ext;show F.end_ ((r.P++[x])++r.R.tail++ext)=F.go ((r.P++[x])++r.R.tail++ext) (r.P++[x]).length ((r.R.tail++ext).drop 0) r.ag;rw [eP,eR,eb,hR];rw [hR]at this;rw [List.length_append,List.length_singleton,List.drop_zero];have e:s.P++[x]++(x::af).tail++ext=s.P++(x::af)++ext:=by simp
  rw [e,this];rfl
 bst:=by
  have hb:=h.bst;unfold gQ at hb⊢;show match r.ag with|none=>∀y∈r.an,y.2.2.ag= -1|some e=>e.at_<=(r.P++[x]).length/\∀y∈r.an,y.2.2.ag=cO F (r.P++[x]) y.1 e.at_
  rw [eb,eP]
  cases hs:s.ag with
  |none=>rw [hs]at bst;exact bst
  |some e=>
   rw [hs]at bst hb;refine⟨by rw [List.length_append];have:=hb.1;omega,λy hy=>?_⟩;rw [sQ hb.1];exact bst y hy
 lk:=λw hw=>by
  have hw:(r.P++[x]).getLast?=some (.k w):=hw;rw [List.getLast?_append]at hw;show r.R.tail≠[];rw [eR,hR];exact hkr ⟨w,by simpa using hw⟩
theorem gU{F:Cf}{s:BS}(h:gQ F s):match s.ag with|none=>∀y∈s.an,y.2.2.ag= -1|some e=>∀y∈s.an,y.2.2.ag=cO F s.P y.1 e.at_:=by
 unfold gQ at h
 cases hs:s.ag with
 |none=>rw [hs]at h;exact h
 |some e=>rw [hs]at h;exact h.2
theorem bM{s:BS}(h:s.ah≠0):cK s=s:=if_neg h
theorem fu{s:BS}(h:s.ah=0):cK s=fq s 1:=if_pos h
theorem dk.take{F:Cf}(hF:F.Ok){s:BS}{x:Nd}(h:dk F 1 s W)(hR:s.R=x::af)(hkr:(∃w,x= .k w)->af≠[])(hx:s.ah=2\/iu x=true)(hi:isI x=false):dk F 0 (ff x (bn (bQ x s))) W:=by
 obtain⟨k1,k2,k3,k4,k5,k6,k7⟩:=bR (bQ x s);obtain⟨f1,f2,f3,f4,f5,f6,f7⟩:=gT x s;have hok:bV F.N x:=h.okR hF x (by rw [hR];exact .head _);have hst:(bn (bQ x s)).ah=s.ah:=k3.trans f3;have hm:s.ah=0->zd x=true/\bn (bQ x s)=s:=λh0=>by
  have hmi:iu x=true:=by rcases hx with h|h;omega;exact h
  have z:=h.zero h0;rcases x with(x|x|x)|x|x|x;all_goals first
   |(cases hmi;done)
   |(cases hi;done)
   |refine⟨rfl,?_⟩
  show(if s.mdp<s.dp then _ else _)=_;rw [if_neg (by omega)];rfl
 refine h.moved hR hkr hx (k1.trans f1) (k2.trans f2) (k5.trans f5) (k6.trans f6) (k7.trans f7) ⟨λh2=>by rw [hst];exact h2,λh2=>by rw [hst];exact h2,by rw [hst];exact h.st3⟩ (λh0=>?_) ?_ (by rw [k4,f4];exact h.ok) (by rw [k4,f4];exact gU h.bst)
 ·rw [hst]at h0;obtain⟨m1,m2⟩:=hm h0;have z:=h.zero h0;rw [m2];refine⟨λy hy=>?_,z.2⟩;rcases List.mem_append.mp hy with hy|hy
  ·exact z.1 y hy
  ·rw [List.mem_singleton]at hy;subst hy;exact m1
 ·by_cases h0:s.ah=0
  ·obtain⟨m1,m2⟩:=hm h0;rw [m2,fu (show(ff x s).ah=0 from h0)];have c:=n7 hF (x:=x) h.core hi hok;rw [fu h0]at c;have e:bn (bQ x (fq s 1))=fq s 1:=by
    rcases x with(x|x|x)|x|x|x;all_goals first|(cases m1;done)|skip
    show(if s.md<0 then _ else _)=_;rw [if_neg (by have:=h.md;have:=hF.md;omega)];rfl
   rw [e]at c;exact c
  ·rw [bM (show(ff x (bn (bQ x s))).ah≠0 by show(bn (bQ x s)).ah≠0;rw [hst];exact h0)];have:=h.core;rw [bM h0]at this;exact n7 hF this hi hok
theorem mv{s:BS}(h:s.dp<=s.mdp):bn s=s:=if_neg (by omega)
theorem bZ{cl:cz}{aa n sz:Int}{e:eT}{S:Int}{s:BS}:(eV cl aa n sz ps e G S U s).P=s.P/\(eV cl aa n sz ps e G S U s).R=s.R/\(eV cl aa n sz ps e G S U s).ah=s.ah/\(eV cl aa n sz ps e G S U s).ag=s.ag/\(eV cl aa n sz ps e G S U s).vs=s.vs/\(eV cl aa n sz ps e G S U s).md=s.md/\(eV cl aa n sz ps e G S U s).dp=s.dp/\(eV cl aa n sz ps e G S U s).mdp=s.mdp:=by
 unfold eV;split<;>exact⟨rfl,rfl,rfl,rfl,rfl,rfl,rfl,rfl⟩
theorem mw{cl:cz}{aa n sz:Int}{e:eT}{S:Int}{s:BS}:∃e',e'.ag=e.ag/\(eV cl aa n sz ps e G S U s).an=kput n e' s.an:=by
 unfold eV;split
 ·refine⟨_,?_,rfl⟩;rfl
 ·refine⟨_,?_,rfl⟩;rfl
theorem ii{n:Int}{e':eT}{Q:Int->Int->Prop}{an:fe}(h:∀y∈an,Q y.1 y.2.2.ag)(hn:Q n e'.ag):∀y∈kput n e' an,Q y.1 y.2.2.ag:=λy hy=>by
 obtain⟨z,hz,e⟩:=List.mem_map.mp hy;by_cases h1:z.1=n
 ·rw [if_pos h1]at e;subst e;rw [←h1]at hn;exact hn
 ·rw [if_neg h1]at e;subst e;exact h z hz
theorem dk.takeI{F:Cf}(hF:F.Ok){s r:BS}{n sz c t:Int}(h:dk F 1 s W)(hR:s.R= .i n sz c ps t::af)(hr:gS F n sz c ps s r):dk F 0 (ff (.i n sz c ps t) (bn r)) W:=by
 have hok:bV F.N (.i n sz c ps t):=h.okR hF _ (by rw [hR];exact .head _);have hcore:=h.core;have hmd:=hF.md;have hx:s.ah=2\/iu (.i n sz c ps t)=true:=.inr rfl
 cases hr with
 | @aq q e hm hs=>
  have h0:s.ah≠0:=λh0=>by rw [(h.zero h0).2.2.2.2.2.2.2]at hm;cases hm
  rw [bM h0]at hcore;have hdp:s.dp<=s.mdp:=by rw [hcore.dp,hcore.mdp];exact tZ hmd.1
  rw [mv (s:={s with pen:=s.pen+c}) hdp];have hrow:aB n (F.S s.P).ab=some (ft e):=by rw [←hcore.ab];exact gR h.ok.k hm
  have hS:F.S (s.P++[.i n sz c ps t])={F.S s.P with extra:=(F.S s.P).extra+c}:=by
   rw [pG];show aZ (F.cl n) F.aa s.P n sz c ps (aD (F.cl n) n (F.S s.P))=_;have e1:aD (F.cl n) n (F.S s.P)=F.S s.P:=by unfold aD;rw [hrow]
   rw [e1];unfold aZ;rw [hrow];dsimp only [Option.getD_some];rw [if_pos (show 0<=(ft e).sat from hs)]
  refine h.moved hR (λ⟨w,e⟩=>by cases e) hx rfl rfl rfl rfl rfl ⟨λh=>h,λh=>h,h.st3⟩ (λh1=>absurd h1 h0) ?_ h.ok (gU h.bst);rw [bM (show(ff _ {s with pen:=s.pen+c}).ah≠0 from h0)];refine⟨?_,?_,?_,?_,?_,?_,?_,hcore.mdp⟩
  ·show s.total=size (s.P++[_])-(ay F.md (s.P++[_])).dp;rw [sP,cV];exact hcore.tot
  ·show s.dp=(ay F.md (s.P++[_])).dp;rw [cV];exact hcore.dp
  ·show s.st=cq (ay F.md (s.P++[_])).st (F.S (s.P++[_])).aj;rw [cV,hS];exact hcore.st
  ·show s.sh=(ay F.md (s.P++[_])).sh+(F.S (s.P++[_])).give;rw [cV,hS];exact hcore.sh
  ·show s.pen+c=(F.S (s.P++[_])).extra;rw [hS,hcore.pen]
  ·show s.ae=(F.S (s.P++[_])).ae;rw [hS];exact hcore.ae
  ·show aL s.an=(F.S (s.P++[_])).ab;rw [hS];exact hcore.ab
 | @old q e hm hs=>
  have h0:s.ah≠0:=λh0=>by rw [(h.zero h0).2.2.2.2.2.2.2]at hm;cases hm
  rw [bM h0]at hcore;have hdp:s.dp<=s.mdp:=by rw [hcore.dp,hcore.mdp];exact tZ hmd.1
  unfold pB;obtain⟨f1,f2,f3,f4,f5,f6,f7,f8⟩:=bZ (cl:=F.cl n) (aa:=F.aa) (n:=n) (sz:=sz) (ps:=ps) (e:=e) (G:=s.ae) (S:=s.sh) (U:=s.total+s.dp) (s:=s);rw [mv (by rw [f7,f8];exact hdp)];have hrow:aB n (F.S s.P).ab=some (ft e):=by rw [←hcore.ab];exact gR h.ok.k hm
  refine h.moved hR (λ⟨w,e⟩=>by cases e) hx f1 f2 f4 f5 f6 ⟨λh=>by rw [f3];exact h,λh=>by rw [f3];exact h,by rw [f3];exact h.st3⟩ (λh1=>absurd (f3.symm.trans h1) h0) ?_ (pC h.ok) ?_
  ·rw [bM (by show(eV _ _ _ _ _ _ _ _ _ _).ah≠0;rw [f3];exact h0)];refine w9 (S1:=F.S s.P) ?_ hcore.tot hcore.dp hcore.st hcore.sh hcore.pen hcore.ae hcore.ab hcore.mdp (by rw [hcore.tot,hcore.dp];omega) h.ok hm hs;rw [pG];show aZ (F.cl n) F.aa s.P n sz c ps (aD (F.cl n) n (F.S s.P))=_;have e1:aD (F.cl n) n (F.S s.P)=F.S s.P:=by unfold aD;rw [hrow]
   rw [e1]
  ·obtain⟨e',he,hi⟩:=mw (cl:=F.cl n) (aa:=F.aa) (n:=n) (sz:=sz) (ps:=ps) (e:=e) (G:=s.ae) (S:=s.sh) (U:=s.total+s.dp) (s:=s);rw [hi];have hb:=gU h.bst
   cases hbs:s.ag with
   |none=>rw [hbs]at hb;exact ii (Q:=λ_ b=>b= -1) hb (by rw [he];exact hb _ hm)
   |some d=>rw [hbs]at hb;exact ii (Q:=λk b=>b=cO F s.P k d.at_) hb (by rw [he];exact hb _ hm)
 | @new q hn hok2=>
  have hrow:aB n (F.S s.P).ab=none:=by
   have:=hcore.ab;rw [pF,tX]at this;rw [←this];exact tY hn
  unfold jZ at hok2⊢;obtain⟨f1,f2,f3,f4,f5,f6,f7,f8⟩:=bZ (cl:=F.cl n) (aa:=F.aa) (n:=n) (sz:=sz) (ps:=ps) (e:=e0 (F.cl n)) (G:=jG (F.cl n) s) (S:=(cK s).sh+(F.cl n).gap.k) (U:=(cK s).total+(cK s).dp) (s:=dj (F.cl n) n q (e0 (F.cl n)) s);have a1:(dj (F.cl n) n q (e0 (F.cl n)) s).P=s.P:=by unfold dj;split<;>rfl
  have a2:(dj (F.cl n) n q (e0 (F.cl n)) s).R=s.R:=by unfold dj;split<;>rfl
  have a3:(dj (F.cl n) n q (e0 (F.cl n)) s).ah=(cK s).ah:=rfl;have a4:(dj (F.cl n) n q (e0 (F.cl n)) s).ag=s.ag:=by
   unfold dj;split
   ·rename_i h0;exact(h.best0 (by omega)).symm
   ·rfl
  have a5:(dj (F.cl n) n q (e0 (F.cl n)) s).vs=s.vs:=by unfold dj;split<;>rfl
  have a6:(dj (F.cl n) n q (e0 (F.cl n)) s).md=s.md:=by unfold dj;split<;>rfl
  have a7:(dj (F.cl n) n q (e0 (F.cl n)) s).dp=(cK s).dp:=rfl;have a8:(dj (F.cl n) n q (e0 (F.cl n)) s).mdp=(cK s).mdp:=rfl;have a9:(dj (F.cl n) n q (e0 (F.cl n)) s).an=s.an++[(n,q,e0 (F.cl n))]:=rfl;have hdp:(cK s).dp<=(cK s).mdp:=by rw [hcore.dp,hcore.mdp];exact tZ hmd.1
  have hst:(cK s).ah≠0:=by
   unfold cK;split
   ·intro h;cases h
   ·assumption
  have hst3:((cK s).ah=0\/(cK s).ah=1\/(cK s).ah=2)/\(s.ah=2->(cK s).ah=2)/\(s.ah≠2->(cK s).ah≠2):=by
   unfold cK;split
   ·rename_i h0;exact⟨.inr (.inl rfl),λh=>by omega,λ_=>by show(1:Int)≠2;omega⟩
   ·exact⟨h.st3,λh=>h,λh=>h⟩
  rw [mv (by rw [f7,f8,a7,a8];exact hdp)];have hoki:bw (dj (F.cl n) n q (e0 (F.cl n)) s).an:=by
   obtain⟨e',-,hi⟩:=mw (cl:=F.cl n) (aa:=F.aa) (n:=n) (sz:=sz) (ps:=ps) (e:=e0 (F.cl n)) (G:=jG (F.cl n) s) (S:=(cK s).sh+(F.cl n).gap.k) (U:=(cK s).total+(cK s).dp) (s:=dj (F.cl n) n q (e0 (F.cl n)) s);rw [hi]at hok2;refine⟨by rw [←ic (n:=n) (e:=e')];exact hok2.k,by rw [←qZ (n:=n) (e:=e')];exact hok2.a,λy hy=>?_⟩;have:y.1∈(kput n e' (dj (F.cl n) n q (e0 (F.cl n)) s).an).map (·.1):=by rw [ic];exact List.mem_map.mpr ⟨y,hy,rfl⟩
   obtain⟨z,hz,ez⟩:=List.mem_map.mp this;rw [←ez];exact hok2.m z hz
  refine h.moved hR (λ⟨w,e⟩=>by cases e) hx (f1.trans a1) (f2.trans a2) (f4.trans a4) (f5.trans a5) (f6.trans a6) ⟨λh=>by rw [f3,a3];exact hst3.2.1 h,λh=>by rw [f3,a3];exact hst3.2.2 h,by rw [f3,a3];exact hst3.1⟩ (λh1=>absurd ((f3.trans a3).symm.trans h1) hst) ?_ hok2 ?_
  ·rw [bM (by show(eV _ _ _ _ _ _ _ _ _ _).ah≠0;rw [f3,a3];exact hst)];have hml:(F.S s.P).aj.length=4:=lj;have hcl:(ay F.md s.P).st.length=4:=fU;have hz:=(hF.cl n hok.1).z;obtain⟨tot,dp,st,sh,pen,ae,ab,mdp⟩:=hcore;rw [tX]at tot dp st sh pen ae ab;have hpn:(dj (F.cl n) n q (e0 (F.cl n)) s).pen=(cK s).pen:=rfl;refine w9 (S1:=aD (F.cl n) n (F.S s.P)) (r:=q) ?_ ?_ ?_ ?_ ?_ ?_ ?_ ?_ mdp ?_ hoki (by rw [a9];simp) (by show(-1:Int)<0;omega)
   ·rw [a1,pG];rfl
   ·rw [a1];exact tot
   ·rw [a1];exact dp
   ·rw [a1];unfold aD;rw [hrow];show(cK s).st.set (F.cl n).gap.z ((cK s).st.getD (F.cl n).gap.z 0+(F.cl n).gap.s)=_;rw [st];exact(u8 (by rw [hcl,hml]) (by rw [hcl];exact hz)).symm
   ·rw [a1];unfold aD;rw [hrow];show(cK s).sh+_=_+((F.S s.P).give+_);rw [sh];omega
   ·rw [hpn,pen];unfold aD;rw [hrow]
   ·unfold aD jG;rw [hrow,ae]
   ·rw [a9];unfold aD;rw [hrow];show aL (s.an++_)=(F.S s.P).ab++_;rw [pF]at ab;rw [←ab];unfold aL;rw [List.map_append];rfl
   ·rw [a1,tot,dp];omega
  ·obtain⟨e',he,hi⟩:=mw (cl:=F.cl n) (aa:=F.aa) (n:=n) (sz:=sz) (ps:=ps) (e:=e0 (F.cl n)) (G:=jG (F.cl n) s) (S:=(cK s).sh+(F.cl n).gap.k) (U:=(cK s).total+(cK s).dp) (s:=dj (F.cl n) n q (e0 (F.cl n)) s);rw [hi,a9];have hb:=gU h.bst;have he1:e'.ag= -1:=he
   cases hbs:s.ag with
   |none=>
    rw [hbs]at hb;refine ii (Q:=λ_ b=>b= -1) (λy hy=>?_) he1;rcases List.mem_append.mp hy with hy|hy
    ·exact hb y hy
    ·rw [List.mem_singleton]at hy;subst hy;rfl
   |some d=>
    rw [hbs]at hb;have hl:cO F s.P n d.at_= -1:=by unfold cO;rw [vd hrow];rfl
    refine ii (Q:=λk b=>b=cO F s.P k d.at_) (λy hy=>?_) (by rw [he1,hl]);rcases List.mem_append.mp hy with hy|hy
    ·exact hb y hy
    ·rw [List.mem_singleton]at hy;subst hy;exact hl.symm
theorem dk.begin{F:Cf}(hF:F.Ok){s:BS}{l hh d:Int}(h:dk F 0 s W)(hs:s.ah≠2)(hR:s.R= .pt (.b l hh d)::af):dk F 0 {bU s with R:=iy F.top hh::s.R} W:=by
 have hb0:=h.best0 hs;have eb:(bU s).ag=none:=by unfold bU;split<;>first|rfl|exact hb0
 have eP:(bU s).P=s.P:=by unfold bU;split<;>rfl
 have ei:(bU s).an=s.an:=by unfold bU;split<;>rfl
 have ev:(bU s).vs=s.vs:=by unfold bU;split<;>rfl
 have em:(bU s).md=s.md:=by unfold bU;split<;>rfl
 have hbn:∀y∈s.an,y.2.2.ag= -1:=by have:=gU h.bst;rw [hb0]at this;exact this
 rcases h.line with⟨h2,_⟩|⟨_,pre,e1,e2,e3⟩
 ·exact absurd h2 hs
 refine⟨ev.trans h.vs,em.trans h.md,.inr (.inr rfl),.inl ⟨rfl,?_,?_⟩,λh0=>absurd (show(2:Int)=0 from h0) (by decide),?_,by rw [show({bU s with R:=iy F.top hh::s.R}:BS).an=(bU s).an from rfl,ei];exact h.ok,h.okW,h.len,λh2=>absurd rfl h2,λ_ ext=>?_,?_,?_⟩
 ·show(bU s).P++iy F.top hh::s.R=_;rw [eP,e1,hR,bj,eC e2,e3,List.nil_append]
 ·exact⟨.pt (.b l hh d),by rw [e1,hR];simp,rfl⟩
 ·rw [bM (show({bU s with R:=iy F.top hh::s.R}:BS).ah≠0 by show(2:Int)≠0;omega)];have c:=h.core;by_cases h0:s.ah=0
  ·rw [fu h0]at c;have e:({bU s with R:=iy F.top hh::s.R}:BS)={fq s 2 with R:=iy F.top hh::s.R}:=by unfold bU;rw [if_pos h0];rfl
   rw [e];exact⟨c.tot,c.dp,c.st,c.sh,c.pen,c.ae,c.ab,c.mdp⟩
  ·rw [bM h0]at c;have e:({bU s with R:=iy F.top hh::s.R}:BS)={s with R:=iy F.top hh::s.R,ah:=2}:=by unfold bU;rw [if_neg h0]
   rw [e];exact⟨c.tot,c.dp,c.st,c.sh,c.pen,c.ae,c.ab,c.mdp⟩
 ·show F.end_ ((bU s).P++(iy F.top hh::s.R)++ext)=F.go ((bU s).P++(iy F.top hh::s.R)++ext) ((bU s).P.length+0) (((iy F.top hh::s.R)++ext).drop 0) (bU s).ag;rw [eb,eP,Nat.add_zero,List.drop_zero,List.append_assoc];exact w8 (by rw [e3];exact kc)
 ·unfold gQ;show match(bU s).ag with|none=>∀x∈(bU s).an,x.2.2.ag= -1|some e=>_
  rw [eb,ei];exact hbn
 ·intro w _;show iy F.top hh::s.R≠[];simp
theorem dk.drop{F:Cf}{s:BS}{x:Nd}(h:dk F 0 s W)(hs:s.ah≠2)(hR:s.R=x::af)(hx:iY x=true):dk F 0 {s with R:=af} W:=by
 rcases h.line with⟨h2,_⟩|⟨_,pre,e1,e2,e3⟩
 ·exact absurd h2 hs
 refine⟨h.vs,h.md,h.st3,.inr ⟨hs,pre++[x],?_,λy hy=>?_,?_⟩,h.zero,?_,h.ok,h.okW,h.len,h.best0,λh2=>absurd h2 hs,h.bst,λw hw=>?_⟩
 ·show W=pre++[x]++af;rw [e1,hR];simp
 ·rcases List.mem_append.mp hy with hy|hy
  ·exact e2 y hy
  ·rw [List.mem_singleton]at hy;subst hy;rcases y with(y|y|y)|y|y|y<;>first|rfl|cases hx
 ·show s.P=_;rw [mr,e3];have:bG [x]=[]:=by
   rcases x with(x|x|x)|x|x|x<;>first|rfl|cases hx
  rw [this,List.append_nil]
 ·have c:=h.core;by_cases h0:s.ah=0
  ·rw [fu h0]at c;rw [fu (show({s with R:=af}:BS).ah=0 from h0)];exact⟨c.tot,c.dp,c.st,c.sh,c.pen,c.ae,c.ab,c.mdp⟩
  ·rw [bM h0]at c;rw [bM (show({s with R:=af}:BS).ah≠0 from h0)];exact⟨c.tot,c.dp,c.st,c.sh,c.pen,c.ae,c.ab,c.mdp⟩
 ·have hw:s.P.getLast?=some (.k w):=hw;have hm:=List.mem_of_getLast? hw;rw [e3]at hm;exact absurd (kc _ hm) (by simp [iu])
section
theorem gS.PR{F:Cf}{n sz c:Int}{s r:BS}(h:gS F n sz c ps s r):r.P=s.P/\r.R=s.R:=by
 cases h with
 |aq=>exact⟨rfl,rfl⟩
 | @old q e hm hs=>exact⟨bZ.1,bZ.2.1⟩
 | @new q hn hk=>exact⟨bZ.1.trans (by unfold dj;split<;>rfl),bZ.2.1.trans (by unfold dj;split<;>rfl)⟩
theorem yx{F:Cf}{s:BS}(hF:F.Ok)(h:dk F j s W):∀x∈s.an,0<=x.2.2.sz/\x.2.2.sz<=500000000:=λx hx=>by
 have c:=h.core.ab;rw [pF,tX]at c;have g:=(tW (vs:=F.vs) (aa:=F.aa) hF.cl hF.N (h.okP hF)).r (x.1,ft x.2.2) (by show _∈(F.S s.P).ab;rw [←c];exact List.mem_map.mpr ⟨x,hx,rfl⟩);have hl:=h.lenPR;have:(ft x.2.2).sz=x.2.2.sz:=rfl;dsimp only at g;omega
theorem t1{F:Cf}{s:BS}(hF:F.Ok)(h:dk F j s W): -400000000<=(cK s).ae-((cK s).total+(cK s).dp)/\(cK s).ae-((cK s).total+(cK s).dp)<=500000000/\(cK s).ae<=1000000/\(cK s).total+(cK s).dp=size s.P/\0<=size s.P:=by
 have c1:=h.core.ae;have c2:=h.core.tot;have c3:=h.core.dp;rw [tX]at c1 c2 c3;have g:=(tW (vs:=F.vs) (aa:=F.aa) hF.cl hF.N (h.okP hF)).g;have hl:=h.lenPR;have hv:=hF.vs;have hs:=jx (h.okP hF);unfold Cf.S at c1;omega
theorem sR{F:Cf}{s:BS}(h:dk F j s W):s.st.length=4:=by
 by_cases h0:s.ah=0
 ·rw [(h.zero h0).2.2.2.1];rfl
 ·have c:=h.core.st;rw [bM h0]at c;rw [c];unfold cq;have hml:(F.S s.P).aj.length=4:=lj;rw [List.length_zipWith,fU,hml];rfl
local macro_rules | `(tactic| fail "c") => `(tactic| first
 |with_reducible refine ar (by assumption) ?_
 |with_reducible refine Qv.c (by assumption) (by assumption) ?_)
structure HA(C:CT):Prop where c:∀{F:Cf} {rb:Nat} {a:eU} {s:BS} {W:List Nd} {n sz c t:Int} {ps:List aA} {af:List Nd} {H:Hp} {K:V->Hp->Prop},F.Ok->BA F.aa H rb a s->dk F 1 s W->s.R= .i n sz c ps t::af->(∀H' a' r,BA F.aa H' rb a' (ff (.i n sz c ps t) (bn r))->gS F n sz c ps s r->K .none H')->C 75 [.ref rb,nd F.aa (.i n sz c ps t),eM F.cl] H K
theorem Pv(d:Nat):HA (aG tb (d+7)):=⟨λ{F rb a s W n sz c t ps af H K} hF B h hR k=>by
 refine aw rfl rfl ?_;have c61:=TL (d+5);have c76:=T1 d;generalize aG tb (d+6)=C at*;have hb:=B.b;unfold bC at hb;obtain⟨pb,hsz,hc0,hc1,hps,hpl,ht0,ht1⟩:bV F.N (.i n sz c ps t):=h.okR hF _ (by rw [hR];exact .head _);have hlen:ps.length<=50:=Nat.le_trans hpl hF.N;have hs0:=fZ hps;have hl:=h.lenPR;have gb:=t1 hF h;have hd:=hF.aa;have tail:∀H' a' r,BA F.aa H' rb a' r->gS F n sz c ps s r->aM tb C gw [some (.ref rb),some (nd F.aa (.i n sz c ps t)),some (eM F.cl)] H' (fL false H K):=by
  intro H' a' r B' hr;obtain⟨e1,e2⟩:=hr.PR;exact n5 B' (by rw [e2];exact hR) (by rw [e1];omega) λH2 B2=>k _ _ _ B2 hr
 rw [show bu=jd 1 bu gw from rfl];generalize hX:gw=X at*;fail "x";refine c76.c B h.ok pb (hF.cl n pb) hps hlen hd.1 (by omega) (by omega) (sR h) (λh0=>(h.zero h0).2.2.2.2.2.2.2) (yx hF h) gb.1 gb.2.1 (λr e hm hs H' B'=>?_) (λr e hm hs H' B'=>?_) (λhn r H' a' B' ok'=>?_)
 ·fail "r";exact tail _ _ _ B' (.aq hm hs)
 ·fail "r";exact tail _ _ _ B' (.old hm hs)
 ·fail "r";exact tail _ _ _ B' (.new hn ok')⟩
end
theorem dk.coB{F:Cf}{s:BS}(hF:F.Ok)(h:dk F j s W)(h0:s.ah≠0):Aw s:=by
 have c:=h.core;rw [bM h0]at c;have gb:=t1 hF h;rw [bM h0]at gb;have b1:=ph hF.md.1 (h.okP hF);have b2:=qN (vs:=F.vs) (aa:=F.aa) hF.cl (h.okP hF);have hl:=h.lenPR;have hml:(F.S s.P).aj.length=4:=lj;have h1:=b1.st 0;have h2:=b2.aj 0;have h3:=b1.sh;have h4:=b2.give;have h5:=b1.dp;have e1:=c.tot;have e2:=c.sh;have e3:=c.dp;unfold Cf.S at e2 hml;refine⟨sR h,?_,by omega,by omega⟩;rw [c.st];unfold Cf.S;rw [hV (by rw [fU,hml])];omega
theorem vf{P R:List Nd}{x:Nd}(h:iu x=true):cC P R x=none:=by
 rcases x with(x|x|x)|x|x|x<;>first|rfl|cases h
theorem sS{P X:List Nd}:(P++X).take P.length=P:=List.take_left' rfl
theorem dk.mid{F:Cf}{s:BS}{x:Nd}(h:dk F 0 s W)(hR:s.R=x::af)(hk:s.ah=2->(∃w,x= .k w)->af≠[])(hp:s.ah=2->cC s.P s.R x=none\/∃p,cC s.P s.R x=some p/\10000<=p):dk F 1 s W:=
 ⟨h.vs,h.md,h.st3,h.line,h.zero,h.core,h.ok,h.okW,h.len,h.best0,λh2 ext=>by
  have f:=h.fwd h2 ext;have hp:=hp h2;have hpen:=w7 (P:=s.P) (af:=af) (x:=x) (hk h2) (ext:=ext);rw [hR]at f hp⊢;rw [f,Nat.add_zero,List.drop_zero,List.cons_append,li,hpen];rw [if_neg (by rcases hp with hp|⟨p,hp,hp2⟩<;>rw [hp]<;>simp<;>omega)];rfl,h.bst,h.lk⟩
theorem yy{F:Cf}{s:BS}(c:kW F s){p:Int}:ja F.cl F.vs F.md F.aa s.P p=dD s p:=by
 unfold ja dD;rw [c.tot,c.ae,c.st,c.sh,c.pen];rfl
theorem t3{an:fe}:(an.map eb).map (·.1)=an.map (·.1):=by rw [List.map_map];rfl
theorem AC{an:fe}:(an.map eb).map (·.2.1)=an.map (·.2.1):=by rw [List.map_map];rfl
theorem yz{an:fe}:aL (an.map eb)=aL an:=by unfold aL;rw [List.map_map];rfl
theorem bw.eb{an:fe}(h:bw an):bw (an.map Mine.eb):=⟨by rw [t3];exact h.k,by rw [AC];exact h.a,λx hx=>by
 obtain⟨y,hy,rfl⟩:=List.mem_map.mp hx;exact h.m y hy⟩
theorem je(s:BS)(x:Nd)(p:Int):(upd s x p).P=s.P/\(upd s x p).R=s.R/\(upd s x p).ah=s.ah/\(upd s x p).vs=s.vs/\(upd s x p).md=s.md/\(upd s x p).st=s.st/\(upd s x p).an.map (·.1)=s.an.map (·.1):=by
 unfold upd;split<;>exact⟨rfl,rfl,rfl,rfl,rfl,rfl,by first|rfl|exact t3⟩
theorem kW.upd{F:Cf}{s:BS}(c:kW F s){x:Nd}{p:Int}:kW F (upd s x p):=by
 unfold Mine.upd;split
 ·exact⟨c.tot,c.dp,c.st,c.sh,c.pen,c.ae,by show aL (s.an.map eb)=_;rw [yz];exact c.ab,c.mdp⟩
 ·exact c
theorem t4{F:Cf}{s:BS}(c:kW F s)(ok:bw s.an)(h:gQ F s){x:Nd}{p:Int}:gQ F (upd s x p):=by
 unfold upd;split
 ·refine⟨Nat.le_refl _,λy hy=>?_⟩;obtain⟨z,hz,rfl⟩:=List.mem_map.mp hy;show z.2.2.last=cO F s.P z.1 s.P.length;unfold cO;rw [List.take_length,←c.ab,gR ok.k (r:=z.2.1) (e:=z.2.2) hz];rfl
 ·exact h
theorem q6{s:BS}{x:Nd}{p:Int}:(upd s x p).ag=cU ⟨s.P.length,xu x p,dD s p,s.ae⟩ s.ag:=by
 unfold upd
 cases hb:s.ag with
 |none=>rfl
 |some b=>
  unfold lg cU;dsimp only;by_cases h:dD s p<=b.aq
  ·rw [if_pos (decide_eq_true h),if_pos h]
  ·rw [if_neg (by simp;omega),if_neg h];exact hb
theorem AD{P R:List Nd}{x:Nd}{p:Int}(h:cC P R x=some p):m3 (some x)=xu x p:=by
 rcases x with(x|x|x)|x|x|x<;>first|rfl|(cases h;rfl)
theorem xa{F:Cf}{s:BS}{x:Nd}(c:kW F s)(hR:s.R=x::af)(hk:(∃w,x= .k w)->af≠[]){p:Int}(hp:cC s.P s.R x=some p)(hp2:p<10000){ext:List Nd}:
  F.go (s.P++s.R++ext) s.P.length (s.R++ext) s.ag=if jE s p=true then(upd s x p).ag else F.go (s.P++s.R++ext) (s.P.length+1) (af++ext) (upd s x p).ag:=by
 have hpen:=w7 (P:=s.P) (af:=af) (x:=x) hk (ext:=ext);have hpv:=AD hp;have e0:(s.P++(x::af)++ext)[s.P.length]?=some x:=by rw [List.append_assoc,List.getElem?_append_right (Nat.le_refl _),Nat.sub_self];rfl
 have e1:(s.P++(x::af)++ext).take s.P.length=s.P:=by rw [List.append_assoc];exact sS
 rw [hR]at hp⊢;have hpen:pen (s.P++(x::af)++ext) s.P.length=p:=by rw [hpen,hp];rfl
 rw [List.cons_append,li,hpen];rw [if_pos hp2,e0,e1,yy c,hpv,q6,c.ae];unfold jE;by_cases h:dD s p=2^30-1\/p<=-10000
 ·rw [if_pos h,if_pos (by rcases h with h|h;rw [h];rfl;simp [h])]
 ·rw [if_neg h,if_neg (by rw [not_or]at h;simp;exact⟨h.1,by omega⟩)]
theorem dk.tried{F:Cf}{s:BS}{x:Nd}(h:dk F 0 s W)(h2:s.ah=2)(hR:s.R=x::af)(hk:(∃w,x= .k w)->af≠[]){p:Int}(hp:cC s.P s.R x=some p)(hp2:p<10000)(hs:jE s p=false):dk F 1 (upd s x p) W:=by
 obtain⟨u1,u2,u3,u4,u5,u6,u7⟩:=je s x p;have h0:s.ah≠0:=by omega
 have c:=h.core;rw [bM h0]at c;refine⟨u4.trans h.vs,u5.trans h.md,by rw [u3];exact h.st3,by rw [u1,u2,u3];exact h.line,λh1=>absurd (u3.symm.trans h1) h0,by rw [bM (by rw [u3];exact h0)];exact c.upd,?_,h.okW,h.len,λh1=>absurd (u3.trans h2) h1,λ_ ext=>?_,t4 c h.ok h.bst,by rw [u1,u2];exact h.lk⟩
 ·unfold upd;split
  ·exact h.ok.eb
  ·exact h.ok
 ·have f:=h.fwd h2 ext;rw [Nat.add_zero,List.drop_zero,xa c hR hk hp hp2,hs]at f;rw [u1,u2,f];rw [if_neg (by decide)];rw [hR];rfl
structure gD(F:Cf)(s:BS)(W:List Nd)(e:fG):Prop where
 vs:s.vs=F.vs
 md:s.md=F.md
 line:s.P++s.R=bj F.top W
 ag:s.ag=some e
 end_:F.end_ (bj F.top W)=some e
 core:kW F s
 ok:bw s.an
 okW:∀x∈W,bV F.N x
 len:W.length<=60
 bst:gQ F s
theorem dk.stop{F:Cf}{s:BS}{x:Nd}(h:dk F 0 s W)(h2:s.ah=2)(hR:s.R=x::af)(hk:(∃w,x= .k w)->af≠[]){p:Int}(hp:cC s.P s.R x=some p)(hp2:p<10000)(hs:jE s p=true):∃e,(upd s x p).ag=some e/\gD F (upd s x p) W e:=by
 obtain⟨u1,u2,u3,u4,u5,u6,u7⟩:=je s x p;have h0:s.ah≠0:=by omega
 have c:=h.core;rw [bM h0]at c;obtain⟨e,he⟩:∃e,(upd s x p).ag=some e:=by
  rw [q6];unfold cU
  cases s.ag with
  |none=>exact⟨_,rfl⟩
  |some b=>dsimp only;split<;>exact⟨_,rfl⟩
 have hl:s.P++s.R=bj F.top W:=by
  rcases h.line with⟨_,e,_⟩|⟨h1,_⟩
  ·exact e
  ·exact absurd h2 h1
 have f:=h.fwd h2 [];rw [Nat.add_zero,List.drop_zero,xa c hR hk hp hp2,hs,if_pos rfl,List.append_nil,hl,he]at f;refine⟨e,he,u4.trans h.vs,u5.trans h.md,by rw [u1,u2];exact hl,he,f,c.upd,?_,h.okW,h.len,t4 c h.ok h.bst⟩;unfold upd;split
 ·exact h.ok.eb
 ·exact h.ok
structure iM(F:Cf)(s:BS)(W:List Nd):Prop where
 p:dk F 0 s W
 e:s.R=[]\/(s.ah=2/\∃w,s.R=[.k w])
theorem iM.end_{F:Cf}{s:BS}(h:iM F s W):F.end_ (bj F.top W)=none:=by
 rcases h.p.line with⟨h2,e,hb⟩|⟨h2,pre,e1,e2,e3⟩
 ·have f:=h.p.fwd h2 [];rw [List.append_nil,List.append_nil,Nat.add_zero,List.drop_zero]at f;rw [←e,f];rcases h.e with h1|⟨_,w,h1⟩
  ·rw [h1];rfl
  ·rw [h1,li];have:pen (s.P++[Nd.k w]) s.P.length=10000:=by
    have e0:(s.P++[Nd.k w])[s.P.length]?=some (.k w):=by rw [List.getElem?_append_right (Nat.le_refl _),Nat.sub_self];rfl
    have e1:(s.P++[Nd.k w])[s.P.length+1]?=none:=by rw [List.getElem?_eq_none];simp
    unfold pen;rw [e0];show(if Ai (s.P++[Nd.k w])[s.P.length+1]?=true then(0:Int)else 10000)=10000;rw [e1];rfl
   rw [this,if_neg (by decide)];rfl
 ·have h1:s.R=[]:=by rcases h.e with h1|⟨h3,_⟩;exact h1;exact absurd h3 h2
  rw [h1,List.append_nil]at e1;rw [e1,bj,dO e2,List.nil_append];have:=w8 (F:=F) (P:=bG pre) (X:=[]) kc;rw [List.append_nil]at this;rw [this];rfl
theorem yA{s:BS}{a b c:V}:cK {s with l1:=a,l2:=b,l3:=c}={cK s with l1:=a,l2:=b,l3:=c}:=by
 by_cases h:s.ah=0
 ·rw [fu h,fu (show({s with l1:=a,l2:=b,l3:=c}:BS).ah=0 from h)];rfl
 ·rw [bM h,bM (show({s with l1:=a,l2:=b,l3:=c}:BS).ah≠0 from h)]
theorem dk.rem{F:Cf}{s:BS}{a b c:V}(h:dk F j s W):dk F j {s with l1:=a,l2:=b,l3:=c} W:=
 ⟨h.vs,h.md,h.st3,h.line,h.zero,by have k:=h.core;rw [yA];exact⟨k.tot,k.dp,k.st,k.sh,k.pen,k.ae,k.ab,k.mdp⟩,h.ok,h.okW,h.len,h.best0,h.fwd,h.bst,h.lk⟩
theorem gD.rem{F:Cf}{s:BS}{e:fG}{a b c:V}(h:gD F s W e):gD F {s with l1:=a,l2:=b,l3:=c} W e:=
 ⟨h.vs,h.md,h.line,h.ag,h.end_,by have k:=h.core;exact⟨k.tot,k.dp,k.st,k.sh,k.pen,k.ae,k.ab,k.mdp⟩,h.ok,h.okW,h.len,h.bst⟩
theorem iM.rem{F:Cf}{s:BS}{a b c:V}(h:iM F s W):iM F {s with l1:=a,l2:=b,l3:=c} W:=⟨h.p.rem,h.e⟩
section
def kK:aU:=dh 5 aI
local macro_rules | `(tactic| fail "c") => `(tactic| first
 |with_reducible refine ar (by assumption) ?_
 |with_reducible refine A4.c (by assumption) (by assumption) ?_)
abbrev AE(x:Nd)(s:BS):BS:={s with l1:=.int (Ar x),l2:=.int (As x),l3:=Au x}
theorem n8(c70:A4 C){aa:Int}{a:eU}{s:BS}{x:Nd}(hbb:bb=false)(B:BA aa H rb a s)(k:∀H',BA aa H' rb a (AE x s)->K .next [some (.ref rb),x1,x2,x3,some (.bool false),some (nd aa x),some .none] H'):
  aM tb C kK [some (.ref rb),x1,x2,x3,some (.bool bb),some (nd aa x),some .none] H K:=by
 subst hbb;have hb:=B.b;unfold bC at hb;fail "r";intro H' B';fail "r";exact k _ B'
theorem vg(c70:A4 C){aa:Int}{a:eU}{s:BS}{x:Nd}(B:BA aa H rb a s)(k:∀H' ρ,BA aa H' rb a (AE x s)->K (.ret .none) ρ H'):
  aM tb C kK [some (.ref rb),x1,x2,x3,some (.bool true),some (nd aa x),some .none] H K:=by
 have hb:=B.b;unfold bC at hb;fail "r";intro H' B';fail "r";exact k _ _ B'
theorem sU(c70:A4 C){aa:Int}{a:eU}{s:BS}{x:Nd}{e:fG}(hbb:bb=false)(B:BA aa H rb a s)(k:∀H' ρ,BA aa H' rb a (AE x s)->K (.ret (dN (some e))) ρ H'):
  aM tb C kK [some (.ref rb),x1,x2,x3,some (.bool bb),some (nd aa x),some (dN (some e))] H K:=by
 subst hbb;have hb:=B.b;unfold bC at hb;fail "r";intro H' B';fail "r";exact k _ _ B'
structure Sp(C:CT):Prop where
 c8:S8 C
 c17:AT C
 c70:A4 C
 c71:QA C
 c74:QC C
 c75:QD C
 c75I:HA C
def Uf:aU:=dh 4 aI
theorem vh(q:Sp C){F:Cf}(hF:F.Ok){a:eU}{s:BS}{x:Nd}{T:aU}(B:BA F.aa H rb a s)(h:dk F 1 s W)(hR:s.R=x::af)(hkr:(∃w,x= .k w)->af≠[])(hx:s.ah=2\/iu x=true)
  (k:∀H' a' s',BA F.aa H' rb a' s'->dk F 0 s' W->s'.R=af->(s.ah=2->s'.ah=2)->aM tb C T [some (.ref rb),x1,some (eM F.cl),x3,x4,some (nd F.aa x),some .none] H' K):
  aM tb C (.cons (.ite (.ex (.isn false (.ac 6))) (.cons (.ex (.mth (.ac 0) 16 (.cons (.ac 5) (.cons (.ac 2) .nil)))) .nil) .nil) T) [some (.ref rb),x1,some (eM F.cl),x3,x4,some (nd F.aa x),some .none] H K:=by
 have hb:=B.b;unfold bC at hb;have hl:=h.lenPR;by_cases hi:isI x=true
 ·rcases x with(x|x|x)|x|x|⟨n,sz,c,ps,t⟩
  all_goals first|(cases hi;done)|skip
  fail "x";refine q.c75I.c hF B h hR λH' a' r B' hr=>?_;have h':=h.takeI hF hR hr;obtain⟨e1,e2⟩:=hr.PR;fail "r";refine k _ _ _ B' h' ?_ ?_
  ·show(bn r).R.tail=af;rw [(bR r).2.1,e2,hR];rfl
  ·intro h2;show(bn r).ah=2;rw [(bR r).2.2.1];rcases h'.line with⟨h3,-⟩|⟨h3,pre,e3,e4,e5⟩
   ·have:(bn r).ah=2:=h3;rw [(bR r).2.2.1]at this;exact this
   ·exfalso;rcases h.line with⟨-,-,y,hy,hyb⟩|⟨h4,-⟩
    ·have hW:s.P++s.R=bj F.top W:=by
      rcases h.line with⟨_,e,_⟩|⟨h1,_⟩
      ·exact e
      ·exact absurd h2 h1
     cases hr with
     |aq=>exact h3 (by show(bn {s with pen:=s.pen+c}).ah=2;rw [(bR _).2.2.1];exact h2)
     |old=>exact h3 (by show(bn _).ah=2;rw [(bR _).2.2.1];unfold pB;rw [bZ.2.2.1];exact h2)
     |new=>exact h3 (by show(bn _).ah=2;rw [(bR _).2.2.1];unfold jZ;rw [bZ.2.2.1];unfold dj;rw [if_neg (by omega)];exact h2)
    ·exact h4 h2
 ·have hi:isI x=false:=by simpa using hi
  have hok:bV F.N x:=h.okR hF x (by rw [hR];exact .head _);fail "x";refine q.c75.c B hR (by omega) hi hok.z (sR h) λH' B'=>?_;have h':=h.take hF hR hkr hx hi;fail "r";refine k _ _ _ B' h' ?_ ?_
  ·show(bn (bQ x s)).R.tail=af;rw [(bR _).2.1,(gT x s).2.1,hR];rfl
  ·intro h2;show(bn (bQ x s)).ah=2;rw [(bR _).2.2.1,(gT x s).2.2.1];exact h2
end
section
def mu(s:BS):Nat:=2*s.R.length+(if s.ah=2 then 0 else 3)
local macro_rules | `(tactic| fail "c") => `(tactic| first
 |with_reducible refine ar (by assumption) ?_
 |with_reducible refine AT.c (by assumption) ?_)
theorem sV(q:Sp C){F:Cf}(hF:F.Ok){a:eU}{s:BS}{x:Nd}(hbb:bb=false)(B:BA F.aa H rb a s)(h:dk F 0 s W)(hR:s.R=x::af)(hx:s.ah=2\/iu x=true)(hw:s.ah=2->(∃w,x= .k w)->af≠[])
  (kn:∀H' a' s' x3 x4 x5 x6,BA F.aa H' rb a' s'->dk F 0 s' W->mu s'<mu s->K .next [some (.ref rb),x1,some (eM F.cl),x3,x4,x5,x6] H')
  (kE:∀H' ρ s' e,BA F.aa H' rb a s'->gD F s' W e->K (.ret (dN (some e))) ρ H') {y6:Option V}:
  aM tb C (.cons (.asg 6 (.mth (.ac 0) 15 (.cons (.ac 5) .nil))) (.cons (.ite (.ex (.isn false (.ac 6))) (.cons (.ex (.mth (.ac 0) 16 (.cons (.ac 5) (.cons (.ac 2) .nil)))) .nil) .nil) .nil)) [some (.ref rb),x1,some (eM F.cl),x3,some (.bool bb),some (nd F.aa x),y6] H (λfl ρ H=>match fl with|.next=>aM tb C kK ρ H K|.brk=>K .brk ρ H|.cont=>K .cont ρ H|.ret v=>K (.ret v) ρ H):=by
 have hb:=B.b;unfold bC at hb;have hl:=h.lenPR;have kw2:(∃w,x= .k w)->2<=s.R.length:=λhw2=>by
  rcases hx with h2|hmi
  ·have:=hw h2 hw2;rw [hR]
   cases af with
   |nil=>exact absurd rfl this
   |cons=>simp
  ·obtain⟨w,rfl⟩:=hw2;cases hmi
 have hpMI:s.ah≠2->cC s.P s.R x=none:=λh2=>vf (by rcases hx with h|h;exact absurd h h2;exact h);have fin:∀(s1:BS) (H1:Hp),BA F.aa H1 rb a s1->dk F 1 s1 W->s1.R=x::af->s1.ah=s.ah->aM tb C (.cons (.ite (.ex (.isn false (.ac 6))) (.cons (.ex (.mth (.ac 0) 16 (.cons (.ac 5) (.cons (.ac 2) .nil)))) .nil) .nil) .nil) [some (.ref rb),x1,some (eM F.cl),x3,some (.bool bb),some (nd F.aa x),some .none] H1 (λfl ρ H=>match fl with|.next=>aM tb C kK ρ H K|.brk=>K .brk ρ H|.cont=>K .cont ρ H|.ret v=>K (.ret v) ρ H):=by
  intro s1 H1 B1 h1 hR1 hs1;refine vh q hF B1 h1 hR1 (λhk=>by rcases hx with h2|hmi;exact hw h2 hk;obtain⟨w,rfl⟩:=hk;cases hmi) (by rw [hs1];exact hx) λH' a' s' B' h' hR' hst'=>?_;show aM tb C kK _ _ _;refine n8 q.c70 hbb B' λH2 B2=>kn _ _ _ _ _ _ _ B2 h'.rem ?_;show 2*s'.R.length+(if s'.ah=2 then 0 else 3)<2*s.R.length+(if s.ah=2 then 0 else 3);rw [hR',hR,List.length_cons];by_cases h2:s.ah=2
  ·rw [if_pos h2,if_pos (hst' (hs1.trans h2))];omega
  ·rw [if_neg h2];split<;>omega
 fail "x";refine q.c74.c B h.ok kw2 (λhp=>h.coB hF λh0=>hp (hpMI (by omega))) (λhn=>?_) (λp hp hp2 H' B'=>?_)
 ·exact fin s H B (h.mid hR hw λ_=>hn) hR rfl
 ·have h2:s.ah=2:=Classical.byContradiction λh2=>by rw [hpMI h2]at hp;cases hp
  obtain⟨u1,u2,u3,u4,u5,u6,u7⟩:=je s x p;by_cases hs:jE s p=true
  ·obtain⟨e,he,hE⟩:=h.stop h2 hR (hw h2) hp hp2 hs;have et:Az s x p=some e:=by unfold Az;rw [if_pos hs,he]
   rw [et];fail "r";exact sU q.c70 hbb B' λH2 ρ B2=>kE _ _ _ _ B2 hE.rem
  ·have hs:jE s p=false:=by simpa using hs
   have et:Az s x p=none:=by unfold Az;rw [hs];rfl
   rw [et];exact fin _ H' B' (h.tried h2 hR (hw h2) hp hp2 hs) (u2.trans hR) u3
end
section
local macro_rules | `(tactic| fail "c") => `(tactic| first
 |with_reducible refine ar (by assumption) ?_
 |refine AT.c (by assumption) ?_
 |refine S8.c (by assumption) ?_)
def HB(X Y:aU):aU:=match aI with
 |.cons s0 (.cons s1 (.cons s2 (.cons s3 (.cons (.ite c t (.cons (.ite c2 t2 (.cons (.ite c3 _ f3) r3)) r2)) _))))=>.cons s0 (.cons s1 (.cons s2 (.cons s3 (.cons (.ite c t (.cons (.ite c2 t2 (.cons (.ite c3 Y f3) r3)) r2)) X))))
 |_=>.nil
def xb:aU:=.cons (.asg 6 (.mth (.ac 0) 15 (.cons (.ac 5) .nil))) (.cons (.ite (.ex (.isn false (.ac 6))) (.cons (.ex (.mth (.ac 0) 16 (.cons (.ac 5) (.cons (.ac 2) .nil)))) .nil) .nil) .nil)
theorem sW(q:Sp C){F:Cf}(hF:F.Ok){a:eU}{s:BS}{x:Nd}(B:BA F.aa H rb a s)(h:dk F 0 s W)(hR:s.R=x::af)
  (kn:∀H' a' s' x3 x4 x5 x6,BA F.aa H' rb a' s'->dk F 0 s' W->mu s'<mu s->K .next [some (.ref rb),some (gl F.top.w F.top.s F.top.z F.top.k),some (eM F.cl),x3,x4,x5,x6] H')
  (kE:∀H' ρ s' a' e,BA F.aa H' rb a' s'->gD F s' W e->K (.ret (dN (some e))) ρ H')
  (kN:∀H' ρ s' a',BA F.aa H' rb a' s'->iM F s' W->K (.ret .none) ρ H'):
  aM tb C aI [some (.ref rb),some (gl F.top.w F.top.s F.top.z F.top.k),some (eM F.cl),x3,x4,x5,x6] H K:=by
 have hb:=B.b;unfold bC at hb;have hc:=B.c;rw [hR]at hc;have hl:=h.lenPR;have c17:=q.c17;have c8:=q.c8;have hlm:(List.map (nd F.aa) (x::af)).length=af.length+1:=by simp
 have ht:=λ(x3:Option V) (bb:Bool) hbb hx hw=>sV q hF (x1:=some (gl F.top.w F.top.s F.top.z F.top.k)) (x3:=x3) (bb:=bb) hbb B h hR hx hw (y6:=some .none) (K:=K) kn (λH' ρ s' e B' hE=>kE _ _ _ _ _ B' hE);have hok:bV F.N x:=h.okR hF x (by rw [hR];exact .head _);rw [show aI=HB kK xb from rfl];rw [show(aU.cons (.asg 6 (.mth (.ac 0) 15 (.cons (.ac 5) .nil))) (.cons (.ite (.ex (.isn false (.ac 6))) (.cons (.ex (.mth (.ac 0) 16 (.cons (.ac 5) (.cons (.ac 2) .nil)))) .nil) .nil) .nil))=xb from rfl]at ht;generalize hX:kK=X at*;generalize hY:xb=Y at*;by_cases h2:s.ah=2
 ·by_cases hk:∃w,x= .k w/\af=[]
  ·obtain⟨w,rfl,rfl⟩:=hk;have hlm1:(List.map (nd F.aa) [Nd.k w]).length=1:=rfl;fail "r";subst hX;exact vg q.c70 B λH' ρ B'=>kN _ _ _ _ B' (iM.rem ⟨h,.inr ⟨h2,w,hR⟩⟩)
  ·have hw:s.ah=2->(∃w,x= .k w)->af≠[]:=λ_ ⟨w,e1⟩ e2=>hk ⟨w,e1,e2⟩;have hkl:(∃w,x= .k w)->af.length≠0:=λhx h0=>hw h2 hx (List.eq_nil_of_length_eq_zero h0);rcases x with(⟨l,hh,d⟩|⟨w,g,z,k,so⟩|v)|w|c|⟨n,sz,c,ps,t⟩
   ·fail "r";exact ht _ _ rfl (.inl h2) hw
   ·fail "r";exact ht _ _ rfl (.inl h2) hw
   ·fail "r";exact ht _ _ rfl (.inl h2) hw
   ·have hne:=hkl ⟨w,rfl⟩;fail "r";exact ht _ _ (by show decide _=false;rw [hlm];exact decide_eq_false (by omega)) (.inl h2) hw
   ·fail "r";exact ht _ _ rfl (.inl h2) hw
   ·fail "r";exact ht _ _ rfl (.inl h2) hw
 ·have hb2:iz .eq s.ah 2=false:=decide_eq_false h2;have nx:∀(H':Hp) (a':eU) (s':BS) (x3:Option V) (x4:Bool),x4=false->BA F.aa H' rb a' s'->dk F 0 s' W->mu s'<mu s->aM tb C X [some (.ref rb),some (gl F.top.w F.top.s F.top.z F.top.k),some (eM F.cl),x3,some (.bool x4),some (nd F.aa x),some .none] H' K:=by
   intro H' a' s' x3 x4 hx4 B' h' hmu;subst hX;exact n8 q.c70 hx4 B' λH2 B2=>kn _ _ _ _ _ _ _ B2 h'.rem hmu
  have hdrop:iY x=true->∀x3 x4,x4=false->aM tb C X [some (.ref rb),some (gl F.top.w F.top.s F.top.z F.top.k),some (eM F.cl),x3,some (.bool x4),some (nd F.aa x),some .none] (H.set a.c (.ad (af.map (nd F.aa)))) K:=λhd x3 x4 hx4=>
   nx _ _ _ x3 x4 hx4 (B.setC (R:=af)) (h.drop h2 hR hd) (by
    show 2*af.length+(if s.ah=2 then 0 else 3)<2*s.R.length+(if s.ah=2 then 0 else 3);rw [hR,List.length_cons];omega)
  rcases x with(⟨l,hh,d⟩|⟨w,g,z,k,so⟩|v)|w|c|⟨n,sz,c,ps,t⟩
  ·fail "x";obtain⟨o1,o2,o3,o4,o5,o6⟩:=hok;refine q.c71.c B hF.top (by omega) o3 (by omega) λH' a' B'=>?_;fail "r";refine nx _ _ _ _ _ hb2 B' (h.begin hF h2 hR) ?_;show 2*(_::s.R).length+(if(2:Int)=2 then 0 else 3)<2*s.R.length+(if s.ah=2 then 0 else 3);rw [if_pos rfl,if_neg h2,List.length_cons];omega
  ·fail "r";exact hdrop rfl _ _ hb2
  ·fail "r";exact hdrop rfl _ _ hb2
  ·fail "r";exact hdrop rfl _ _ hb2
  ·fail "r";exact ht _ _ hb2 (.inr rfl) (λh=>absurd h h2)
  ·fail "r";exact ht _ _ hb2 (.inr rfl) (λh=>absurd h h2)
end
section
local macro_rules | `(tactic| fail "c") => `(tactic| first
 |with_reducible refine ar (by assumption) ?_
 |with_reducible refine ib (by assumption) ?_
 |with_reducible refine jD (by assumption) ?_
 |refine av.mk eO ?_)
abbrev ll:Cd:=.ex (.eqd true (.am (.ac 0) 36) (.ad true .nil))
theorem my{C:CT}(q:Sp C){F:Cf}(hF:F.Ok){rb:Nat}{W:List Nd}{K:Fl->aE->Hp->Prop}
  (kE:∀H' ρ s' a' e,BA F.aa H' rb a' s'->gD F s' W e->K (.ret (dN (some e))) ρ H')
  (kN:∀H' ρ s' a',BA F.aa H' rb a' s'->iM F s' W->K (.ret .none) ρ H'/\K .next ρ H'):
  ∀(n:Nat) (a:eU) (s:BS) (x3 x4 x5 x6:Option V) (H:Hp),mu s<n->BA F.aa H rb a s->dk F 0 s W->
   iO (λρ1 H1=>vw tb C ll ρ1 H1) (λρ1 H1=>aM tb C aI ρ1 H1) n [some (.ref rb),some (gl F.top.w F.top.s F.top.z F.top.k),some (eM F.cl),x3,x4,x5,x6] H K
 |0,a,s,x3,x4,x5,x6,H,hm,B,h=>absurd hm (Nat.not_lt_zero _)
 |n+1,a,s,x3,x4,x5,x6,H,hm,B,h=>by
  have hb:=B.b;unfold bC at hb;have hc:=B.c
  cases hR:s.R with
  |nil=>
   have hn:=kN H [some (.ref rb),some (gl F.top.w F.top.s F.top.z F.top.k),some (eM F.cl),x3,x4,x5,x6] s a B ⟨h,.inl hR⟩;fail "r";exact hn.2
  |cons x af=>
   have hne:s.R≠[]:=by rw [hR];simp
   have st:=sW q hF (x3:=x3) (x4:=x4) (x5:=x5) (x6:=x6) (K:=λfl ρ2 H2=>match fl with|.next=>iO (λρ1 H1=>vw tb C ll ρ1 H1) (λρ1 H1=>aM tb C aI ρ1 H1) n ρ2 H2 K|.cont=>iO (λρ1 H1=>vw tb C ll ρ1 H1) (λρ1 H1=>aM tb C aI ρ1 H1) n ρ2 H2 K|.brk=>K .next ρ2 H2|.ret v=>K (.ret v) ρ2 H2) B h hR
    (λH' a' s' x3 x4 x5 x6 B' h' hmu=>my q hF kE kN n a' s' x3 x4 x5 x6 H' (by omega) B' h')
    (λH' ρ s' a' e B' hE=>kE _ _ _ _ _ B' hE)
    (λH' ρ s' a' B' hN=>(kN _ _ _ _ B' hN).1)
   have test:∀X Y,X->vw tb C ll [some (.ref rb),some (gl F.top.w F.top.s F.top.z F.top.k),some (eM F.cl),x3,x4,x5,x6] H (λb H1=>gf b X Y):=by
    intro X Y hX;fail "r";exact hX
   exact test _ _ st
structure QE(C:CT):Prop where c:∀{F:Cf} {rb:Nat} {a:eU} {s:BS} {W:List Nd} {H:Hp} {K:V->Hp->Prop},F.Ok->BA F.aa H rb a s->dk F 0 s W->(∀H' s' a' e,BA F.aa H' rb a' s'->gD F s' W e->K (dN (some e)) H')->(∀H' s' a',BA F.aa H' rb a' s'->iM F s' W->K .none H')->C 69 [.ref rb,gl F.top.w F.top.s F.top.z F.top.k,eM F.cl] H K
theorem T3(d:Nat):QE (aG tb (d+8)):=⟨λ{F rb a s W H K} hF B h kE kN=>by
 refine aw rfl rfl ?_;have q:Sp (aG tb (d+7)):=⟨s8 _,OX _,TT _,TU (d+2),TY (d+2),T2 (d+5),Pv d⟩
 generalize aG tb (d+7)=C at*;fail "v";refine zj.mk ⟨mu s+1,?_⟩;refine my q hF (λH' ρ s' a' e B' hE=>?_) (λH' ρ s' a' B' hN=>⟨?_,?_⟩) _ a s _ _ _ _ H (Nat.lt_succ_self _) B h
 ·exact kE _ _ _ _ B' hE
 ·exact kN _ _ _ B' hN
 ·exact kN _ _ _ B' hN⟩
end
abbrev Gn:=List (Int×List aA)
structure SS where
 items:List Nd
 ak:Gn
 al:List Nd
 marks:List V
def cD(b:Nat):Gn->List (Int×V)
 | []=>[]
 |(n,_)::l=>(n,.ref b)::cD (b+1) l
def gV(g:Gn):Hp:=g.map λp=>.ad (p.2.map ci)
def kf(n:Int):Gn->Nat
 | []=>0
 |(m,_)::l=>if m=n then 0 else kf n l+1
theorem n9{n:Int}{y:List aA}:∀{g:Gn} {b:Nat},cD b (cr n y g)=cD b g
 | [],b=>rfl
 |(m,z)::l,b=>by
  unfold cr;split
  ·rfl
  ·show(m,V.ref b)::cD (b+1) (cr n y l)=(m,V.ref b)::cD (b+1) l;rw [n9]
theorem oa{n:Int}{y:List aA}:∀{g:Gn},di n g->gV (cr n y g)=(gV g).set (kf n g) (.ad (y.map ci))
 | [],h=>by obtain⟨x,hx⟩:=h;cases hx
 |(m,z)::l,h=>by
  unfold cr kf;split
  ·rfl
  ·rename_i hm;have h':di n l:=by
    obtain⟨x,hx⟩:=h;rcases List.mem_cons.mp hx with hx|hx
    ·cases hx;exact absurd rfl hm
    ·exact⟨x,hx⟩
   show CO.ad (z.map ci)::gV (cr n y l)=(CO.ad (z.map ci)::gV l).set (kf n l+1) _;rw [oa h'];rfl
theorem od{n:Int}:∀{g:Gn},di n g->(gV g)[kf n g]?=some (.ad ((cB n g).map ci))
 | [],h=>by obtain⟨x,hx⟩:=h;cases hx
 |(m,z)::l,h=>by
  unfold kf cB;split
  ·rfl
  ·rename_i hm;have h':di n l:=by
    obtain⟨x,hx⟩:=h;rcases List.mem_cons.mp hx with hx|hx
    ·cases hx;exact absurd rfl hm
    ·exact⟨x,hx⟩
   exact od h'
theorem kL{n:Int}:∀{g:Gn} {b:Nat},di n g->aW n (cD b g)=some (.ref (b+kf n g))
 | [],b,h=>by obtain⟨x,hx⟩:=h;cases hx
 |(m,z)::l,b,h=>by
  show(match decide (m=n)with|true=>some (V.ref b)|false=>aW n (cD (b+1) l))=_;unfold kf;by_cases hm:m=n
  ·rw [decide_eq_true hm,if_pos hm];rfl
  ·rw [decide_eq_false hm,if_neg hm];have h':di n l:=by
    obtain⟨x,hx⟩:=h;rcases List.mem_cons.mp hx with hx|hx
    ·cases hx;exact absurd rfl hm
    ·exact⟨x,hx⟩
   show aW n (cD (b+1) l)=_;rw [kL h',Nat.add_right_comm,Nat.add_assoc]
def sI(b:Nat)(e:fG)(mdp:Int)(r:Nat):CO:=.inst 13 [some (.int e.ae),some (.int e.pv),some (.int e.aq),some (.int mdp),some (.ref (b+1)),some (.ref (b+2)),some (.ref (b+3)),some (.ref r),some (.ref (b+5))]
def sH(aa:Int)(H0:Hp)(i:CO)(X:SS):Hp:=H0++(i:: .ad (X.items.map (nd aa)):: .dct (cD (H0.length+6) X.ak):: .ad (X.al.map (nd aa)):: .ad []:: .ad X.marks::gV X.ak)
section
variable {aa:Int}{H0:Hp}{i:CO}{X:SS}
theorem dA{r:Nat}{x:CO}(h:H0[r]?=some x):(sH aa H0 i X)[r]?=some x:=by unfold sH;rw [List.getElem?_append_left (aF h)];exact h
theorem pI:(sH aa H0 i X)[H0.length]?=some i:=eN (k:=0) rfl
theorem AF:(sH aa H0 i X)[H0.length+1]?=some (.ad (X.items.map (nd aa))):=eN (k:=1) rfl
theorem AG:(sH aa H0 i X)[H0.length+2]?=some (.dct (cD (H0.length+6) X.ak)):=eN (k:=2) rfl
theorem AH:(sH aa H0 i X)[H0.length+3]?=some (.ad (X.al.map (nd aa))):=eN (k:=3) rfl
theorem T4:(sH aa H0 i X)[H0.length+4]?=some (.ad []):=eN (k:=4) rfl
theorem HC:(sH aa H0 i X)[H0.length+5]?=some (.ad X.marks):=eN (k:=5) rfl
theorem Pw{n:Int}(h:di n X.ak):(sH aa H0 i X)[H0.length+6+kf n X.ak]?=some (.ad ((cB n X.ak).map ci)):=by
 rw [Nat.add_assoc];refine eN ?_;rw [Nat.add_comm 6 (kf n X.ak)];exact od h
theorem mz{L:Hp}{k:Nat}{x:CO}:(H++L).set (H.length+k) x=H++L.set k x:=by
 rw [List.set_append_right _ _ (by omega),show H.length+k-H.length=k by omega]
theorem HD{xs:List Nd}:(sH aa H0 i X).set (H0.length+1) (.ad (xs.map (nd aa)))=sH aa H0 i {X with items:=xs}:=mz
theorem HE{xs:List Nd}:(sH aa H0 i X).set (H0.length+3) (.ad (xs.map (nd aa)))=sH aa H0 i {X with al:=xs}:=mz
theorem Px{xs:List V}:(sH aa H0 i X).set (H0.length+5) (.ad xs)=sH aa H0 i {X with marks:=xs}:=mz
theorem AI{n:Int}{y:List aA}(h:di n X.ak):(sH aa H0 i X).set (H0.length+6+kf n X.ak) (.ad (y.map ci))=sH aa H0 i {X with ak:=cr n y X.ak}:=by
 rw [Nat.add_assoc];show(H0++_).set _ _=_;rw [mz];unfold sH;rw [n9,oa h,Nat.add_comm 6 (kf n X.ak)];rfl
end
def jJ(e:eT)(at_:Nat)(X:SS)(n s c:Int)(ps:List aA)(t:Int):SS:=
 if e.ag<at_ then{X with al:=X.al++[.i n s c ps t]}
 else if(at_:Int)≠e.sat\/e.spl=ps.length then{X with ak:=cr n (cB n X.ak++ps) X.ak}
 else
  let cut:=aC ps.length e.spl
  {X with ak:=cr n (cB n X.ak++ps.take cut) X.ak,al:=if aJ t (ps.drop cut)=[]then X.al else X.al++[.i n (be (aJ t (ps.drop cut))) c (aJ t (ps.drop cut)) t]}
theorem vj{i:Int}:(ps.map ci).take (aC (ps.map ci).length i)=(ps.take (aC ps.length i)).map ci:=by rw [List.length_map,List.map_take]
theorem vk{i:Int}:(ps.map ci).drop (aC (ps.map ci).length i)=(ps.drop (aC ps.length i)).map ci:=by rw [List.length_map,List.map_drop]
theorem fg{t:Int}(h0:0<=t)(h1:t<=20000):∀{ps:List aA},(∀p∈ps,okP p)->∀p∈aJ t ps,okP p
 | [],_,p,hp=>by cases hp
 |.b l h d::r,ho,p,hp=>by
  have o:=ho _ (.head _);rcases List.mem_cons.mp hp with rfl|hp
  ·have:=o.2.2.1;exact⟨by omega,by omega,by omega,by omega,by omega,λ_=>rfl,by omega,by omega⟩
  ·exact ho p hp
 |.g .. ::r,ho,p,hp=>fg h0 h1 (ps:=r) (λq hq=>ho q (.tail _ hq)) p hp
 |.p _::r,ho,p,hp=>fg h0 h1 (ps:=r) (λq hq=>ho q (.tail _ hq)) p hp
section
theorem pJ{aa:Int}{xs:List Nd}{x:Nd}:xs.map (nd aa)++[nd aa x]=(xs++[x]).map (nd aa):=by simp
theorem sX{xs ys:List aA}:xs.map ci++ys.map ci=(xs++ys).map ci:=by simp
local macro_rules | `(tactic| fail "c") => `(tactic| first
 |with_reducible refine ar (by assumption) ?_
 |with_reducible refine ib (by assumption) ?_
 |with_reducible refine jD (by assumption) ?_
 |refine av.mk eO ?_)
structure QF(C:CT):Prop where c:∀{aa:Int} {H0:Hp} {E:fG} {mdp:Int} {q:Nat} {X:SS} {r:Nat} {e:eT} {pl:Nat} {N:Nat} {n s c t:Int} {ps:List aA} {K:V->Hp->Prop},H0[r]?=some (gC e)->di n X.ak->N<=50->bV N (.i n s c ps t)->0<=aa->aa<=100000->X.al.length<=1000->(cB n X.ak).length<=100000->K .none (sH aa H0 (sI H0.length E mdp q) (jJ e pl X n s c ps t))->C 20 [.ref H0.length,nd aa (.i n s c ps t),.int pl,.ref r] (sH aa H0 (sI H0.length E mdp q) X) K
theorem T5(d:Nat):QF (aG tb (d+7)):=⟨λ{aa H0 E mdp q X r e pl N n s c t ps K} he hg hN ok hd0 hd1 hh hgl k=>by
 refine aw rfl rfl ?_;have c15:=TK (d+1);have c16:=Qa (d+4);have cI:=Hn (d+2);generalize aG tb (d+6)=C at*;obtain⟨hn,hs,hc0,hc1,hps,hpl,ht0,ht1⟩:=ok;have g0:=pI (aa:=aa) (H0:=H0) (i:=sI H0.length E mdp q) (X:=X);have ge:=dA (aa:=aa) (i:=sI H0.length E mdp q) (X:=X) he;have g2:=AG (aa:=aa) (H0:=H0) (i:=sI H0.length E mdp q) (X:=X);have g3:=AH (aa:=aa) (H0:=H0) (i:=sI H0.length E mdp q) (X:=X);have gg:=Pw (aa:=aa) (H0:=H0) (i:=sI H0.length E mdp q) hg;have dl:=kL (b:=H0.length+6) hg;have hlm:(ps.map ci).length=ps.length:=List.length_map ..;unfold gC at ge;have e0:(sH aa H0 (sI H0.length E mdp q) X)[H0.length]?=some (.inst 13 [some (.int E.ae),some (.int E.pv),some (.int E.aq),some (.int mdp),some (.ref (H0.length+1)),some (.ref (H0.length+2)),some (.ref (H0.length+3)),some (.ref q),some (.ref (H0.length+5))]):=g0;unfold jJ at k;by_cases h1:e.ag<pl
 ·rw [if_pos h1]at k;fail "x";refine av.mk (by show _<=10000000;rw [List.length_map];omega) ?_;rw [pJ,HE];fail "r";exact k
 ·rw [if_neg h1]at k;have ext:∀(ys:List aA) (ρ:aE) (v:V) (K':V->Hp->Prop),v= .ad (ys.map ci)->ys.length<=100->K' .none (sH aa H0 (sI H0.length E mdp q) {X with ak:=cr n (cB n X.ak++ys) X.ak})->
    cY (sH aa H0 (sI H0.length E mdp q) X) (.ref (H0.length+6+kf n X.ak)) λr xs=>match v with|.ad ys=>av (sizeOk (xs.length+ys.length)) (K' .none ((sH aa H0 (sI H0.length E mdp q) X).set r (.ad (xs++ys))))|_=>False:=by
   intro ys ρ v K' hv hy k';subst hv;refine ar gg ?_;refine av.mk (by show _<=10000000;rw [List.length_map,List.length_map];omega) ?_;rw [sX,AI hg];exact k'
  by_cases h2:(pl:Int)≠e.sat\/e.spl=ps.length
  ·rw [if_pos h2]at k;fail "r";all_goals
    fail "v";refine aS.mk ⟨_,dl,?_⟩;fail "v";refine ar gg ?_;fail "x";refine av.mk (by show _<=10000000;rw [List.length_map,List.length_map];omega) ?_;rw [sX,AI hg];fail "r";exact k
  ·rw [if_neg h2]at k;rw [not_or,Classical.not_not]at h2;obtain⟨h2a,h2b⟩:=h2;have h2c:e.spl≠((ps.map ci).length:Int):=by rw [hlm];exact h2b
   have gn:∀Y:SS,(sH aa H0 (sI H0.length E mdp q) Y)[H0.length]?=some (.inst 13 [some (.int E.ae),some (.int E.pv),some (.int E.aq),some (.int mdp),some (.ref (H0.length+1)),some (.ref (H0.length+2)),some (.ref (H0.length+3)),some (.ref q),some (.ref (H0.length+5))]):=λY=>pI;have gen:∀Y:SS,(sH aa H0 (sI H0.length E mdp q) Y)[r]?=some (.inst 10 [some (.int e.sz),some (.int e.last),some (.int e.ag),some (.int e.sat),some (.int e.spl)]):=λY=>dA he;have g0':=gn {X with ak:=cr n (cB n X.ak++ps.take (aC ps.length e.spl)) X.ak};have ge':=gen {X with ak:=cr n (cB n X.ak++ps.take (aC ps.length e.spl)) X.ak};have g3':=AH (aa:=aa) (H0:=H0) (i:=sI H0.length E mdp q) (X:={X with ak:=cr n (cB n X.ak++ps.take (aC ps.length e.spl)) X.ak});fail "x";refine aS.mk ⟨_,dl,?_⟩;fail "v";refine ar gg ?_;fail "r";rw [vj];fail "v";refine av.mk (by show _<=10000000;rw [List.length_map,List.length_map,List.length_take];omega) ?_;rw [sX,AI hg];fail "x";rw [vk];refine c15.c (ps:=ps.drop (aC ps.length e.spl)) (t:=t) ht0 ht1 (λp hp=>hps p (List.mem_of_mem_drop hp)) (by rw [List.length_drop];omega) ?_;dsimp only at k;generalize hL:aJ t (ps.drop (aC ps.length e.spl))=L at*;have hLl:L.length<=100:=by
    have:=ew (br:=t) (ps:=ps.drop (aC ps.length e.spl));rw [hL,List.length_drop]at this;omega
   have hLo:∀p∈L,okP p:=by
    rw [←hL];exact fg ht0 ht1 λp hp=>hps p (List.mem_of_mem_drop hp)
   have hLs:=mi hLo hLl;by_cases hne:L=[]
   ·rw [if_pos hne]at k;fail "r";exact k
   ·rw [if_neg hne]at k;fail "x";refine c16.c (xs:=L) (.ad _) ?_;fail "x";refine cI.c (by omega) (by omega) hLs.1 (by omega) hd0 hd1 hc0 hc1 ?_;fail "x";refine av.mk (by show _<=10000000;rw [List.length_map];show X.al.length+1<=_;omega) ?_;rw [pJ,HE];fail "r";exact k⟩
end
section
theorem xc{L:Hp}{x:CO}{K:CO->Prop}(k:K x):bL (H++x::L) H.length K:=ar (eN (k:=0) rfl) k
theorem HF{L:Hp}{x:CO}:(H++x::L).set H.length y=H++y::L:=mz (k:=0)
theorem zf{L M:Hp}{x:CO}:(H++x::L)++M=H++x::(L++M):=by simp
theorem HG{L:Hp}{x:CO}:(H++x::L).length=H.length+(L.length+1):=by simp
theorem AJ{e:fG}:dN (some e)= .obj 11 [.int e.at_,.int e.pv,.int e.aq,.int e.ae]:=rfl
local macro_rules | `(tactic| fail "c") => `(tactic| first
 |(simp only [zf,List.nil_append,List.cons_append];with_reducible refine xc ?_)
 |with_reducible refine xc ?_
 |rw [HF]
 |refine aV rfl ?_)
structure HH(C:CT):Prop where c:∀{aa:Int} {E:fG} {mdp:Int} {H:Hp} {K:V->Hp->Prop},K (.ref H.length) (sH aa H (sI H.length E mdp (H.length+4)) ⟨[],[],[],[]⟩)->C 1013 [dN (some E),.int mdp] H K
theorem HI(d:Nat):HH (aG tb (d+2)):=⟨λ{aa E mdp H K} k=>by
 refine cN (c:=13) rfl rfl rfl rfl ?_;generalize aG tb d=C at*;fail "r";simp only [HG,zf,List.nil_append,List.cons_append,List.length_cons,List.length_nil];exact k⟩
end
section
theorem oe{n:Int}{y:List aA}:∀{g:Gn} {b:Nat},cD b (g++[(n,y)])=cD b g++[(n,.ref (b+g.length))]
 | [],b=>rfl
 |(m,z)::l,b=>by
  show(m,V.ref b)::cD (b+1) (l++[(n,y)])=(m,V.ref b)::(cD (b+1) l++_);rw [oe,List.length_cons,Nat.add_right_comm,Nat.add_assoc]
theorem mA{n:Int}{v:V}:∀{g:Gn} {b:Nat},n∉g.map (·.1)->dn n v (cD b g)=cD b g++[(n,v)]
 | [],b,_=>rfl
 |(m,z)::l,b,h=>by
  rw [List.map_cons,List.mem_cons,not_or]at h;show(match decide (m=n)with|true=>_|false=>(m,V.ref b)::dn n v (cD (b+1) l))=_;rw [decide_eq_false (λe=>h.1 e.symm),mA h.2];rfl
theorem vm{g:Gn}:(gV g).length=g.length:=by unfold gV;rw [List.length_map]
theorem pK{aa:Int}{i:CO}{X:SS}:(sH aa H0 i X).length=H0.length+6+X.ak.length:=by
 unfold sH;rw [List.length_append];simp only [List.length_cons,vm];omega
theorem AK{aa:Int}{i:CO}{X:SS}{n:Int}(h:n∉X.ak.map (·.1)):
  (sH aa H0 i X++[CO.ad []]).set (H0.length+2) (.dct (dn n (.ref (sH aa H0 i X).length) (cD (H0.length+6) X.ak)))=sH aa H0 i {X with ak:=X.ak++[(n,[])]}:=by
 rw [mA h,pK];unfold sH;rw [List.append_assoc,mz,oe];unfold gV;rw [List.map_append];rfl
def kg(an:fe)(n:Int):Bool:=an.any λx=>decide (x.1=n)&&decide (0<=x.2.2.ag)
def dQ(an:fe)(l:List Int):Gn:=(l.filter (kg an)).map λn=>(n,[])
theorem kh{an:fe}(hk:(an.map (·.1)).Nodup){n:Int}{r:Nat}{e:eT}(hm:(n,r,e)∈an):kg an n=decide (0<=e.ag):=by
 unfold kg;rw [Bool.eq_iff_iff,List.any_eq_true,decide_eq_true_iff];constructor
 ·rintro ⟨x,hx,h⟩
  simp only [Bool.and_eq_true,decide_eq_true_eq]at h;have:=gO hk hx hm h.1;subst this;exact h.2
 ·intro h;exact⟨_,hm,by simp [h]⟩
local macro_rules | `(tactic| fail "c") => `(tactic| first
 |with_reducible refine ar (by assumption) ?_
 |refine aS.mk ⟨_,by assumption,?_⟩)
theorem ki{C:CT}{aa:Int}{H0:Hp}{rb:Nat}{a:eU}{s:BS}{E:fG}{mdp:Int}{q:Nat}{y1 y4 y5:Option V}{K:Fl->aE->Hp->Prop}(B:BA aa H0 rb a s)(ok:bw s.an):
  ∀(l:List Int) (g:Gn) (x3:Option V),(∀n∈l,n∈s.an.map (·.1))->l.Nodup->(∀n∈l,n∉g.map (·.1))->g.length+l.length<=100->
  (∀x3,K .next [some (.ref rb),y1,some (.ref H0.length),x3,y4,y5] (sH aa H0 (sI H0.length E mdp q) ⟨[],g++dQ s.an l,[],[]⟩))->
  ba (λρ=>ec ρ (.one 3)) (λρ H=>aM tb C ny ρ H) (λ_=>True) (l.map .int) [some (.ref rb),y1,some (.ref H0.length),x3,y4,y5] (sH aa H0 (sI H0.length E mdp q) ⟨[],g,[],[]⟩) K
 | [],g,x3,hl,hd,hg,hn,k=>⟨trivial,by have:=k x3;unfold dQ at this;simpa using this⟩
 |n::l,g,x3,hl,hd,hg,hn,k=>by
  refine⟨trivial,?_⟩;obtain⟨⟨m,r,e⟩,hm,hmn⟩:=List.mem_map.mp (hl n (.head _));dsimp only at hmn;subst hmn;rw [List.nodup_cons]at hd;rw [List.length_cons]at hn;have hb:=dA (aa:=aa) (i:=sI H0.length E mdp q) (X:=⟨[],g,[],[]⟩) B.b;unfold bC at hb;have hi:=dA (aa:=aa) (i:=sI H0.length E mdp q) (X:=⟨[],g,[],[]⟩) B.i;have he:=dA (aa:=aa) (i:=sI H0.length E mdp q) (X:=⟨[],g,[],[]⟩) (B.e _ hm);have he':(sH aa H0 (sI H0.length E mdp q) ⟨[],g,[],[]⟩)[r]?=some (.inst 10 [some (.int e.sz),some (.int e.last),some (.int e.ag),some (.int e.sat),some (.int e.spl)]):=he;have g0:=pI (aa:=aa) (H0:=H0) (i:=sI H0.length E mdp q) (X:=⟨[],g,[],[]⟩);have dl:=fI ok.k hm;have hbo:=kh ok.k hm;have C5:=ok.m _ hm;dsimp only at C5;have hng:=hg m (.head _);by_cases hbe:0<=e.ag
  ·have e1:dQ s.an (m::l)=(m,[])::dQ s.an l:=by unfold dQ;rw [List.filter_cons_of_pos (by rw [hbo];simp [hbe])];rfl
   rw [e1]at k;have ih:=ki (C:=C) (y1:=y1) (y4:=y4) (y5:=y5) (E:=E) (mdp:=mdp) (q:=q) (K:=K) B ok l (g++[(m,[])]) (some (.int m)) (λn hn=>hl n (.tail _ hn)) hd.2 (λn hn=>by
    rw [List.map_append,List.mem_append,not_or];refine⟨hg n (.tail _ hn),?_⟩;simp;rintro rfl;exact hd.1 hn) (by rw [List.length_append,List.length_singleton];omega) (λx3=>by rw [List.append_assoc];exact k x3)
   have ga:(sH aa H0 (sI H0.length E mdp q) ⟨[],g,[],[]⟩++[CO.ad []])[H0.length]?=some (.inst 13 [some (.int E.ae),some (.int E.pv),some (.int E.aq),some (.int mdp),some (.ref (H0.length+1)),some (.ref (H0.length+2)),some (.ref (H0.length+3)),some (.ref q),some (.ref (H0.length+5))]):=by rw [List.getElem?_append_left (aF g0)];exact g0
   have g2:=AG (aa:=aa) (H0:=H0) (i:=sI H0.length E mdp q) (X:=⟨[],g,[],[]⟩);have gb:(sH aa H0 (sI H0.length E mdp q) ⟨[],g,[],[]⟩++[CO.ad []])[H0.length+2]?=some (.dct (cD (H0.length+6) g)):=by rw [List.getElem?_append_left (aF g2)];exact g2
   fail "x";refine av.mk ⟨by omega,by
    show _<=10000000;have:(cD (H0.length+6) g).length=g.length:=by
     clear k ih g0 he he' hi hb gb ga g2 hn hg hng;generalize H0.length+6=bb;induction g generalizing bb with
     |nil=>rfl
     |cons p g ihg=>show(cD (bb+1) g).length+1=_;rw [ihg];rfl
    omega⟩ ?_
   rw [AK hng];exact ih
  ·have e1:dQ s.an (m::l)=dQ s.an l:=by unfold dQ;rw [List.filter_cons_of_neg (by rw [hbo];simp [hbe])]
   rw [e1]at k;have ih:=ki (C:=C) (y1:=y1) (y4:=y4) (y5:=y5) (E:=E) (mdp:=mdp) (q:=q) (K:=K) B ok l g (some (.int m)) (λn hn=>hl n (.tail _ hn)) hd.2 (λn hn=>hg n (.tail _ hn)) (by omega) k;fail "r";exact ih
end
section
def fK:Nd->Option V
 |.m c=>some (.ao [.ao [.int 11,.int c]])
 |_=>none
structure Rl(X:SS)(S:iJ):Prop where
 items:X.items=S.kept
 al:X.al=S.al
 has:∀n,di n X.ak↔di n S.ak
 get:∀n,cB n X.ak=cB n S.ak
 marks:X.marks=S.kept.filterMap fK
theorem mB{n m:Int}{y:List aA}:∀{g:Gn},di n g->cB m (cr n y g)=if m=n then y else cB m g
 | [],h=>by obtain⟨x,hx⟩:=h;cases hx
 |(k,z)::l,h=>by
  unfold cr;by_cases hk:k=n
  ·rw [if_pos hk];subst hk;unfold cB;by_cases hm:k=m
   ·rw [if_pos hm,if_pos hm.symm]
   ·rw [if_neg hm,if_neg (λe=>hm e.symm),if_neg hm]
  ·rw [if_neg hk];have h':di n l:=by
    obtain⟨x,hx⟩:=h;rcases List.mem_cons.mp hx with hx|hx
    ·cases hx;exact absurd rfl hk
    ·exact⟨x,hx⟩
   have ih:=mB (m:=m) (y:=y) h';unfold cB;by_cases hm:k=m
   ·rw [if_pos hm,if_neg (by omega),if_pos hm]
   ·rw [if_neg hm,ih,if_neg hm]
theorem ij{n:Int}{y:List aA}:∀{g:Gn},(cr n y g).map (·.1)=g.map (·.1)
 | []=>rfl
 |(k,z)::l=>by
  unfold cr;split
  ·rfl
  ·show k::(cr n y l).map (·.1)=_;rw [ij];rfl
theorem dR{n:Int}{g:Gn}:di n g↔n∈g.map (·.1):=by
 unfold di;rw [List.mem_map];exact⟨λ⟨x,hx⟩=>⟨_,hx,rfl⟩,λ⟨p,hp,e⟩=>⟨p.2,by rw [←e];exact hp⟩⟩
theorem og{n m:Int}{y:List aA}{g:Gn}:di m (cr n y g)↔di m g:=by rw [dR,dR,ij]
theorem Rl.put{X:SS}{S:iJ}(h:Rl X S){n:Int}(hn:di n S.ak){y:List aA}{hd:List Nd}:Rl {X with ak:=cr n (cB n X.ak++y) X.ak,al:=hd} {S with ak:=cr n (cB n S.ak++y) S.ak,al:=hd}:=
 ⟨h.items,rfl,λm=>by show di m (cr _ _ _)↔di m (cr _ _ _);rw [og,og];exact h.has m,λm=>by
  show cB m (cr _ _ _)=cB m (cr _ _ _);rw [mB ((h.has n).mpr hn),mB hn,h.get n,h.get m],h.marks⟩
structure EF(an:fe)(ab:Rows)(i:Nat)(n:Int)(r:Nat)(e:eT)(row:dI):Prop where
 m:(n,r,e)∈an
 g:aB n ab=some row
 b:row.last=e.ag
 s:row.sat=i↔e.sat=i
 p:e.sat=i->row.spl=e.spl
theorem vn{n:Nat}:aC n (n:Int)=n:=by show min n n=n;omega
theorem Rl.an{an:fe}{ab:Rows}{i:Nat}{n s c t:Int}{ps:List aA}{r:Nat}{e:eT}{row:dI}(f:EF an ab i n r e row){X:SS}{S:iJ}(h:Rl X S)(hn:di n S.ak):Rl (jJ e i X n s c ps t) (bW row i S n s c ps t):=by
 unfold jJ bW;rw [f.b];by_cases h1:e.ag<i
 ·rw [if_pos h1,if_pos h1];exact⟨h.items,by show X.al++_=S.al++_;rw [h.al],h.has,h.get,h.marks⟩
 ·rw [if_neg h1,if_neg h1];have full:fH row i ps=ps.length->Rl {X with ak:=cr n (cB n X.ak++ps) X.ak} {S with ak:=cr n (cB n S.ak++ps.take (fH row i ps)) S.ak,al:=if aJ t (ps.drop (fH row i ps))=[]then S.al else S.al++[.i n (be (aJ t (ps.drop (fH row i ps)))) c (aJ t (ps.drop (fH row i ps))) t]}:=λhc=>by
   rw [hc,List.take_length,List.drop_length,if_pos (show aJ t []=[]from rfl)];have:=h.put hn (y:=ps) (hd:=S.al);rw [←h.al]at this;rw [←h.al];exact this
  by_cases h2:(i:Int)≠e.sat\/e.spl=ps.length
  ·rw [if_pos h2];refine full ?_;unfold fH;by_cases h3:row.sat=i
   ·rw [if_pos h3];have h4:=f.s.mp h3;rcases h2 with h2|h2
    ·exact absurd h4.symm h2
    ·rw [f.p h4,h2];exact vn
   ·rw [if_neg h3]
  ·rw [if_neg h2];rw [not_or,Classical.not_not]at h2;have h4:e.sat=i:=h2.1.symm;have hc:fH row i ps=aC ps.length e.spl:=by
    unfold fH;rw [if_pos (f.s.mpr h4),f.p h4]
   dsimp only;rw [hc,←h.al];exact h.put hn
def FA(an:fe)(ab:Rows):Nat->List Nd->Prop
 |_,[]=>True
 |i,x::xs=>(∀n s c ps t,x= .i n s c ps t->∃r e row,EF an ab i n r e row)/\FA an ab (i+1) xs
theorem jW.kept1{ab:Rows}{S:iJ}{i:Nat}(h:jW ab S i){y:Nd}:jW ab {S with kept:=S.kept++[y]} (i+1):=⟨by have:=h.kept;simp;omega,by show S.al.length<=_;have:=h.al;omega,λp hp=>by have:=h.ak p hp;omega,h.len,h.has⟩
theorem Rl.kept1{X:SS}{S:iJ}(h:Rl X S){y:Nd}{tk:List V}(ht:tk=(fK y).toList):Rl {X with items:=X.items++[y],marks:=X.marks++tk} {S with kept:=S.kept++[y]}:=
 ⟨by show X.items++_=S.kept++_;rw [h.items],h.al,h.has,h.get,by
  show X.marks++tk=(S.kept++[y]).filterMap fK;rw [List.filterMap_append,h.marks,ht]
  cases hy:fK y<;>simp [hy]⟩
local macro_rules | `(tactic| fail "c") => `(tactic| first
 |with_reducible refine ar (by assumption) ?_
 |refine aS.mk ⟨_,by assumption,?_⟩)
theorem oh{C:CT}(c20:QF C){aa:Int}(hd0:0<=aa)(hd1:aa<=100000){H0:Hp}{rb:Nat}{a:eU}{s:BS}{E:fG}{mdp:Int}{q:Nat}{ab:Rows}{N:Nat}(hN:N<=50){y1 y3:Option V}{K:Fl->aE->Hp->Prop}(B:BA aa H0 rb a s)(ok:bw s.an):
  ∀(xs:List Nd) (i:Nat) (X:SS) (S:iJ) (x4 x5:Option V),(∀x∈xs,bV N x)->i+xs.length<=100->FA s.an ab i xs->jW ab S i->Rl X S->
  (∀X' x4 x5,Rl X' (dX ab i xs S)->X'.ak.map (·.1)=X.ak.map (·.1)->K .next [some (.ref rb),y1,some (.ref H0.length),y3,x4,x5] (sH aa H0 (sI H0.length E mdp q) X'))->
  ba (λρ=>ec ρ (.two 4 5)) (λρ H=>aM tb C jS ρ H) (λ_=>True) (cZ i (xs.map (nd aa))) [some (.ref rb),y1,some (.ref H0.length),y3,x4,x5] (sH aa H0 (sI H0.length E mdp q) X) K
 | [],i,X,S,x4,x5,hx,hl,hf,hS,hr,k=>⟨trivial,k _ _ _ hr rfl⟩
 |x::xs,i,X,S,x4,x5,hx,hl,hf,hS,hr,k=>by
  refine⟨trivial,?_⟩;rw [List.length_cons]at hl;have hxo:=hx x (.head _);have ih:=λ(X':SS) (S':iJ) x4 x5 (e:du ab i S x=S') (hk:X'.ak.map (·.1)=X.ak.map (·.1)) (hS':jW ab S' (i+1)) (hr':Rl X' S')=>oh (C:=C) c20 hd0 hd1 (E:=E) (mdp:=mdp) (q:=q) hN (y1:=y1) (y3:=y3) (K:=K) B ok xs (i+1) X' S' x4 x5 (λy hy=>hx y (.tail _ hy)) (by omega) hf.2 hS' hr' (λX2 x4 x5 h2 hk2=>k X2 x4 x5 (by subst e;exact h2) (hk2.trans hk));have hbk:X.items.length<=100:=by rw [hr.items];have:=hS.kept;omega
  have hmk:X.marks.length<=100:=by rw [hr.marks];have:=List.length_filterMap_le fK S.kept;have:=hS.kept;omega
  have hb:=dA (aa:=aa) (i:=sI H0.length E mdp q) (X:=X) B.b;unfold bC at hb;have hi:=dA (aa:=aa) (i:=sI H0.length E mdp q) (X:=X) B.i;have g0:(sH aa H0 (sI H0.length E mdp q) X)[H0.length]?=some (.inst 13 [some (.int E.ae),some (.int E.pv),some (.int E.aq),some (.int mdp),some (.ref (H0.length+1)),some (.ref (H0.length+2)),some (.ref (H0.length+3)),some (.ref q),some (.ref (H0.length+5))]):=pI;have g1:=AF (aa:=aa) (H0:=H0) (i:=sI H0.length E mdp q) (X:=X);have g5:=HC (aa:=aa) (H0:=H0) (i:=sI H0.length E mdp q) (X:=X);by_cases hI:isI x=true
  ·rcases x with(x|x|x)|x|x|⟨n,sz,c,ps,t⟩
   all_goals first|(cases hI;done)|skip
   obtain⟨r,e,row,f⟩:=hf.1 n sz c ps t rfl;have dl:=fI ok.k f.m;have hgS:=hS.has _ _ f.g;have hgX:=(hr.has n).mpr hgS;have hgl:=lf (n:=n) hS.ak;fail "x";refine c20.c (B.e _ f.m) hgX hN hxo hd0 hd1 (by rw [hr.al];have:=hS.al;omega) (by rw [hr.get];omega) ?_;fail "r";refine ih _ (bW row i S n sz c ps t) _ _ (by show bW ((aB n ab).getD ⟨0,-1,-1,0⟩) i S n sz c ps t=_;rw [f.g];rfl) ?_ (hS.an (by have:=hxo.2.2.2.2.2.1;omega)) (hr.an f hgS);unfold jJ;dsimp only
   (repeat' split)<;>first|rfl|exact ij
  ·by_cases hM:zd x=true
   ·rcases x with(x|x|x)|x|c|x;all_goals first|(cases hM;done)|skip
    have g1':=AF (aa:=aa) (H0:=H0) (i:=sI H0.length E mdp q) (X:={X with marks:=X.marks++[.ao [.ao [.int 11,.int c]]]});have g0':(sH aa H0 (sI H0.length E mdp q) {X with marks:=X.marks++[.ao [.ao [.int 11,.int c]]]})[H0.length]?=some (.inst 13 [some (.int E.ae),some (.int E.pv),some (.int E.aq),some (.int mdp),some (.ref (H0.length+1)),some (.ref (H0.length+2)),some (.ref (H0.length+3)),some (.ref q),some (.ref (H0.length+5))]):=pI;fail "x";refine av.mk (by show _<=10000000;omega) ?_;rw [Px];fail "x";refine av.mk (by show _<=10000000;rw [List.length_map];show X.items.length+1<=_;omega) ?_;rw [pJ,HD];fail "r";exact ih _ _ _ _ rfl rfl hS.kept1 (hr.kept1 rfl)
   ·have ek:∀x4 x5,zd x=false->isI x=false->fK x=none->ba (λρ=>ec ρ (.two 4 5)) (λρ H=>aM tb C jS ρ H) (λ_=>True) (cZ (i+1) (xs.map (nd aa))) [some (.ref rb),y1,some (.ref H0.length),y3,x4,x5] (sH aa H0 (sI H0.length E mdp q) {X with items:=X.items++[x]}) K:=by
     intro x4 x5 h1 h2 h3;have:=hr.kept1 (y:=x) (tk:=[]) (by rw [h3];rfl);rw [List.append_nil]at this;refine ih _ _ _ _ ?_ rfl hS.kept1 this;rcases x with(x|x|x)|x|x|x<;>first|rfl|(cases h1;done)|(cases h2;done)
    rcases x with(x|x|x)|x|c|x;all_goals first|(exact absurd rfl hM)|(exact absurd rfl hI)|skip
    all_goals
     fail "x";refine av.mk (by show _<=10000000;rw [List.length_map];omega) ?_;rw [pJ,HD];fail "r";exact ek _ _ rfl rfl rfl
end
theorem eQ{n m:Int}{x:dI}(h:m≠n):∀{ab:Rows},aB m (bH n x ab)=aB m ab
 | []=>rfl
 |(k,y)::l=>by
  unfold bH;by_cases hk:k=n
  ·rw [if_pos hk];unfold aB;rw [if_neg (by omega),if_neg (by omega)]
  ·rw [if_neg hk];unfold aB;rw [eQ h]
theorem iN{m:Int}{q:Rows}{r:dI}:∀{ab:Rows},aB m ab=some r->aB m (ab++q)=some r
 | [],h=>by cases h
 |(k,y)::l,h=>by
  unfold aB at h;show(if k=m then some y else aB m (l++q))=some r;split<;>rename_i hk
  ·rw [if_pos hk]at h;exact h
  ·rw [if_neg hk]at h;exact iN h
structure Mn(m:Nat)(a b:dI):Prop where
 p:0<=a.sat->b.sat=a.sat/\b.spl=a.spl
 n:a.sat<0->b.sat<0\/m<=b.sat
theorem Mn.refl{m:Nat}{a:dI}:Mn m a a:=⟨λ_=>⟨rfl,rfl⟩,λh=>.inl h⟩
theorem Mn.trans{m:Nat}{a b c:dI}(h:Mn m a b)(g:Mn m b c):Mn m a c:=by
 refine⟨λha=>?_,λha=>?_⟩
 ·obtain⟨h1,h2⟩:=h.p ha;obtain⟨g1,g2⟩:=g.p (by omega);exact⟨g1.trans h1,g2.trans h2⟩
 ·rcases h.n ha with hb|hb
  ·exact g.n hb
  ·obtain⟨g1,-⟩:=g.p (by omega);exact .inr (by omega)
theorem q7{C:cz}{n:Int}{S:Sm}:∃row,aB n (aD C n S).ab=some row/\(∀r,aB n S.ab=some r->row=r)/\(aB n S.ab=none->row.sat= -1):=by
 unfold aD
 cases hr:aB n S.ab with
 |some r=>exact⟨r,hr,λr' h=>(Option.some.inj h),λh=>by cases h⟩
 |none=>exact⟨_,l7 hr,λ_ h=>(by cases h),λ_=>rfl⟩
theorem vo{C:cz}{n m:Int}{S:Sm}{r:dI}(h:aB m S.ab=some r):aB m (aD C n S).ab=some r:=by
 unfold aD
 cases aB n S.ab with
 |some _=>exact h
 |none=>exact iN h
theorem yB{cl:Int->cz}{aa:Int}{S:Sm}{x:Nd}{n:Int}{row:dI}{m:Nat}(hm:m<=pre.length)(h:aB n S.ab=some row):∃row',aB n (cy cl aa pre S x).ab=some row'/\Mn m row row':=by
 rcases x with x|x|x|⟨k,s,c,ps,t⟩
 ·exact⟨row,h,.refl⟩
 ·exact⟨row,h,.refl⟩
 ·exact⟨row,h,.refl⟩
 ·show∃row',aB n (aZ (cl k) aa pre k s c ps (aD (cl k) k S)).ab=some row'/\_;have h1:=vo (C:=cl k) (n:=k) h;unfold aZ;dsimp only;by_cases hk:n=k
  ·subst hk;rw [h1];dsimp only [Option.getD_some];by_cases hs:0<=row.sat
   ·rw [if_pos hs];exact⟨row,h1,.refl⟩
   ·rw [if_neg hs];split
    ·exact⟨_,jy h1,λhs'=>absurd hs' hs,λ_=>.inl (by dsimp only;omega)⟩
    ·exact⟨_,jy h1,λhs'=>absurd hs' hs,λ_=>.inr (by dsimp only;omega)⟩
  ·split
   ·exact⟨row,h1,.refl⟩
   split
   ·exact⟨row,by dsimp only;rw [eQ hk];exact h1,.refl⟩
   ·exact⟨row,by dsimp only;rw [eQ hk];exact h1,.refl⟩
theorem zg{cl:Int->cz}{aa:Int}{n:Int}{m:Nat}:∀{xs pre:List Nd} {S:Sm} {row:dI},m<=pre.length->aB n S.ab=some row->∃row',aB n (cT cl aa pre xs S).ab=some row'/\Mn m row row'
 | [],_,_,row,_,h=>⟨row,h,.refl⟩
 |x::xs,pre,S,row,hm,h=>by
  obtain⟨r1,h1,g1⟩:=yB (cl:=cl) (aa:=aa) (x:=x) hm h;obtain⟨r2,h2,g2⟩:=zg (cl:=cl) (aa:=aa) (xs:=xs) (pre:=pre++[x]) (m:=m) (by rw [List.length_append];omega) h1;exact⟨r2,h2,g1.trans g2⟩
theorem HJ{F:Cf}{P:List Nd}{m:Nat}(hm:m<=P.length){n:Int}{row:dI}(h:aB n (F.S (P.take m)).ab=some row):∃row',aB n (F.S P).ab=some row'/\Mn m row row':=by
 rw [t0 (m:=m)];exact zg (by rw [List.length_take];omega) h
theorem xd{cl:Int->cz}{aa:Int}{S:Sm}{n s c t:Int}:aB n (cy cl aa pre S (.i n s c ps t)).ab≠none:=by
 obtain⟨row,h1,-,-⟩:=q7 (C:=cl n) (n:=n) (S:=S);show aB n (aZ (cl n) aa pre n s c ps (aD (cl n) n S)).ab≠none;unfold aZ;dsimp only;split
 ·rw [h1];simp
 split
 ·exact dP (by rw [h1];simp)
 ·exact dP (by rw [h1];simp)
theorem zh{F:Cf}{P:List Nd}{n s c t:Int}(h:Nd.i n s c ps t∈P):∃row,aB n (F.S P).ab=some row:=by
 obtain⟨A,B,rfl⟩:=List.append_of_mem h;have:aB n (F.S (A++Nd.i n s c ps t::B)).ab≠none:=by
  unfold Cf.S bi;rw [ig];exact pH (xs:=B) xd
 cases hr:aB n (F.S (A++Nd.i n s c ps t::B)).ab with
 |none=>exact absurd hr this
 |some row=>exact⟨row,rfl⟩
structure RK(ab:Rows):Prop where
 nd:(ab.map (·.1)).Nodup
 m:∀p∈ab,p.1=1\/p.1=2
 l:∀p∈ab,0<=p.2.last
theorem oi{n:Int}{x:dI}:∀{ab:Rows},(bH n x ab).map (·.1)=ab.map (·.1)
 | []=>rfl
 |(k,y)::l=>by
  unfold bH;split
  ·rfl
  ·show k::(bH n x l).map (·.1)=_;rw [oi];rfl
theorem eS{n:Int}:∀{ab:Rows},aB n ab=none->n∉ab.map (·.1)
 | [],_=>by simp
 |(k,y)::l,h=>by
  unfold aB at h;split at h
  ·cases h
  ·rename_i hk;rw [List.map_cons,List.mem_cons,not_or];exact⟨λe=>hk e.symm,eS h⟩
theorem kj{n:Int}{x:dI}:∀{ab:Rows},(ab.map (·.1)).Nodup->∀{p},p∈bH n x ab->(p.1≠n/\p∈ab)\/p=(n,x)
 | [],_,p,h=>by cases h
 |(k,y)::l,hd,p,h=>by
  rw [List.map_cons,List.nodup_cons]at hd;unfold bH at h;split at h
  ·rename_i hk;rcases List.mem_cons.mp h with rfl|h
   ·right;rw [hk]
   ·left;refine⟨λe=>?_,.tail _ h⟩;rw [hk,←e]at hd;exact hd.1 (List.mem_map.mpr ⟨p,h,rfl⟩)
  ·rename_i hk;rcases List.mem_cons.mp h with rfl|h
   ·left;exact⟨hk,.head _⟩
   ·rcases kj hd.2 h with h|h
    ·left;exact⟨h.1,.tail _ h.2⟩
    ·right;exact h
theorem RK.step{cl:Int->cz}{aa:Int}{N:Nat}{S:Sm}{x:Nd}(hx:bV N x)(h:RK S.ab):RK (cy cl aa pre S x).ab:=by
 rcases x with x|x|x|⟨n,s,c,ps,t⟩
 ·exact h
 ·exact h
 ·exact h
 ·have hn:=hx.1;show RK (aZ (cl n) aa pre n s c ps (aD (cl n) n S)).ab;have nd1:((aD (cl n) n S).ab.map (·.1)).Nodup/\(∀p∈(aD (cl n) n S).ab,p.1=1\/p.1=2)/\(∀p∈(aD (cl n) n S).ab,p.1≠n->0<=p.2.last):=by
   unfold aD
   cases hr:aB n S.ab with
   |some _=>exact⟨h.nd,h.m,λp hp _=>h.l p hp⟩
   |none=>
    have hk:=eS hr;refine⟨?_,λp hp=>?_,λp hp hne=>?_⟩
    ·show((S.ab++_).map _).Nodup;rw [List.map_append];refine List.nodup_append.mpr ⟨h.nd,by simp,λa ha b hb=>?_⟩;simp at hb;subst hb;rintro rfl;exact hk ha
    ·rcases List.mem_append.mp hp with hp|hp
     ·exact h.m p hp
     ·rw [List.mem_singleton]at hp;subst hp;exact hn
    ·rcases List.mem_append.mp hp with hp|hp
     ·exact h.l p hp
     ·rw [List.mem_singleton]at hp;subst hp;exact absurd rfl hne
  obtain⟨row,h1,h2,h3⟩:=q7 (C:=cl n) (n:=n) (S:=S);have same:0<=row.sat->aD (cl n) n S=S:=λhs=>by
   cases hr:aB n S.ab with
   |none=>have:=h3 hr;omega
   |some r=>unfold aD;rw [hr]
  generalize aD (cl n) n S=S1 at*;obtain⟨a1,a2,a3⟩:=nd1;unfold aZ;rw [h1];dsimp only [Option.getD_some];have put:∀x:dI,0<=x.last->RK (bH n x S1.ab):=λx hx=>by
   refine⟨by rw [oi];exact a1,λp hp=>?_,λp hp=>?_⟩
   ·rcases kj a1 hp with⟨_,hp⟩|rfl
    ·exact a2 p hp
    ·exact hn
   ·rcases kj a1 hp with⟨hne,hp⟩|rfl
    ·exact a3 p hp hne
    ·exact hx
  split
  ·rename_i hs;show RK S1.ab;rw [same hs];exact h
  split
  ·exact put _ (by dsimp only;omega)
  ·exact put _ (by dsimp only;omega)
theorem AL{F:Cf}{N:Nat}:∀{P:List Nd},(∀x∈P,bV N x)->RK (F.S P).ab:=by
 have go:∀{P pre:List Nd} {S:Sm},(∀x∈P,bV N x)->RK S.ab->RK (cT F.cl F.aa pre P S).ab:=by
  intro P;induction P with
  |nil=>intro _ _ _ h;exact h
  |cons x P ih=>intro pre S hx h;exact ih (λy hy=>hx y (.tail _ hy)) (h.step (hx x (.head _)))
 intro P hx;exact go hx ⟨by simp,λp hp=>(by cases hp),λp hp=>(by cases hp)⟩
theorem pL{n:Int}{row:dI}:∀{an:fe},aB n (aL an)=some row->∃r e,(n,r,e)∈an/\row=ft e
 | [],h=>by cases h
 |(m,q,f)::an,h=>by
  have h:(if m=n then some (ft f)else aB n (aL an))=some row:=h;split at h
  ·rename_i e;cases h;subst e;exact⟨q,f,.head _,rfl⟩
  ·obtain⟨r,e,hm,he⟩:=pL h;exact⟨r,e,.tail _ hm,he⟩
theorem gD.ef{F:Cf}{s:BS}{e:fG}(h:gD F s W e){i:Nat}(hi:i<e.at_){n sz c t:Int}(hx:s.P[i]?=some (.i n sz c ps t)):∃r e' row,EF s.an (F.S (s.P.take e.at_)).ab i n r e' row:=by
 have hb:=h.bst;unfold gQ at hb;rw [h.ag]at hb;obtain⟨hle,hb⟩:=hb;have hmem:Nd.i n sz c ps t∈s.P.take e.at_:=by
  refine List.mem_of_getElem? (i:=i) ?_;rw [List.getElem?_take_of_lt hi];exact hx
 obtain⟨row,hrow⟩:=zh (F:=F) hmem;obtain⟨row',hr',mn⟩:=HJ hle hrow;rw [←h.core.ab]at hr';obtain⟨r,e',hm,rfl⟩:=pL hr';refine⟨r,e',row,hm,hrow,?_,?_,?_⟩
 ·have:=hb _ hm;dsimp only at this;rw [this];unfold cO;rw [hrow];rfl
 ·have e1:(ft e').sat=e'.sat:=rfl;constructor
  ·intro hs;have:=(mn.p (by omega)).1;omega
  ·intro hs;by_cases h0:0<=row.sat
   ·have:=(mn.p h0).1;omega
   ·rcases mn.n (by omega)with h1|h1
    ·omega
    ·omega
 ·intro hs;have e1:(ft e').sat=e'.sat:=rfl;by_cases h0:0<=row.sat
  ·exact(mn.p h0).2.symm
  ·rcases mn.n (by omega)with h1|h1
   ·omega
   ·omega
theorem zi{an:fe}{ab:Rows}:∀{xs:List Nd} {i:Nat},(∀(k:Nat) (n s c t:Int) (ps:List aA),xs[k]?=some (.i n s c ps t)->∃r e row,EF an ab (i+k) n r e row)->FA an ab i xs
 | [],i,_=>trivial
 |x::xs,i,h=>⟨λn s c ps t e=>h 0 n s c t ps (by rw [e];rfl),zi λk n s c t ps hk=>by
   have:=h (k+1) n s c t ps hk;rw [show i+(k+1)=i+1+k by omega]at this;exact this⟩
theorem gD.fa{F:Cf}{s:BS}{e:fG}(h:gD F s W e):FA s.an (F.S (s.P.take e.at_)).ab 0 (s.P.take e.at_):=zi λk n sz c t ps hk=>by
 have hl:k<e.at_:=by
  have:=(List.getElem?_eq_some_iff.mp hk).1;rw [List.length_take]at this;omega
 rw [List.getElem?_take_of_lt hl]at hk;rw [Nat.zero_add];exact h.ef hl hk
theorem gD.keys{F:Cf}{s:BS}{e:fG}(h:gD F s W e)(hF:F.Ok)(n:Int):(n∈s.an.map (·.1)/\kg s.an n=true)↔n∈(F.S (s.P.take e.at_)).ab.map (·.1):=by
 have hb:=h.bst;unfold gQ at hb;rw [h.ag]at hb;obtain⟨hle,hb⟩:=hb;have hok:∀x∈s.P.take e.at_,bV F.N x:=λx hx=>fJ hF.top h.okW x (by rw [←h.line];exact List.mem_append_left _ (List.mem_of_mem_take hx));have rk:=AL (F:=F) hok;constructor
 ·rintro ⟨hm0,hbo⟩
  obtain⟨⟨m,r,e'⟩,hm,rfl⟩:=List.mem_map.mp hm0;rw [kh h.ok.k hm,decide_eq_true_iff]at hbo;have:=hb _ hm;dsimp only at this;rw [this]at hbo;unfold cO at hbo
  cases hr:aB m (F.S (s.P.take e.at_)).ab with
  |none=>rw [hr]at hbo;exact absurd hbo (by decide)
  |some row=>exact List.mem_map.mpr ⟨_,jI hr,rfl⟩
 ·intro hm;have hr:∃row,aB n (F.S (s.P.take e.at_)).ab=some row:=by
   cases hr:aB n (F.S (s.P.take e.at_)).ab with
   |none=>exact absurd hm (eS hr)
   |some row=>exact⟨row,rfl⟩
  obtain⟨row,hr⟩:=hr;obtain⟨row',hr',mn⟩:=HJ hle hr;rw [←h.core.ab]at hr';obtain⟨r,e',hm',rfl⟩:=pL hr';refine⟨List.mem_map.mpr ⟨_,hm',rfl⟩,?_⟩;rw [kh h.ok.k hm',decide_eq_true_iff];have:=hb _ hm';dsimp only at this;rw [this];unfold cO;rw [hr];exact rk.l _ (jI hr)
def mC(g:Gn):List (Int×V):=g.map λp=>(p.1,.ad (p.2.map ci))
def kM(aa:Int)(E:fG)(mdp:Int)(X:SS)(B:List Nd):V:=.obj 13 [.int E.ae,.int E.pv,.int E.aq,.int mdp,.ad (X.items.map (nd aa)),.dct (mC X.ak),.ad (X.al.map (nd aa)),.ad (B.map (nd aa)),.ad X.marks]
theorem pM{n d:Nat}{aa:Int}{xs:List Nd}:(xs.map (nd aa)).mapM (frz n H (d+1))=some (xs.map (nd aa)):=df λx hx=>by obtain⟨p,-,rfl⟩:=List.mem_map.mp hx;exact wV
theorem xe{n d:Nat}{xs:List aA}:(xs.map ci).mapM (frz n H (d+1))=some (xs.map ci):=df λx hx=>by obtain⟨p,-,rfl⟩:=List.mem_map.mp hx;exact yj
theorem q8{n:Nat}{H:Hp}:∀{g:Gn} {b:Nat},n<=b->(∀(j:Nat) p,g[j]?=some p->H[b+j]?=some (.ad (p.2.map ci)))->(cD b g).mapM (λkv=>(frz n H 6 kv.2).map λv=>(kv.1,v))=some (mC g)
 | [],b,_,_=>rfl
 |(m,z)::l,b,hb,h=>by
  have h0:=h 0 (m,z) rfl;have ih:=q8 (n:=n) (H:=H) (g:=l) (b:=b+1) (by omega) λj p hj=>by
   have:=h (j+1) p hj;rw [show b+1+j=b+(j+1)by omega];exact this
  show((m,V.ref b)::cD (b+1) l).mapM _=_;rw [List.mapM_cons,ih];show((frz n H 6 (.ref b)).map λv=>(m,v)).bind _=_;rw [fc (d:=5) hb h0 xe];rfl
theorem xf{g:Gn}{p:Int×List aA}(h:g[j]?=some p):(gV g)[j]?=some (.ad (p.2.map ci)):=by
 unfold gV;rw [List.getElem?_map,h];rfl
theorem yC{n d:Nat}{S:List Nd}:(S.filterMap fK).mapM (frz n H (d+4))=some (S.filterMap fK):=df λx hx=>by
 obtain⟨y,-,hy⟩:=List.mem_filterMap.mp hx;rcases y with(y|y|y)|y|y|y<;>first|(cases hy;done)|(cases hy;rfl)
theorem xg{aa:Int}{E:fG}{mdp:Int}{X:SS}{B S:List Nd}(hm:X.marks=S.filterMap fK){q:Nat}(hq:q=H0.length+6+X.ak.length):
  frz H0.length (sH aa H0 (sI H0.length E mdp q) X++[.ad (B.map (nd aa))]) 8 (.ref H0.length)=some (kM aa E mdp X B):=by
 have up:∀{r:Nat} {x:CO},(sH aa H0 (sI H0.length E mdp q) X)[r]?=some x->(sH aa H0 (sI H0.length E mdp q) X++[.ad (B.map (nd aa))])[r]?=some x:=λh=>by rw [List.getElem?_append_left (aF h)];exact h
 have h0:=up (pI (aa:=aa) (H0:=H0) (i:=sI H0.length E mdp q) (X:=X));have h1:=up (AF (aa:=aa) (H0:=H0) (i:=sI H0.length E mdp q) (X:=X));have h2:=up (AG (aa:=aa) (H0:=H0) (i:=sI H0.length E mdp q) (X:=X));have h3:=up (AH (aa:=aa) (H0:=H0) (i:=sI H0.length E mdp q) (X:=X));have h5:=up (HC (aa:=aa) (H0:=H0) (i:=sI H0.length E mdp q) (X:=X));have hr:(sH aa H0 (sI H0.length E mdp q) X++[.ad (B.map (nd aa))])[q]?=some (.ad (B.map (nd aa))):=by
  have:=bP (H:=sH aa H0 (sI H0.length E mdp q) X) (x:=.ad (B.map (nd aa)));rw [pK,←hq]at this;exact this
 have hg:∀(j:Nat) p,X.ak[j]?=some p->(sH aa H0 (sI H0.length E mdp q) X++[.ad (B.map (nd aa))])[H0.length+6+j]?=some (.ad (p.2.map ci)):=λj p hj=>by
  refine up ?_;rw [Nat.add_assoc];refine eN ?_;rw [Nat.add_comm 6 j];exact xf hj
 generalize sH aa H0 (sI H0.length E mdp q) X++[CO.ad (B.map (nd aa))]=G at*;have f1:=fc (d:=6) (Nat.le_add_right _ _:H0.length<=H0.length+1) h1 pM;have f3:=fc (d:=6) (Nat.le_add_right _ _:H0.length<=H0.length+3) h3 pM;have f5:=fc (d:=6) (Nat.le_add_right _ _:H0.length<=H0.length+5) h5 (by rw [hm];exact yC (d:=2));have f4:=fc (d:=6) (n:=H0.length) (by omega:H0.length<=q) hr pM;have f2:frz H0.length G 7 (.ref (H0.length+2))=some (.dct (mC X.ak)):=by
  show(if H0.length+2<H0.length then Option.none else(match G[H0.length+2]? with|some (.ad xs)=>(xs.mapM (frz H0.length G 6)).map V.ad|some (.dct ks)=>(ks.mapM λkv=>(frz H0.length G 6 kv.2).map λv=>(kv.1,v)).map V.dct|some (.inst c fs)=>(fs.mapM λ(o:Option V)=>o.bind (frz H0.length G 6)).map (V.obj c)|_=>Option.none))=_;rw [if_neg (by omega),h2];dsimp only;rw [q8 (by omega) hg];rfl
 show(if H0.length<H0.length then Option.none else(match G[H0.length]? with|some (.ad xs)=>(xs.mapM (frz H0.length G 7)).map V.ad|some (.dct ks)=>(ks.mapM λkv=>(frz H0.length G 7 kv.2).map λv=>(kv.1,v)).map V.dct|some (.inst c fs)=>(fs.mapM λ(o:Option V)=>o.bind (frz H0.length G 7)).map (V.obj c)|_=>Option.none))=_;rw [if_neg (by omega),h0];unfold sI;dsimp only;simp only [List.mapM_cons,List.mapM_nil,Option.bind_some,f1,f2,f3,f4,f5];rfl
theorem sY{aa:Int}{xs:List Nd}:NR (.ad (xs.map (nd aa))):=.ad λy hy=>by obtain⟨p,-,rfl⟩:=List.mem_map.mp hy;exact yZ
theorem yD{aa:Int}{E:fG}{mdp:Int}{X:SS}{B S:List Nd}(hm:X.marks=S.filterMap fK):NR (kM aa E mdp X B):=by
 refine .obj λv hv=>?_;simp only [List.mem_cons,List.not_mem_nil,or_false]at hv;rcases hv with rfl|rfl|rfl|rfl|rfl|rfl|rfl|rfl|rfl
 ·exact .int _
 ·exact .int _
 ·exact .int _
 ·exact .int _
 ·exact sY
 ·refine .dct λp hp=>?_;obtain⟨q,-,rfl⟩:=List.mem_map.mp hp;exact tT
 ·exact sY
 ·exact sY
 ·refine .ad λy hy=>?_;rw [hm]at hy;obtain⟨z,-,hz⟩:=List.mem_filterMap.mp hy;rcases z with(z|z|z)|z|z|z<;>first|(cases hz;done)|(cases hz;exact dC (d:=8) rfl)
section
theorem yE{an:fe}(h:bw an):∃l,mO ((fY an).map (·.1))=some l/\(∀n,n∈l↔n∈an.map (·.1))/\l.Nodup/\l.length<=2:=by
 have hk:=h.k;have hl:=h.len;rw [nW];have e:(an.map (·.1)).length=an.length:=List.length_map ..;generalize an.map (·.1)=L at*;match L,hk with
 | [],_=>exact⟨_,rfl,λn=>Iff.rfl,by simp,by simp⟩
 | [a],_=>exact⟨_,rfl,λn=>Iff.rfl,by simp,by simp⟩
 | [a,b],hk=>
  refine⟨_,rfl,λn=>?_,?_,?_⟩
  ·split
   ·simp [or_comm]
   ·rfl
  ·simp at hk;split
   ·simp;omega
   ·simp;omega
  ·split<;>simp
 |a::b::c::r,hk=>exact absurd (show(a::b::c::r).length<=2 by omega) (by simp)
theorem mD{an:fe}{l:List Int}:(dQ an l).map (·.1)=l.filter (kg an):=by
 unfold dQ;rw [List.map_map];conv=>rhs;rw [←List.map_id (l.filter (kg an))]
 rfl
theorem mE{n:Int}:∀{g:Gn},(∀p∈g,p.2=[])->cB n g=[]
 | [],_=>rfl
 |(m,x)::l,h=>by
  unfold cB;split
  ·exact h _ (.head _)
  ·exact mE λp hp=>h p (.tail _ hp)
structure AM(F:Cf)(s:BS)(E:fG)(X:SS):Prop where
 rl:Rl X (dJ (s.P++s.R) E.at_ (F.S ((s.P++s.R).take E.at_)).ab)
 nd:(X.ak.map (·.1)).Nodup
 m:∀n∈X.ak.map (·.1),n=1\/n=2
theorem gD.at_le{F:Cf}{s:BS}{e:fG}(h:gD F s W e):e.at_<=s.P.length:=by
 have hb:=h.bst;unfold gQ at hb;rw [h.ag]at hb;exact hb.1
theorem AN{aa:Int}{L:Hp}{i j:CO}{X:SS}:(sH aa H0 i X++L).set H0.length j=sH aa H0 j X++L:=by
 unfold sH;rw [List.append_assoc,List.append_assoc];exact mz (k:=0)
local macro_rules | `(tactic| fail "c") => `(tactic| first
 |with_reducible refine ar (by assumption) ?_
 |with_reducible refine ib (by assumption) ?_
 |with_reducible refine jD (by assumption) ?_
 |refine av.mk eO ?_
 |refine aS.mk ⟨_,by assumption,?_⟩)
def t5:aU:=dh 3 fR
theorem vp(cP:Hj C){aa:Int}{a:eU}{s:BS}{E:fG}{mdp:Int}{X:SS}{S:List Nd}(hm:X.marks=S.filterMap fK){K:V->Hp->Prop}(B:BA aa H0 rb a s)(hle:E.at_<=s.P.length)(hlen:s.P.length+s.R.length<=1000)
  (k:K (kM aa E mdp X (bg (s.P.drop E.at_++s.R))) H0):
  aM tb C t5 [some (.ref rb),some (dN (some E)),some (.ref H0.length),x3,x4,x5] (sH aa H0 (sI H0.length E mdp (H0.length+4)) X) (fL true H0 K):=by
 have hb:=dA (aa:=aa) (i:=sI H0.length E mdp (H0.length+4)) (X:=X) B.b;have hp:=dA (aa:=aa) (i:=sI H0.length E mdp (H0.length+4)) (X:=X) B.p;have hc:=dA (aa:=aa) (i:=sI H0.length E mdp (H0.length+4)) (X:=X) B.c;have g0:=pI (aa:=aa) (H0:=H0) (i:=sI H0.length E mdp (H0.length+4)) (X:=X);have hlen4:=pK (aa:=aa) (H0:=H0) (i:=sI H0.length E mdp (H0.length+4)) (X:=X);have g0':∀L:Hp,(sH aa H0 (sI H0.length E mdp (H0.length+4)) X++L)[H0.length]?=some (.inst 13 [some (.int E.ae),some (.int E.pv),some (.int E.aq),some (.int mdp),some (.ref (H0.length+1)),some (.ref (H0.length+2)),some (.ref (H0.length+3)),some (.ref (H0.length+4)),some (.ref (H0.length+5))]):=λL=>by rw [List.getElem?_append_left (aF g0)];exact g0
 generalize hq:H0.length+6+X.ak.length=q at*;have gn:∀L:Hp,(sH aa H0 (sI H0.length E mdp q) X++L)[H0.length]?=some (.inst 13 [some (.int E.ae),some (.int E.pv),some (.int E.aq),some (.int mdp),some (.ref (H0.length+1)),some (.ref (H0.length+2)),some (.ref (H0.length+3)),some (.ref q),some (.ref (H0.length+5))]):=λL=>by rw [List.getElem?_append_left (aF pI)];exact pI
 have hl4:(sH aa H0 (sI H0.length E mdp q) X).length=q:=by rw [pK];exact hq
 have glast:∀l:CO,(sH aa H0 (sI H0.length E mdp q) X++[l])[q]?=some l:=λl=>by have:=bP (H:=sH aa H0 (sI H0.length E mdp q) X) (x:=l);rw [hl4]at this;exact this
 have slast:∀l m:CO,(sH aa H0 (sI H0.length E mdp q) X++[l]).set q m=sH aa H0 (sI H0.length E mdp q) X++[m]:=λl m=>by have:=cA (H:=sH aa H0 (sI H0.length E mdp q) X) (x:=l) (y:=m);rw [hl4]at this;exact this
 have hpm:(s.P.map (nd aa)).length=s.P.length:=List.length_map ..;have fin:∀Y:List Nd,K (kM aa E mdp X Y) H0->mN H0.length (sH aa H0 (sI H0.length E mdp q) X++[.ad (Y.map (nd aa))]) (.ref H0.length) λu=>av ((sH aa H0 (sI H0.length E mdp q) X++[CO.ad (Y.map (nd aa))]).take H0.length=H0) (K u H0):=λY kY=>by
  refine dH (xg hm hq.symm) (yD hm) ?_;unfold sH;rw [List.append_assoc];exact dg kY
 unfold bC at hb;fail "x";rw [map_drop hle];refine av.mk (by show _<=10000000;rw [List.length_map,List.length_map,List.length_drop];omega) ?_;rw [←List.map_append];generalize s.P.drop E.at_++s.R=Y at*;have ga:=g0' [.ad (Y.map (nd aa))];have gb:=gn [.ad (Y.map (nd aa))];have gc:=glast (.ad (Y.map (nd aa)));have hset:(sH aa H0 (sI H0.length E mdp (H0.length+4)) X++[CO.ad (Y.map (nd aa))]).set H0.length (CO.inst 13 ([some (V.int E.ae),some (V.int E.pv),some (V.int E.aq),some (V.int mdp),some (V.ref (H0.length+1)),some (V.ref (H0.length+2)),some (V.ref (H0.length+3)),some (V.ref (H0.length+4)),some (V.ref (H0.length+5))].set 7 (some (V.ref q))))=sH aa H0 (sI H0.length E mdp q) X++[CO.ad (Y.map (nd aa))]:=AN;fail "x";refine aV rfl ?_;rw [hlen4,hset]
 cases Y with
 |nil=>
  have hnil:([]:List Nd)=[]:=rfl;have hf:=fin [] k;fail "r";exact hf
 |cons y ys=>
  have hne:y::ys≠[]:=by simp
  have hf:=fin (y::ys);have hf2:=fin (.pt (.p 10000)::ys);have hs2:=slast (.ad ((y::ys).map (nd aa))) (.ad ((Nd.pt (.p 10000)::ys).map (nd aa)));rcases y with(y|y|y)|y|y|y
  case pt.p=>
   fail "x";refine cP.c (by omega) (by omega) ?_;fail "r";have hX:=hf2 k;rw [←hs2]at hX;exact hX
  all_goals
   have hf:=hf k;fail "r";exact hf
structure T6(C:CT):Prop where c:∀{F:Cf} {rb:Nat} {a:eU} {s:BS} {W:List Nd} {E:fG} {H:Hp} {K:V->Hp->Prop},F.Ok->BA F.aa H rb a s->gD F s W E->(∀X,AM F s E X->K (kM F.aa E s.mdp X (bg (s.P.drop E.at_++s.R))) H)->C 19 [.ref rb,dN (some E)] H K
theorem T7(d:Nat):T6 (aG tb (d+8)):=⟨λ{F rb a s W E H K} hF B h k=>by
 refine aw rfl rfl ?_;have cS:=HI (d+5);have cP:=Hk (d+3);have c20:=T5 d;generalize aG tb (d+7)=C at*;have hle:=h.at_le;have hd:=hF.aa;have hokL:=fJ hF.top h.okW;have hlL:=ie (top:=F.top) (xs:=W);have hlW:=h.len;rw [←h.line]at hokL hlL;rw [List.length_append]at hlL;have etk:(s.P++s.R).take E.at_=s.P.take E.at_:=List.take_append_of_le_length hle;have hokT:∀x∈s.P.take E.at_,bV F.N x:=λx hx=>hokL x (List.mem_append_left _ (List.mem_of_mem_take hx));have rk:=AL (F:=F) hokT;obtain⟨l,hl,hm,hnd,hl2⟩:=yE h.ok;have hb:=B.b;unfold bC at hb;have hi:=B.i;have keys:∀n,n∈(dQ s.an l).map (·.1)↔n∈(F.S (s.P.take E.at_)).ab.map (·.1):=λn=>by
  rw [mD,List.mem_filter,hm,h.keys hF n]
 have rl0:Rl ⟨[],dQ s.an l,[],[]⟩ ⟨[],(F.S (s.P.take E.at_)).ab.map λp=>(p.1,[]),[]⟩:=by
  refine⟨rfl,rfl,λn=>?_,λn=>?_,rfl⟩
  ·rw [dR,dR,keys,List.map_map];rfl
  ·rw [mE (λp hp=>by unfold dQ at hp;obtain⟨q,-,rfl⟩:=List.mem_map.mp hp;rfl),mE (λp hp=>by obtain⟨q,-,rfl⟩:=List.mem_map.mp hp;rfl)]
 have sb0:jW (F.S (s.P.take E.at_)).ab ⟨[],(F.S (s.P.take E.at_)).ab.map λp=>(p.1,[]),[]⟩ 0:=by
  refine⟨by simp,by simp,λp hp=>?_,by simp,λm r hr=>?_⟩
  ·obtain⟨q,-,rfl⟩:=List.mem_map.mp hp;simp
  ·rw [dR,List.map_map];exact List.mem_map.mpr ⟨_,jI hr,rfl⟩
 have fin:∀(X:SS) (x3 x4 x5:Option V),Rl X (dX (F.S (s.P.take E.at_)).ab 0 (s.P.take E.at_) ⟨[],(F.S (s.P.take E.at_)).ab.map λp=>(p.1,[]),[]⟩)->X.ak.map (·.1)=(dQ s.an l).map (·.1)->
   aM tb C t5 [some (.ref rb),some (dN (some E)),some (.ref H.length),x3,x4,x5] (sH F.aa H (sI H.length E s.mdp (H.length+4)) X) (fL true H K):=by
  intro X x3 x4 x5 hr hk;refine vp cP hr.marks B hle (by omega) (k X ⟨?_,?_,λn hn=>?_⟩)
  ·unfold dJ;rw [etk];exact hr
  ·rw [hk,mD];exact hnd.filter _
  ·rw [hk,keys]at hn;obtain⟨p,hp,rfl⟩:=List.mem_map.mp hn;exact rk.m p hp
 have loop2:∀x3 x4 x5,aM tb C (dh 2 fR) [some (.ref rb),some (dN (some E)),some (.ref H.length),x3,x4,x5] (sH F.aa H (sI H.length E s.mdp (H.length+4)) ⟨[],dQ s.an l,[],[]⟩) (fL true H K):=by
  intro x3 x4 x5;have hb':=dA (aa:=F.aa) (i:=sI H.length E s.mdp (H.length+4)) (X:=⟨[],dQ s.an l,[],[]⟩) hb;have hp':=dA (aa:=F.aa) (i:=sI H.length E s.mdp (H.length+4)) (X:=⟨[],dQ s.an l,[],[]⟩) B.p;rw [show dh 2 fR=jd 1 (dh 2 fR) t5 from rfl];generalize hT:t5=T at*;fail "x";rw [map_take hle];refine ed.mk ?_;refine oh c20 hd.1 hd.2 hF.N B h.ok _ 0 _ _ _ _ hokT (by rw [List.length_take];omega) h.fa sb0 rl0 λX' x4 x5 hr hk=>?_;exact fin X' _ _ _ hr hk
 rw [show fR=jd 2 fR (dh 2 fR)from rfl];generalize hT:dh 2 fR=T at loop2;have hb':=dA (aa:=F.aa) (i:=sI H.length E s.mdp (H.length+4)) (X:=⟨[],[],[],[]⟩) hb;have hi':=dA (aa:=F.aa) (i:=sI H.length E s.mdp (H.length+4)) (X:=⟨[],[],[],[]⟩) hi;fail "x";refine cS.c (aa:=F.aa) ?_;fail "x";refine ed.mk ?_;refine ki B h.ok l [] _ (λn hn=>(hm n).mp hn) hnd (λn _=>by simp) (by simp;omega) λx3=>?_;exact loop2 _ _ _⟩
end
section
theorem cG{C:CT}(c31:HX C){aa:Int}{ρ:aE}{k:Nat}(hk:k<ρ.length){ck:Hp->Prop}{H:Hp}(hc:ck H){K:List V->Hp->Prop}:∀(xs:List Nd) (acc:List V),K (acc++xs.map aP) H->
  bN (ec ρ (.one k)) (λρ1 H2=>bI tb C (.fn 31 (.cons (.ac k) .nil)) ρ1 H2) (λρ1 H2=>cm tb C .nil ρ1 H2) ck (xs.map (nd aa)) acc H K
 | [],acc,h=>⟨hc,by simpa using h⟩
 |x::xs,acc,h=>by
  have ih:=cG c31 (aa:=aa) hk hc (K:=K) xs (acc++[aP x]) (by simpa using h);refine⟨hc,?_⟩;refine ku ?_;have e:bE (ρ.set k (some (nd aa x))) k=some (nd aa x):=by unfold bE;rw [List.getElem?_set_self hk]
  show(match bE (ρ.set k (some (nd aa x))) k with|some v=>C 31 [v] H (λv H2=>bN (ec ρ (.one k)) (λρ1 H2=>bI tb C (.fn 31 (.cons (.ac k) .nil)) ρ1 H2) (λρ1 H2=>cm tb C .nil ρ1 H2) ck (xs.map (nd aa)) (acc++[v]) H2 K)|Option.none=>False);rw [e];exact c31.c ih
theorem mF{X Y:Prop}(k:Y):gf (b0 true (kX v v)) X Y:=by
 have:kX v v=true:=by simp [kX]
 rw [this];exact nD k
theorem q9:jg 8 (.ad (is.map .int)):=λy hy=>by obtain⟨p,-,rfl⟩:=List.mem_map.mp hy;trivial
theorem oj:jg 8 (.ad (ps.map aQ)):=λy hy=>by
 obtain⟨p,-,rfl⟩:=List.mem_map.mp hy;exact mh (.pt p)
theorem re{S:List Nd}:jg 8 (.ad (S.filterMap fK)):=λy hy=>by
 obtain⟨z,-,hz⟩:=List.mem_filterMap.mp hy;rcases z with(z|z|z)|z|z|z;all_goals first|(cases hz;done)|skip
 cases hz;intro w hw;rcases hw with _|⟨_,h⟩
 ·intro u hu;rcases hu with _|⟨_,_|⟨_,h⟩⟩
  ·trivial
  ·trivial
  ·cases h
 ·cases h
theorem xh{a b c d:Int}:jg 8 (.ao [.int a,.int b,.int c,.int d]):=λy hy=>by
 rcases hy with _|⟨_,_|⟨_,_|⟨_,_|⟨_,h⟩⟩⟩⟩
 ·trivial
 ·trivial
 ·trivial
 ·trivial
 ·cases h
theorem xi:∀{A B:List Int},A.Nodup->B.Nodup->(∀n∈A,n=1\/n=2)->(∀n∈B,n=1\/n=2)->(∀n,n∈A↔n∈B)->∃l,mO A=some l/\mO B=some l:=by
 have len:∀{L:List Int},L.Nodup->(∀n∈L,n=1\/n=2)->L=[]\/L=[1]\/L=[2]\/L=[1,2]\/L=[2,1]:=by
  intro L hd hm;match L,hd,hm with
  | [],_,_=>exact .inl rfl
  | [a],_,hm=>
   rcases hm a (by simp)with rfl|rfl
   ·exact .inr (.inl rfl)
   ·exact .inr (.inr (.inl rfl))
  | [a,b],hd,hm=>
   have h1:=hm a (by simp);have h2:=hm b (by simp);simp at hd;rcases h1 with rfl|rfl<;>rcases h2 with rfl|rfl
   ·exact absurd rfl hd
   ·exact .inr (.inr (.inr (.inl rfl)))
   ·exact .inr (.inr (.inr (.inr rfl)))
   ·exact absurd rfl hd
  |a::b::c::r,hd,hm=>
   exfalso;have h1:=hm a (by simp);have h2:=hm b (by simp);have h3:=hm c (by simp);simp at hd;omega
 intro A B hA hB h1 h2 h;have e1:=h 1;have e2:=h 2;rcases len hA h1 with rfl|rfl|rfl|rfl|rfl<;>rcases len hB h2 with rfl|rfl|rfl|rfl|rfl<;>first|(exfalso;simp at e1 e2;done)|exact⟨_,rfl,rfl⟩
theorem m5{ab:Rows}{i:Nat}{S:iJ}{x:Nd}:(du ab i S x).ak.map (·.1)=S.ak.map (·.1):=by
 rcases x with x|x|x|⟨n,s,c,ps,t⟩
 ·rfl
 ·rfl
 ·rfl
 ·show(bW _ i S n s c ps t).ak.map (·.1)=_;unfold bW;split
  ·rfl
  ·exact ij
theorem kO{ab:Rows}:∀{xs:List Nd} {i:Nat} {S:iJ},(dX ab i xs S).ak.map (·.1)=S.ak.map (·.1)
 | [],_,_=>rfl
 |x::xs,i,S=>by
  show(dX ab (i+1) xs (du ab i S x)).ak.map (·.1)=_;rw [kO,m5]
theorem rf{p:Nat}{ab:Rows}:(dJ L p ab).ak.map (·.1)=ab.map (·.1):=by
 unfold dJ;rw [kO,List.map_map];rfl
theorem kP{n:Int}:∀{g:Gn},di n g->aW n (mC g)=some (.ad ((cB n g).map ci))
 | [],h=>by obtain⟨x,hx⟩:=h;cases hx
 |(m,z)::l,h=>by
  show(match decide (m=n)with|true=>some (V.ad (z.map ci))|false=>aW n (mC l))=_;unfold cB;by_cases hm:m=n
  ·rw [decide_eq_true hm,if_pos hm]
  ·rw [decide_eq_false hm,if_neg hm];have h':di n l:=by
    obtain⟨x,hx⟩:=h;rcases List.mem_cons.mp hx with hx|hx
    ·cases hx;exact absurd rfl hm
    ·exact⟨x,hx⟩
   exact kP h'
theorem AO{aa:Int}:ps.map ci=(ps.map Nd.pt).map (nd aa):=by rw [List.map_map];rfl
theorem xj:(ps.map Nd.pt).map aP=ps.map aQ:=by rw [List.map_map];rfl
local macro_rules | `(tactic| fail "c") => `(tactic| first
 |with_reducible refine ar (by assumption) ?_
 |with_reducible refine mF ?_
 |refine av.mk (.inl ⟨oj,oj⟩) ?_
 |refine aS.mk ⟨_,by assumption,?_⟩)
theorem om{C:CT}(c31:HX C){aa:Int}{E:fG}{mdp:Int}{X:SS}{S:iJ}{B:List Nd}(hr:Rl X S){y0 y1 y2 y3 y4 y5 y8 y10 y11 y13:Option V}{H:Hp}{K:Fl->aE->Hp->Prop}:
  ∀(l:List Int) (x7 x12:Option V),(∀n∈l,di n S.ak)->(∀x7 x12,K .next [y0,y1,y2,y3,y4,y5,some (kM aa E mdp X B),x7,y8,some (.dct (bX S.ak)),y10,y11,x12,y13] H)->
  ba (λρ=>ec ρ (.one 7)) (λρ H=>aM tb C eJ ρ H) (λ_=>True) (l.map .int) [y0,y1,y2,y3,y4,y5,some (kM aa E mdp X B),x7,y8,some (.dct (bX S.ak)),y10,y11,x12,y13] H K
 | [],x7,x12,hl,k=>⟨trivial,k _ _⟩
 |n::l,x7,x12,hl,k=>by
  refine⟨trivial,?_⟩;have hS:=hl n (.head _);have ih:=λx7 x12=>om c31 (aa:=aa) (E:=E) (mdp:=mdp) (B:=B) hr (y0:=y0) (y1:=y1) (y2:=y2) (y3:=y3) (y4:=y4) (y5:=y5) (y8:=y8) (y10:=y10) (y11:=y11) (y13:=y13) (H:=H) (K:=K) l x7 x12 (λm hm=>hl m (.tail _ hm)) k;have d1:=kP ((hr.has n).mpr hS);have d2:=jb hS;rw [hr.get]at d1;fail "x";refine bY.mk ?_;rw [AO (aa:=aa)];refine cG c31 (by simp) trivial _ [] ?_;rw [List.nil_append,xj];fail "r";exact ih _ _
theorem on{C:CT}{ρ:aE}(hk:ρ.length=14){H:Hp}{K:List V->Hp->Prop}:∀(xs:List Nd) (acc:List V),K (acc++xs.filterMap fK) H->
  bN (ec ρ (.one 13)) (λρ1 H2=>bI tb C (.idx (.ac 13) (.int 1)) ρ1 H2) (λρ1 H2=>cm tb C (.cons (.ex (.eqc false (.idx (.ac 13) (.int 0)) (.chr 109))) .nil) ρ1 H2) (λ_=>True) (xs.map aP) acc H K
 | [],acc,h=>⟨trivial,by simpa using h⟩
 |x::xs,acc,h=>by
  refine⟨trivial,?_⟩;match ρ,hk with
  | [a0,a1,a2,a3,a4,a5,a6,a7,a8,a9,a10,a11,a12,a13],hk=>
  have ih:=λacc=>on (C:=C) hk (H:=H) (K:=K) xs acc;rcases x with(x|x|x)|x|c|x;all_goals
   fail "r";first
    |exact ih _ h
    |exact ih _ (by rw [List.append_assoc];exact h)
end
section
local macro_rules | `(tactic| fail "c") => `(tactic| first
 |with_reducible refine ar (by assumption) ?_)
structure T8(C:CT):Prop where c:∀{aa:Int} {rb:Nat} {a:eU} {s:BS} {E:fG} {mdp:Int} {X:SS} {B:List Nd} {H:Hp} {K:V->Hp->Prop},BA aa H rb a s->X.al.length+B.length<=1000->(∀H' a',BA aa H' rb a' (Hw s.vs s.md (X.al++B))->K .none H')->C 21 [.ref rb,kM aa E mdp X B] H K
theorem T9(d:Nat):T8 (aG tb (d+3)):=⟨λ{aa rb a s E mdp X B H K} b hl k=>by
 refine aw rfl rfl ?_;have c65:=Qz d;generalize aG tb (d+2)=C at*;have hb:=b.b;fail "x";refine c65.c hb ?_;fail "x";refine av.mk (by show _<=10000000;simp;omega) ?_;rw [←List.map_append];generalize hI:(CO.inst 12 [some (.int s.vs),some (.int s.md),some (gl 0 0 0 0),some (.ref a.c),some (.ad []),some (.ref H.length),some (.int 0),some (.int 0),some (.int 0),some (.ref (H.length+2)),some (.int 0),some (.int 0),some (.int 0),some (gl 0 0 0 0),some (.int 0),some (.ref (H.length+1)),some (.int 0),some (.int 0),some .none])=I;have e1:(H.set rb I++[CO.ad [],.ad [.int 0,.int 0,.int 0,.int 0],.dct []]).length=H.length+3:=by simp
 fail "x";rw [e1,List.append_assoc];refine ar (ia hb) ?_;rw [←hI];fail "x";rw [ml hb];refine av.mk (by show 3<19;decide) ?_;fail "r";refine k _ ⟨H.length+3,H.length,H.length+2,H.length+1⟩ ?_;have gk:∀{k:Nat} {J x:CO} {L:Hp},L[k]?=some x->(H.set rb J++L)[H.length+k]?=some x:=λ{k J x L} h=>by
  rw [List.getElem?_append_right (by rw [List.length_set];omega),List.length_set,show H.length+k-H.length=k by omega];exact h
 exact⟨ia hb,gk (k:=3) rfl,gk (k:=0) rfl,gk (k:=2) rfl,gk (k:=1) rfl,λx hx=>(by cases hx),by dsimp only;omega,by dsimp only;omega,by dsimp only;omega⟩⟩
end
section
local macro_rules | `(tactic| fail "c") => `(tactic| first
 |with_reducible refine ar (by assumption) ?_
 |with_reducible refine mF ?_)
theorem yF{L:List Int}(hd:L.Nodup)(hm:∀n∈L,n=1\/n=2):L.length<=2:=by
 match L,hd,hm with
 | [],_,_=>simp
 | [a],_,_=>simp
 | [a,b],_,_=>simp
 |a::b::c::r,hd,hm=>
  exfalso;have h1:=hm a (by simp);have h2:=hm b (by simp);have h3:=hm c (by simp);simp at hd;omega
theorem mG:(bg L).length=L.length:=by unfold bg;split<;>rfl
theorem m6{ab:Rows}{i:Nat}{S:iJ}{x:Nd}:(du ab i S x).al.length<=S.al.length+1:=by
 rcases x with x|x|x|⟨n,s,c,ps,t⟩
 ·exact Nat.le_succ _
 ·exact Nat.le_succ _
 ·exact Nat.le_succ _
 ·show(bW _ i S n s c ps t).al.length<=_;unfold bW;dsimp only;split
  ·simp
  ·dsimp only;split<;>simp
theorem kQ{ab:Rows}:∀{xs:List Nd} {i:Nat} {S:iJ},(dX ab i xs S).al.length<=S.al.length+xs.length
 | [],_,_=>Nat.le_refl _
 |x::xs,i,S=>by
  have h1:=kQ (ab:=ab) (xs:=xs) (i:=i+1) (S:=du ab i S x);have h2:=m6 (ab:=ab) (i:=i) (S:=S) (x:=x);show(dX ab (i+1) xs (du ab i S x)).al.length<=_;simp only [List.length_cons];omega
theorem gx{p:Nat}{ab:Rows}{X:iJ}(h:X=dJ L p ab):X.al.length<=p:=by
 have:=kQ (ab:=ab) (xs:=L.take p) (i:=0) (S:=⟨[],ab.map λp=>(p.1,[]),[]⟩);rw [h];unfold dJ;have h2:(L.take p).length<=p:=List.length_take_le ..;simp only [List.length_nil]at this;omega
structure QG(C:CT):Prop where c:∀{F:Cf} {rb:Nat} {a:eU} {s:BS} {W:List Nd} {E:fG} {X:iJ} {H:Hp} {K:V->Hp->Prop},F.Ok->BA F.aa H rb a s->gD F s W E->X=dJ (bj F.top W) E.at_ (F.S ((bj F.top W).take E.at_)).ab->
 (∀H' a',BA F.aa H' rb a' (Hw F.vs F.md (X.al++bg ((bj F.top W).drop E.at_)))->K (.ad ((X.al++bg ((bj F.top W).drop E.at_)).map aP)) H')->C 42 [.ref rb,dN (some E),.ad ((bj F.top W).map aP),me (some E),.ao [.int F.vs,.int F.md,.int F.aa],dM F.cl] H K
theorem Ua(d:Nat):QG (aG tb (d+9)):=⟨λ{F rb a s W E X H K} hF b h hX k=>by
 refine aw rfl rfl ?_;have c19:=T7 d;have c31:=Qp (d+5);have c37:=O4 (d+4);have c41:=Tl (d+6);have c21:=T9 (d+5);generalize aG tb (d+8)=C at*;have hb:=b.b;have hp:=b.p;have hc:=b.c;have hl:=h.line;have hle:=h.at_le;have okL:∀x∈bj F.top W,bV F.N x:=fJ hF.top h.okW;have lenL:(bj F.top W).length<=61:=by have:=ie (top:=F.top) (xs:=W);have:=h.len;omega
 generalize bj F.top W=L at*;have e3:me (some E)= .ao [.int E.at_,.int E.pv,.int E.aq,.int E.ae]:=rfl;rw [e3];fail "r";refine av.mk (.inl ⟨xh,xh⟩) ?_;fail "x";have hsum:s.P.length+s.R.length<=61:=by rw [←List.length_append,hl];exact lenL
 refine av.mk (by show _<=10000000;simp;omega) ?_;rw [←List.map_append,hl];fail "r";refine bY.mk ?_;refine cG c31 (by show 12<14;decide) trivial _ [] ?_;rw [List.nil_append];fail "r";refine av.mk (.inl ⟨bq _,bq _⟩) ?_;fail "x";refine c19.c hF b h λY hY=>?_;have hr:=hY.rl;rw [hl,←hX]at hr;fail "x";have hle2:E.at_<=L.length:=by rw [←hl,List.length_append];omega
 have hcl:aC (L.map aP).length (E.at_:Int)=E.at_:=by show min E.at_ (L.map aP).length=E.at_;rw [List.length_map];omega
 have C2:∀x∈L.take E.at_,bV F.N x:=λx hx=>okL x (List.mem_of_mem_take hx);have rk:RK (F.S (L.take E.at_)).ab:=AL C2;have two:∀n∈(F.S (L.take E.at_)).ab.map (·.1),n=1\/n=2:=λn hn=>by
  obtain⟨p,hp,rfl⟩:=List.mem_map.mp hn;exact rk.m p hp
 rw [hcl,←List.map_take];refine c37.c hF.cl hF.N C2 (by rw [List.length_take];omega) hF.aa.1 ?_;fail "x";refine c41.c (ab:=(F.S (L.take E.at_)).ab) hF.N okL (by omega) hle2 rk.nd rk.m (by have:=yF rk.nd two;rw [List.length_map]at this;omega) (λn s c ps t hx=>zh hx) ?_;rw [←hX];fail "x";refine bY.mk ?_;refine cG c31 (by show 12<14;decide) trivial _ [] ?_;rw [List.nil_append,hr.items];fail "r";refine av.mk (.inl ⟨bq _,bq _⟩) ?_;fail "x";have ko:(mC Y.ak).map (·.1)=Y.ak.map (·.1):=by unfold mC;rw [List.map_map];rfl
 have kv:(bX X.ak).map (·.1)=X.ak.map (·.1):=by unfold bX;rw [List.map_map];rfl
 have kx:X.ak.map (·.1)=(F.S (L.take E.at_)).ab.map (·.1):=by rw [hX];exact rf
 obtain⟨l,hs1,hs2⟩:=xi (A:=Y.ak.map (·.1)) (B:=X.ak.map (·.1)) hY.nd (by rw [kx];exact rk.nd) hY.m (by rw [kx];exact two) λn=>by rw [←dR,←dR];exact hr.has n
 rw [←ko]at hs1;rw [←kv]at hs2;refine aS.mk ⟨_,hs1,?_⟩;fail "x";refine aS.mk ⟨_,hs2,?_⟩;fail "r";refine av.mk (.inl ⟨q9,q9⟩) ?_;fail "x";refine ed.mk ?_;have kv2:(bX X.ak).map (λkv=>V.int kv.1)=(X.ak.map (·.1)).map .int:=by rw [←kv,List.map_map];rfl
 rw [kv2];refine om c31 hr (X.ak.map (·.1)) _ _ (λn hn=>dR.mpr hn) λx7 x12=>?_;fail "x";refine bY.mk ?_;refine cG c31 (by show 12<14;decide) trivial _ [] ?_;rw [List.nil_append,hr.al];fail "r";refine av.mk (.inl ⟨bq _,bq _⟩) ?_;fail "x";refine bY.mk ?_;refine cG c31 (by show 12<14;decide) trivial _ [] ?_;have hbe:s.P.drop E.at_++s.R=L.drop E.at_:=by rw [←hl,List.drop_append_of_le_length hle]
 rw [List.nil_append,hbe];fail "r";refine av.mk (.inl ⟨bq _,bq _⟩) ?_;fail "x";refine bY.mk ?_;refine on rfl _ [] ?_;rw [List.nil_append];fail "r";rw [hr.marks];refine av.mk (.inl ⟨re,re⟩) ?_;fail "x";refine av.mk (by show _<=10000000;simp;omega) ?_;rw [←List.map_append,hl];fail "r";refine bY.mk ?_;refine cG c31 (by show 12<14;decide) trivial _ [] ?_;rw [List.nil_append];fail "r";refine av.mk (.inl ⟨bq _,bq _⟩) ?_;fail "x";have hh:=gx hX;have hbl:(bg (L.drop E.at_)).length<=61:=by rw [mG,List.length_drop];omega
 refine c21.c b (by rw [hr.al];omega) λH' a' b'=>?_;rw [h.vs,h.md,hr.al]at b';fail "x";refine av.mk (by show _<=10000000;simp;omega) ?_;fail "r";have k:=k _ _ b';rw [List.map_append]at k;exact k⟩
end
section
local macro_rules | `(tactic| fail "c") => `(tactic| first
 |with_reducible refine ar (by assumption) ?_
 |with_reducible refine mF ?_)
def yG:Nd->Bool
 |.pt (.b ..)=>true
 |.i .. =>true
 |_=>false
theorem t6{C:CT}{ρ:aE}(hk:ρ.length=12){H:Hp}{K:List V->Hp->Prop}:∀(xs:List Nd) (acc:List V),K (acc++(xs.filter yG).map aP) H->
  bN (ec ρ (.one 10)) (λρ1 H2=>bI tb C (.ac 10) ρ1 H2) (λρ1 H2=>cm tb C (.cons (.or (.cons (.ex (.eqc false (.idx (.ac 10) (.int 0)) (.chr 98))) (.cons (.ex (.eqc false (.idx (.ac 10) (.int 0)) (.chr 105))) .nil))) .nil) ρ1 H2) (λ_=>True) (xs.map aP) acc H K
 | [],acc,h=>⟨trivial,by simpa using h⟩
 |x::xs,acc,h=>by
  refine⟨trivial,?_⟩;match ρ,hk with
  | [a0,a1,a2,a3,a4,a5,a6,a7,a8,a9,a10,a11],hk=>
  have ih:=λacc=>t6 (C:=C) hk (H:=H) (K:=K) xs acc;rcases x with(x|x|x)|x|c|x;all_goals
   fail "r";first
    |exact ih _ h
    |exact ih _ (by rw [List.append_assoc];exact h)
theorem vq{X Y:Prop}(k:X):gf (b0 false (kX v v)) X Y:=by
 have:kX v v=true:=by simp [kX]
 rw [this];exact ku k
theorem t7{a b c:Int}:jg 8 (.ad [.int a,.int b,.ad (is.map .int),.int c]):=λy hy=>by
 rcases hy with _|⟨_,_|⟨_,_|⟨_,_|⟨_,h⟩⟩⟩⟩
 ·trivial
 ·trivial
 ·intro z hz;obtain⟨p,-,rfl⟩:=List.mem_map.mp hz;trivial
 ·trivial
 ·cases h
def vr:aU:=dh 1 gm
theorem mH(c31:HX C)(c37:O3 C){F:Cf}{a:eU}{s:BS}(hF:F.Ok)(b:BA F.aa H rb a s)(p:dk F 0 s W)(hL:L=s.P++s.R)(k:∀ρ,K (.ret (.bool true)) ρ H):
  aM tb C vr [some (.ref rb),some (.ad (L.map aP)),some (.ao [.int F.vs,.int F.md,.int F.aa]),some (dM F.cl),some (.ad (s.R.map aP)),x5,x6,x7,x8,x9,x10,x11] H K:=by
 have hb:=b.b;have hp:=b.p;have hc:=b.c;have ht:=b.t;have hlen:=p.lenPR;fail "x";have hcl:(L.map aP).take (aC (L.map aP).length (((L.map aP).length:Int)-((s.R.map aP).length:Int)))=s.P.map aP:=by
  have:aC (L.map aP).length (((L.map aP).length:Int)-((s.R.map aP).length:Int))=s.P.length:=by
   have e:(((L.map aP).length:Int)-((s.R.map aP).length:Int))=(s.P.length:Int):=by rw [hL];simp
   rw [e];show min s.P.length (L.map aP).length=_;rw [hL];simp
  rw [this,←List.map_take,hL,List.take_left]
 rw [hcl];refine bY.mk ?_;refine cG c31 (by show 11<12;decide) hp _ [] ?_;rw [List.nil_append];fail "r";refine av.mk (.inl ⟨bq _,bq _⟩) ?_;fail "x";refine bY.mk ?_;refine cG c31 (by show 11<12;decide) hc _ [] ?_;rw [List.nil_append];fail "r";refine av.mk (.inl ⟨bq _,bq _⟩) ?_;fail "x";refine bY.mk ?_;refine t6 rfl _ [] ?_;rw [List.nil_append];fail "r";refine av.mk (.inl ⟨bq _,bq []⟩) ?_;fail "v";refine wv (λhv=>?_) (λhv=>?_)
 ·fail "r";exact k _
 have hne:∃x∈s.P,yG x=true:=by
  rw [mm]at hv
  cases hf:s.P.filter yG with
  |nil=>rw [hf]at hv;cases hv
  |cons x r=>
   have hx:x∈s.P.filter yG:=by rw [hf];exact .head _
   exact⟨x,(List.mem_filter.mp hx).1,(List.mem_filter.mp hx).2⟩
 have h0:s.ah≠0:=λh0=>by
  obtain⟨x,hx,hx2⟩:=hne;have:=(p.zero h0).1 x hx;rcases x with(x|x|x)|x|x|x<;>first|(cases this;done)|(cases hx2;done)
 have co:=p.core;rw [bM h0]at co;fail "x";refine c37.c hF.cl hF.N (p.okP hF) (by omega) hF.aa.1 ?_;have g1:s.ae=(bi F.cl F.vs F.aa s.P).ae:=co.ae;have g2:s.pen=(bi F.cl F.vs F.aa s.P).extra:=co.pen;have g3:V.ad [.int s.total,.int s.dp,.ad (s.st.map .int),.int s.sh]=V.ad [.int (size s.P-(ay F.md s.P).dp),.int (ay F.md s.P).dp,.ad ((cq (ay F.md s.P).st (bi F.cl F.vs F.aa s.P).aj).map .int),.int ((ay F.md s.P).sh+(bi F.cl F.vs F.aa s.P).give)]:=by rw [co.tot,co.dp,co.st,co.sh];rfl
 fail "x";refine av.mk (.inl ⟨t7,t7⟩) ?_;rw [g3];fail "v";refine vq ?_;fail "r";rw [g2];fail "v";have e:iz .eq (bi F.cl F.vs F.aa s.P).extra (bi F.cl F.vs F.aa s.P).extra=true:=decide_eq_true rfl;rw [e];exact k _
theorem rg{P:List Nd}{y:Nd}(h:P.getLast?=some y){K:V->Prop}(k:K (aP y)):aS (dm (P.map aP) (-1)) K:=by
 refine⟨⟨aP y,?_,k⟩⟩;show(if 0<(P.map aP).length then(P.map aP)[(P.map aP).length-1-0]? else none)=_;rw [List.getLast?_eq_getElem?]at h;have hl:=(List.getElem?_eq_some_iff.mp h).1;rw [List.length_map,if_pos (by omega),List.getElem?_map,Nat.sub_zero,h];rfl
structure QH(C:CT):Prop where c:∀{F:Cf} {rb:Nat} {a:eU} {s:BS} {W:List Nd} {H:Hp} {K:V->Hp->Prop},F.Ok->BA F.aa H rb a s->iM F s W->K (.bool true) H->C 43 [.ref rb,.ad ((bj F.top W).map aP),.ao [.int F.vs,.int F.md,.int F.aa],dM F.cl] H K
theorem Ub(d:Nat):QH (aG tb (d+5)):=⟨λ{F rb a s W H K} hF b h k=>by
 refine aw rfl rfl ?_;have c31:=Qp (d+1);have c37:=O4 d;generalize aG tb (d+4)=C at*;have hL:bj F.top W=s.P++s.R:=by
  rcases h.p.line with⟨_,e,_⟩|⟨h2,pre,e1,e2,e3⟩
  ·exact e.symm
  ·have h1:s.R=[]:=by rcases h.e with h1|⟨h3,_⟩;exact h1;exact absurd h3 h2
   rw [h1,List.append_nil]at e1;rw [h1,List.append_nil,e1,e3,bj,dO e2,List.nil_append]
 generalize bj F.top W=L at*;have hR:(V.ad (s.R.map aP)= .ad []/\(L=[]\/∃y,L.getLast?=some y/\∀w,y≠.k w))\/(∃w,V.ad (s.R.map aP)= .ad ((L.map aP).drop (aC (L.map aP).length (-1)))/\L.getLast?=some (.k w)):=by
  rcases h.e with h1|⟨_,w,h1⟩
  ·refine .inl ⟨by rw [h1];rfl,?_⟩;rw [h1,List.append_nil]at hL;rw [hL]
   cases hy:s.P.getLast? with
   |none=>exact .inl (List.getLast?_eq_none_iff.mp hy)
   |some y=>exact .inr ⟨y,rfl,λw e=>h.p.lk w (by rw [hy,e]) h1⟩
  ·refine .inr ⟨w,?_,by rw [hL,h1];simp⟩;have e:aC (L.map aP).length (-1)=s.P.length:=by
    show(L.map aP).length-(0+1)=_;rw [hL,h1];simp
   rw [e,←List.map_drop,hL,h1,List.drop_left]
 have tl:=λ{x5 x6 x7 x8 x9 x10 x11:Option V} {K:Fl->aE->Hp->Prop} k=>mH c31 c37 hF b h.p hL (x5:=x5) (x6:=x6) (x7:=x7) (x8:=x8) (x9:=x9) (x10:=x10) (x11:=x11) (K:=K) k;rcases hR with⟨hR,hR2|⟨y,hR2,hy⟩⟩|⟨w,hR,hR2⟩
 ·rw [hR]at tl;fail "r";refine av.mk eO ?_;fail "v";refine jD hR2 ?_;fail "r";refine tl λρ=>?_;fail "r";exact k
 ·rw [hR]at tl;have hne:L≠[]:=by rintro rfl;cases hR2
  fail "r";refine av.mk eO ?_;fail "v";refine ib hne ?_;fail "x";refine rg hR2 ?_;rcases y with(x|x|x)|x|x|x
  case k=>exact absurd rfl (hy x)
  all_goals
   fail "r";refine tl λρ=>?_;fail "r";exact k
 ·rw [hR]at tl;have hne:L≠[]:=by rintro rfl;cases hR2
  fail "r";refine av.mk eO ?_;fail "v";refine ib hne ?_;fail "x";refine rg hR2 ?_;fail "r";refine tl λρ=>?_;fail "r";exact k⟩
end
theorem rh{C:CT}{y0:Option V}{x1:Option V}{H:Hp}{K:List V->Hp->Prop}:∀(is:List Int) (acc:List V),K (acc++(is.map λi=>((i.natAbs:Nat):Int)).map .int) H->
  bN (ec [y0,x1] (.one 1)) (λρ1 H2=>bI tb C (.abs (.toI (.ac 1))) ρ1 H2) (λρ1 H2=>cm tb C .nil ρ1 H2) (λ_=>True) (is.map .int) acc H K
 | [],acc,h=>⟨trivial,by simpa using h⟩
 |i::is,acc,h=>by
  refine⟨trivial,?_⟩;have ih:=λacc=>rh (C:=C) (y0:=y0) (x1:=x1) (H:=H) (K:=K) is acc;fail "r";exact ih _ (by rw [List.append_assoc];exact h)
theorem rn{C:CT}{y0:Option V}{x1:Option V}{H:Hp}{K:List V->Hp->Prop}:∀(is:List Int) (acc:List V),K (acc++(is.map λi=>((i.natAbs:Nat):Int).fmod 65521).map .int) H->
  bN (ec [y0,x1] (.one 1)) (λρ1 H2=>bI tb C (.bin .mod (.abs (.toI (.ac 1))) (.int 65521)) ρ1 H2) (λρ1 H2=>cm tb C .nil ρ1 H2) (λ_=>True) (is.map .int) acc H K
 | [],acc,h=>⟨trivial,by simpa using h⟩
 |i::is,acc,h=>by
  refine⟨trivial,?_⟩;have ih:=λacc=>rn (C:=C) (y0:=y0) (x1:=x1) (H:=H) (K:=K) is acc;fail "r";exact ih _ (by rw [List.append_assoc];exact h)
theorem oo:∀(is:List Int),oD (is.map .int)=some (is.foldr (· + ·) 0)
 | []=>rfl
 |i::is=>by
  have ih:=oo is;show(oD (is.map V.int)).map (i+ ·)=_;rw [ih];rfl
theorem t8:∀(is:List Int),0<=(is.map λi=>((i.natAbs:Nat):Int).fmod 65521).foldr (· + ·) 0/\(is.map λi=>((i.natAbs:Nat):Int).fmod 65521).foldr (· + ·) 0<=65521*(is.length:Int)
 | []=>⟨Int.le_refl _,Int.le_refl _⟩
 |i::is=>by
  have ih:=t8 is;have h1:0<=((i.natAbs:Nat):Int).fmod 65521:=Int.fmod_nonneg_of_pos _ (by decide);have h2:((i.natAbs:Nat):Int).fmod 65521<65521:=Int.fmod_lt_of_pos _ (by decide);simp only [List.map_cons,List.foldr_cons,List.length_cons];omega
structure Uc(C:CT):Prop where c:∀{is:List Int} {H:Hp} {K:V->Hp->Prop},is.length<=63->(∀H' rj rc,iw H' rj rc 0->K (.ref rj) H')->C 22 [.ad (is.map .int)] H K
theorem Ud(d:Nat):Uc (aG tb (d+1)):=⟨λ{is H K} hl k=>by
 refine aw rfl rfl ?_;generalize aG tb d=C at*;fail "x";refine bY.mk ?_;rw [←List.map_take];have hn:(is.take (aC (is.map V.int).length 60)).length<=63:=by rw [List.length_take];omega
 generalize is.take (aC (is.map V.int).length 60)=js at*;refine rh js [] ?_;rw [List.nil_append];fail "r";refine bY.mk ?_;rw [←List.map_take];have hn2:(is.take (aC (is.map V.int).length 60)).length<=63:=by rw [List.length_take];omega
 generalize is.take (aC (is.map V.int).length 60)=ks at*;refine rn ks [] ?_;rw [List.nil_append];fail "x";rw [oo];have hs:=t8 ks;fail "v";refine aS.mk ⟨_,rfl,?_⟩;fail "v";rw [show(H++[CO.ad ((js.map λi=>((i.natAbs:Nat):Int)).map V.int)]).length=H.length+1 by simp];refine k _ (H.length+1) H.length ⟨by omega,js.map λi=>((i.natAbs:Nat):Int),0,_,?_,?_,Nat.le_refl _,?_,hs.1,by omega⟩
 ·rw [List.append_assoc];exact eN (k:=1) rfl
 ·rw [List.append_assoc,List.getElem?_append_right (Nat.le_refl _),Nat.sub_self];rfl
 ·intro c hc;obtain⟨p,-,rfl⟩:=List.mem_map.mp hc;exact Int.natCast_nonneg _⟩
theorem bV.mono{N M:Nat}(h:N<=M){x:Nd}(k:bV N x):bV M x:=by
 rcases x with x|x|x|⟨n,s,c,ps,t⟩
 ·exact k
 ·exact k
 ·exact k
 ·obtain⟨a,b,c,d,e,f,g⟩:=k;exact⟨a,b,c,d,e,Nat.le_trans f h,g⟩
theorem dk.start{F:Cf}(hW:∀x∈W,bV F.N x)(hl:W.length<=60):dk F 0 (Hw F.vs F.md W) W:=by
 have m:=yu (F:=F) (P:=[]) λx hx=>by cases hx
 refine⟨rfl,rfl,.inl rfl,.inr ⟨by show(0:Int)≠2;decide,[],rfl,λx hx=>(by cases hx),rfl⟩,λ_=>⟨λx hx=>(by cases hx),rfl,rfl,rfl,rfl,rfl,rfl,rfl⟩,?_,?_,hW,hl,λ_=>rfl,λh=>absurd h (by show(0:Int)≠2;decide),?_,λw h=>(by cases h)⟩
 ·rw [fu rfl];exact⟨rfl,rfl,rfl,rfl,rfl,rfl,rfl,rfl⟩
 ·exact⟨List.nodup_nil,List.nodup_nil,λx hx=>(by cases hx)⟩
 ·exactλx hx=>(by cases hx)
theorem HK{s:BS}{r:List Nd}:cK {s with R:=r}={cK s with R:=r}:=by
 by_cases h:s.ah=0
 ·rw [fu h,fu (show({s with R:=r}:BS).ah=0 from h)];rfl
 ·rw [bM h,bM (show({s with R:=r}:BS).ah≠0 from h)]
theorem vt{top:mL}{xs:List Nd}(h:∃x∈W,yr x=true):bj top (W++xs)=bj top W++xs:=by
 rcases pD W with hb|⟨pre,l,hh,d,af,h1,rfl⟩
 ·obtain⟨x,hx,hb'⟩:=h;rw [hb x hx]at hb';cases hb'
 ·rw [List.append_assoc,List.cons_append,bj,eC h1,bj,eC h1];simp
theorem dk.contr{F:Cf}{s:BS}{xs:List Nd}(h:dk F 0 s W)(hx:∀x∈xs,bV F.N x)(hl:(W++xs).length<=60):dk F 0 {s with R:=s.R++xs} (W++xs):=by
 refine⟨h.vs,h.md,h.st3,?_,h.zero,?_,h.ok,?_,hl,h.best0,?_,h.bst,?_⟩
 ·rcases h.line with⟨h2,e,x,hx,hb⟩|⟨h2,pre,e1,e2,e3⟩
  ·refine .inl ⟨h2,?_,x,List.mem_append_left _ hx,hb⟩;rw [vt ⟨x,hx,hb⟩,←e,List.append_assoc]
  ·exact .inr ⟨h2,pre,by rw [e1,List.append_assoc],e2,e3⟩
 ·have k:=h.core;rw [HK];exact⟨k.tot,k.dp,k.st,k.sh,k.pen,k.ae,k.ab,k.mdp⟩
 ·intro x h';rcases List.mem_append.mp h' with h'|h'
  ·exact h.okW x h'
  ·exact hx x h'
 ·intro h2 ext;have:=h.fwd h2 (xs++ext);rw [←List.append_assoc,←List.append_assoc]at this;rw [←List.append_assoc];exact this
 ·intro w e;have:=h.lk w e;intro h';exact this (List.append_eq_nil_iff.mp h').1
theorem vv{N:Nat}(h:∀x∈L,bV N x):∀x∈bg L,bV N x:=by
 unfold bg;split
 ·intro x hx;rcases List.mem_cons.mp hx with rfl|hx
  ·show(-10000:Int)<=10000/\(10000:Int)<=10000;decide
  ·exact h x (.tail _ hx)
 ·exact h
theorem ro{N:Nat}{ab:Rows}{i:Nat}{S:iJ}{x:Nd}(hx:bV N x)(h:∀y∈S.al,bV (N+1) y):∀y∈(du ab i S x).al,bV (N+1) y:=by
 rcases x with x|x|x|⟨n,s,c,ps,t⟩
 ·exact h
 ·exact h
 ·exact h
 ·intro y hy;have hy:y∈(bW _ i S n s c ps t).al:=hy;unfold bW at hy;dsimp only at hy;split at hy
  ·rcases List.mem_append.mp hy with hy|hy
   ·exact h y hy
   ·rw [List.mem_singleton.mp hy];exact bV.mono (Nat.le_succ _) hx
  ·dsimp only at hy;split at hy
   ·exact h y hy
   ·rcases List.mem_append.mp hy with hy|hy
    ·exact h y hy
    ·rw [List.mem_singleton.mp hy];obtain⟨a,b,c,d,e,f,g,g2⟩:=hx;refine⟨a,rfl,c,d,fg g g2 λp hp=>e p (List.mem_of_mem_drop hp),?_,g,g2⟩;rename_i hps _;have h1:=ew (br:=t) (ps:=ps.drop (fH ((aB n ab).getD ⟨0,-1,-1,0⟩) i ps));have h2:(ps.drop (fH ((aB n ab).getD ⟨0,-1,-1,0⟩) i ps)).length<=ps.length:=by rw [List.length_drop];omega
     omega
theorem oq{N:Nat}{ab:Rows}:∀{xs:List Nd} {i:Nat} {S:iJ},(∀x∈xs,bV N x)->(∀y∈S.al,bV (N+1) y)->∀y∈(dX ab i xs S).al,bV (N+1) y
 | [],_,_,_,h=>h
 |x::xs,i,S,hx,h=>oq (xs:=xs) (i:=i+1) (λy hy=>hx y (.tail _ hy)) (ro (hx x (.head _)) h)
theorem yH{N:Nat}{p:Nat}{ab:Rows}(h:∀x∈L,bV N x)(hp:p<=L.length):(∀x∈(dJ L p ab).al++bg (L.drop p),bV (N+1) x)/\((dJ L p ab).al++bg (L.drop p)).length<=L.length:=by
 constructor
 ·intro x hx;rcases List.mem_append.mp hx with hx|hx
  ·exact oq (λy hy=>h y (List.mem_of_mem_take hy)) (λy hy=>(by cases hy)) x hx
  ·exact bV.mono (Nat.le_succ _) (vv (λy hy=>h y (List.mem_of_mem_drop hy)) x hx)
 ·have:=gx (L:=L) (p:=p) (ab:=ab) rfl;rw [List.length_append,mG,List.length_drop];omega
def gW:aA->aA
 |.g w s z k _=>.g w s z k 0
 |x=>x
def zero:Nd->Nd
 |.pt x=>.pt (gW x)
 |.i n s c ps t=>.i n s c (ps.map gW) t
 |x=>x
theorem ou{x:aA}:aQ (gW x)=aQ x:=by rcases x with x|x|x<;>rfl
theorem rq{x:aA}(h:okP x):okP (gW x):=by rcases x with x|x|x<;>exact h
theorem xk{x:aA}:uH (gW x)=uH x:=by rcases x with x|x|x<;>rfl
theorem rt{x:aA}:wU (gW x):=by
 rcases x with x|x|x
 ·trivial
 ·rfl
 ·trivial
theorem ow:∀{ps:List aA},be (ps.map gW)=be ps
 | []=>rfl
 |p::ps=>by
  show uH (gW p)+be (ps.map gW)=uH p+be ps;rw [xk,ow]
theorem xl{x:Nd}:aP (zero x)=aP x:=by
 rcases x with x|x|x|⟨n,s,c,ps,t⟩
 ·exact ou
 ·rfl
 ·rfl
 ·show V.ao [.chr 105,.int n,.int s,.int c,.ao ((ps.map gW).map aQ),.int t]=_;rw [List.map_map,show aQ∘gW=aQ from funext λx=>ou];rfl
theorem xm{N:Nat}{x:Nd}(h:bV N x):bV N (zero x):=by
 rcases x with x|x|x|⟨n,s,c,ps,t⟩
 ·exact rq h
 ·exact h
 ·exact h
 ·obtain⟨a,b,c,d,e,f,g,g2⟩:=h;exact⟨a,by rw [ow];exact b,c,d,λp hp=>by obtain⟨q,hq,rfl⟩:=List.mem_map.mp hp;exact rq (e q hq),by rw [List.length_map];exact f,g,g2⟩
theorem yI{x:Nd}:Hq (zero x):=by
 rcases x with x|x|x|⟨n,s,c,ps,t⟩
 ·exact rt
 ·trivial
 ·trivial
 ·exactλp hp=>by obtain⟨q,_,rfl⟩:=List.mem_map.mp hp;exact rt
structure yJ(C:CT):Prop where
 c30:Ap C
 c38:Qf C
 c39:Qg C
 c42:QG C
 c43:QH C
 c69:QE C
structure LI(F:Cf)(n m:Nat)(H:Hp)(rb:Nat)(a:eU)(s:BS)(W:List Nd):Prop where
 b:BA F.aa H rb a s
 p:dk F 0 s W
 ok:∀x∈W,bV n x
 len:W.length<=m
theorem m4.okP{g:mL}(h:m4 g):okP (.g g.w g.s g.z g.k 0):=by
 have:=h.ok;exact this
theorem oy{C:CT}(c:yJ C){F:Cf}(hF:F.Ok)(hN:F.N=50){rb:Nat}{y0 y1 y2 y3 y6 y9 y13 y15 y18:Option V}{K:Fl->aE->Hp->Prop}:
  ∀(l:List Int) (n m:Nat) (H:Hp) (a:eU) (s:BS) (W:List Nd) (x12 x14 x16 x17:Option V),n+l.length<=50->m+l.length<=60->LI F n m H rb a s W->
  (∀H' a' s' W' x12 x14 x16 x17,LI F (n+l.length) (m+l.length) H' rb a' s' W'->K .next [y0,y1,y2,y3,some (.ao [.int F.vs,.int F.md,.int F.aa]),some (eM F.cl),y6,some (mc F.top),some (dM F.cl),y9,some (.ref rb),some (.ad (W'.map aP)),x12,y13,x14,y15,x16,x17,y18] H')->
  ba (λρ=>ec ρ (.one 12)) (λρ H=>aM tb C ql ρ H) (λ_=>True) (l.map .int) [y0,y1,y2,y3,some (.ao [.int F.vs,.int F.md,.int F.aa]),some (eM F.cl),y6,some (mc F.top),some (dM F.cl),y9,some (.ref rb),some (.ad (W.map aP)),x12,y13,x14,y15,x16,x17,y18] H K
 | [],n,m,H,a,s,W,x12,x14,x16,x17,hn,hm,I,k=>⟨trivial,k _ _ _ _ _ _ _ _ I⟩
 |i::l,n,m,H,a,s,W,x12,x14,x16,x17,hn,hm,I,k=>by
  have ih:=oy c hF hN (rb:=rb) (y0:=y0) (y1:=y1) (y2:=y2) (y3:=y3) (y6:=y6) (y9:=y9) (y13:=y13) (y15:=y15) (y18:=y18) (K:=K) l;refine⟨trivial,?_⟩;obtain⟨b,p,ok,len⟩:=I;simp only [List.length_cons]at hn hm k;have hlL:(bj F.top W).length<=W.length+1:=ie;have eL:(pk F.top W).map aP=(bj F.top W).map aP:=n6.symm;fail "x";refine c.c38.c (by omega) ?_;rw [eL];fail "x";refine c.c39.c hF.cl (N:=50) (Nat.le_refl _) (fJ hF.top λx hx=>bV.mono (by omega) (ok x hx)) (by omega) hF.aa.1 hF.md.1 ?_;fail "x";refine ar b.b ?_;fail "x";refine c.c30.c (x:=.g F.top.w F.top.s F.top.z F.top.k 0) (aa:=0) hF.top.okP rfl ?_;fail "x";refine c.c69.c hF b p (λH' s' a' e b' pe=>?_) (λH' s' a' b' pn=>?_)
  ·have he:me (nK F.cl F.vs F.md F.aa (bj F.top W))= .ao [.int e.at_,.int e.pv,.int e.aq,.int e.ae]:=by
    have:=pe.end_;unfold Cf.end_ at this;rw [this];rfl
   rw [he];fail "x";refine c.c42.c (E:=e) hF b' pe rfl (λH2 a2 b2=>?_);have hat:e.at_<=(bj F.top W).length:=by rw [←pe.line,List.length_append];have:=pe.at_le;omega
   have lo:=yH (N:=n) (ab:=(F.S ((bj F.top W).take e.at_)).ab) (fJ hF.top ok) hat;generalize(dJ (bj F.top W) e.at_ (F.S ((bj F.top W).take e.at_)).ab).al++bg ((bj F.top W).drop e.at_)=W2 at*;fail "r";refine ih (n+1) (m+1) H2 a2 _ W2 _ _ _ _ (by omega) (by omega) ⟨b2,dk.start (λx hx=>bV.mono (by omega) (lo.1 x hx)) (by omega),lo.1,by omega⟩ λH3 a3 s3 W3 x12 x14 x16 x17 I3=>?_;refine k H3 a3 s3 W3 x12 x14 x16 x17 ?_;rw [show n+(l.length+1)=n+1+l.length by omega,show m+(l.length+1)=m+1+l.length by omega];exact I3
  ·have he:me (nK F.cl F.vs F.md F.aa (bj F.top W))= .none:=by
    have:=pn.end_;unfold Cf.end_ at this;rw [this];rfl
   rw [he];fail "x";refine c.c43.c hF b' pn ?_;fail "r";exact k _ a' s' W _ _ _ _ ⟨b',pn.p,λx hx=>bV.mono (by omega) (ok x hx),by omega⟩
theorem mI{C:CT}(c30:HW C){y0 y1 y2 y3 y5 y6 y7 y8 y9 y10 y11 y12 y13 y14 y15 y16 y17 y18:Option V}{vs md aa:Int}(hd0:0<=aa)(hd1:aa<=100000){N:Nat}(hN:N<=100){H:Hp}{K:List V->Hp->Prop}:∀(xs:List Nd) (acc:List V),(∀x∈xs,bV N x)->(∀x∈xs,Hq x)->K (acc++xs.map (nd aa)) H->
  bN (ec [y0,y1,y2,y3,some (.ao [.int vs,.int md,.int aa]),y5,y6,y7,y8,y9,y10,y11,y12,y13,y14,y15,y16,y17,y18] (.one 18)) (λρ1 H2=>bI tb C (.fn 30 (.cons (.ac 18) (.cons (.idx (.ac 4) (.int 2)) .nil))) ρ1 H2) (λρ1 H2=>cm tb C .nil ρ1 H2) (λ_=>True) (xs.map aP) acc H K
 | [],acc,h1,h2,h=>⟨trivial,by simpa using h⟩
 |x::xs,acc,h1,h2,h=>by
  refine⟨trivial,?_⟩;have ih:=λacc=>mI (C:=C) c30 (y0:=y0) (y1:=y1) (y2:=y2) (y3:=y3) (y5:=y5) (y6:=y6) (y7:=y7) (y8:=y8) (y9:=y9) (y10:=y10) (y11:=y11) (y12:=y12) (y13:=y13) (y14:=y14) (y15:=y15) (y16:=y16) (y17:=y17) (y18:=y18) (vs:=vs) (md:=md) hd0 hd1 hN (H:=H) (K:=K) xs acc (λy hy=>h1 y (.tail _ hy)) (λy hy=>h2 y (.tail _ hy));fail "x";refine c30.c hN (h1 x (.head _)) (h2 x (.head _)) hd0 hd1 ?_;exact ih _ (by rw [List.append_assoc];exact h)
theorem oz(c:yJ C)(c30:HW C)(c68:Pr C){F:Cf}(hF:F.Ok)(hN:F.N=50){y0 y1 y2 y3 y9:Option V}{n m:Nat}{a:eU}{s:BS}{xs:List Nd}(hn:n+10<=50)(hm:m+xs.length+10<=60)(I:LI F n m H rb a s W)(hx:∀x∈xs,bV n x)(hso:∀x∈xs,Hq x)
  (k:∀H' a' s' W' x12 x14 x16 x17,LI F (n+10) (m+xs.length+10) H' rb a' s' W'->K .next [y0,y1,y2,y3,some (.ao [.int F.vs,.int F.md,.int F.aa]),some (eM F.cl),some (.ad (xs.map aP)),some (mc F.top),some (dM F.cl),y9,some (.ref rb),some (.ad (W'.map aP)),x12,y13,x14,y15,x16,x17,y18] H'):
  aM tb C qm [y0,y1,y2,y3,some (.ao [.int F.vs,.int F.md,.int F.aa]),some (eM F.cl),some (.ad (xs.map aP)),some (mc F.top),some (dM F.cl),y9,some (.ref rb),some (.ad (W.map aP)),x12,y13,x14,y15,x16,x17,y18] H K:=by
 obtain⟨b,p,ok,len⟩:=I;fail "x";refine ar b.b ?_;fail "x";refine bY.mk ?_;refine mI c30 hF.aa.1 hF.aa.2 (N:=n) (by omega) xs [] hx hso ?_;rw [List.nil_append];fail "x";have hl:=p.lenPR;refine c68.c b (by omega) (by omega) λH' b'=>?_;fail "x";refine av.mk (by show _<=10000000;simp;omega) ?_;rw [←List.map_append];fail "x";refine ed.mk ?_;have okW:∀x∈W++xs,bV n x:=λx h=>by
  rcases List.mem_append.mp h with h|h
  ·exact ok x h
  ·exact hx x h
 have hlW:(W++xs).length<=m+xs.length:=by rw [List.length_append];omega
 refine oy c hF hN [0,1,2,3,4,5,6,7,8,9] n (m+xs.length) H' a _ (W++xs) _ _ _ _ hn hm ⟨b',p.contr (λx h=>bV.mono (by omega) (hx x h)) (by omega),okW,hlW⟩ λH2 a2 s2 W2 x12 x14 x16 x17 I2=>?_;fail "r";exact k _ _ _ _ _ _ _ _ I2
theorem mJ{C:CT}(c28:Qo C){rj rc:Nat}{y0 y2 y3 y4 y5 y6 y7 y8 y9 y10 y11 y12 x13 y14 y15 y16 y17 y18:Option V}{K:List V->Hp->Prop}:∀(l:List Nat) (xs:List Nd) (n:Nat) (H:Hp),(∀i∈l,i<=100)->iw H rj rc n->n+200*l.length<600000->(∀x∈xs,bV 9 x)->
  (∀(ys:List Nd) (H':Hp),ys.length=xs.length+l.length->(∀x∈ys,bV 9 x)->iw H' rj rc (n+200*l.length)->K (ys.map aP) H')->
  bN (ec [y0,some (.ref rj),y2,y3,y4,y5,y6,y7,y8,y9,y10,y11,y12,x13,y14,y15,y16,y17,y18] (.one 13)) (λρ1 H2=>bI tb C (.fn 28 (.cons (.ac 1) (.cons (.ac 13) .nil))) ρ1 H2) (λρ1 H2=>cm tb C .nil ρ1 H2) (λ_=>True) (m0 l) (xs.map aP) H K
 | [],xs,n,H,hl,j,hn,hx,k=>⟨trivial,k xs H rfl hx j⟩
 |i::l,xs,n,H,hl,j,hn,hx,k=>by
  refine⟨trivial,?_⟩;have ih:=mJ (C:=C) c28 (rj:=rj) (rc:=rc) (y0:=y0) (y2:=y2) (y3:=y3) (y4:=y4) (y5:=y5) (y6:=y6) (y7:=y7) (y8:=y8) (y9:=y9) (y10:=y10) (y11:=y11) (y12:=y12) (x13:=x13) (y14:=y14) (y15:=y15) (y16:=y16) (y17:=y17) (y18:=y18) (K:=K) l;have hi:=hl i (.head _);simp only [List.length_cons]at hn k;fail "x";refine c28.c j (by omega) (by omega) (by omega) λx H1 hx1 j1 _=>?_;fail "r";have e:xs.map aP++[aP x]=(xs++[x]).map aP:=by simp
  rw [e];refine ih (xs++[x]) (n+200) H1 (λi hi=>hl i (.tail _ hi)) j1 (by omega) (λy hy=>by
   rcases List.mem_append.mp hy with hy|hy
   ·exact hx y hy
   ·rw [List.mem_singleton.mp hy];exact hx1) λys H2 hy1 hy2 j2=>?_
  refine k ys H2 (by rw [hy1];simp;omega) hy2 ?_;rw [show n+200*(l.length+1)=n+200+200*l.length by omega];exact j2
def AP:aU:=dh 6 qn
theorem xn(cL:yJ C)(c30:HW C)(c68:Pr C)(cb:Hx C){F:Cf}(hF:F.Ok)(hN:F.N=50){xs:List Nd}(hx:∀x∈xs,bV 9 x)(hl:xs.length<=11){q:Int}{y0 y1 y2 y6 y10 y11 y12 y14 y16 y17:Option V}(k:∀ρ H',K (.ret (.bool true)) ρ H'):
  aM tb C AP [y0,y1,y2,some (.ad (xs.map aP)),some (.ao [.int F.vs,.int F.md,.int F.aa]),some (eM F.cl),y6,some (mc F.top),some (dM F.cl),some (.int q),y10,y11,y12,y13,y14,y15,y16,y17,y18] H K:=by
 have hv:=hF.vs;have hm:=hF.md;fail "x";refine cb.c (aa:=F.aa) (by omega) (by omega) (by omega) (by omega) λH10 a b=>?_;fail "x";refine ed.mk ?_;generalize aC (xs.map aP).length q=q;have hz:∀(ys:List Nd),ys.map aP=(ys.map zero).map aP:=λys=>by rw [List.map_map,show aP∘zero=aP from funext λx=>xl]
 have hzo:∀(ys:List Nd),(∀y∈ys,bV 9 y)->∀y∈ys.map zero,bV 9 y:=λys h y hy=>by obtain⟨x,hx,rfl⟩:=List.mem_map.mp hy;exact xm (h x hx)
 have hzs:∀(ys:List Nd),∀y∈ys.map zero,Hq y:=λys y hy=>by obtain⟨x,hx,rfl⟩:=List.mem_map.mp hy;exact yI
 have e1:(xs.map aP).take q=((xs.take q).map zero).map aP:=by rw [←List.map_take];exact hz _
 have e2:(xs.map aP).drop q=((xs.drop q).map zero).map aP:=by rw [←List.map_drop];exact hz _
 have l1:((xs.take q).map zero).length+((xs.drop q).map zero).length<=11:=by rw [List.length_map,List.length_map,List.length_take,List.length_drop];omega
 have o1:=hzo _ λy hy=>hx y (List.mem_of_mem_take (i:=q) hy);have o2:=hzo _ λy hy=>hx y (List.mem_of_mem_drop (i:=q) hy);have z1:=hzs (xs.take q);have z2:=hzs (xs.drop q);rw [e1,e2];generalize(xs.take q).map zero=p1 at*;generalize(xs.drop q).map zero=p2 at*;refine⟨trivial,?_⟩;refine oz cL c30 c68 hF hN (n:=9) (m:=0) (H:=H10) (s:=Hw F.vs F.md []) (W:=[]) (xs:=p1) (by decide) (by omega) ⟨b,dk.start (λx hx=>(by cases hx)) (by decide),λx hx=>(by cases hx),Nat.le_refl _⟩ o1 z1 λH11 a1 s1 W1 x12 x14 x16 x17 I1=>?_;refine⟨trivial,?_⟩;refine oz cL c30 c68 hF hN (n:=19) (m:=0+p1.length+10) (H:=H11) (xs:=p2) (by decide) (by omega) I1 (λy hy=>bV.mono (by decide) (o2 y hy)) z2 λH12 a2 s2 W2 x12 x14 x16 x17 I2=>?_;refine⟨trivial,?_⟩;fail "r";exact k _ _
set_option maxHeartbeats 4000000 in
theorem s44(hlen:is.length<=63):aG tb 20 44 [.ad (is.map .int)] [] (λv _=>v= .bool true):=by
 refine aw rfl rfl ?_;have c22:=Ud 18;have c23:=AY 18;have c28:=Tq 15;have c24:=HU 17;have c29:=Tn 16;have c30:=Tr 13;have c30P:=yk 14;have cc:=Pn 15;have ct:=Pp 17;have cb:=Pq 13;have c68:=TS 18;have cL:yJ (aG tb 19):=⟨yk 14,Th 18,Ti 14,Ua 10,Ub 14,T3 11⟩
 generalize aG tb 19=C at*;show aM tb C qn _ _ _;rw [show qn=jd 6 qn AP from rfl];generalize hX:AP=X;fail "x";refine c22.c hlen λH rj rc j=>?_;fail "x";refine c23.c j (by decide) (by decide) (by decide) λr H1 hr0 hr1 j1 _=>?_;fail "x";refine bY.mk ?_;rw [qT (by omega)];have hlr:(List.range (2+r).toNat).length=(2+r).toNat:=List.length_range ..;refine mJ c28 (List.range (2+r).toNat) [] 1 H1 (λi hi=>by have:=List.mem_range.mp hi;omega) j1 (by omega) (λx hx=>(by cases hx)) λxs H2 hxl hx j2=>?_;have j2:iw H2 rj rc 3000:=j2.mono (by omega);have hxl2:xs.length=(2+r).toNat:=by rw [hxl,hlr];exact Nat.zero_add _
 fail "x";refine c23.c j2 (by decide) (by decide) (by decide) λr1 H3 ha0 ha1 j3 _=>?_;fail "x";refine c23.c j3 (by decide) (by decide) (by decide) λr2 H4 hb0 hb1 j4 _=>?_;fail "x";refine c23.c j4 (by decide) (by decide) (by decide) λr3 H5 hc0 hc1 j5 _=>?_;fail "x";refine c24.c j5 (by decide) λtop H6 hg j6 _=>?_;fail "x";refine c29.c j6 (by decide) λcl1 H7 h1 hg1 j7 _=>?_;fail "x";refine c29.c j7 (by decide) λcl2 H8 h2 hg2 j8 _=>?_;fail "x";refine c23.c j8 (by omega) (by omega) (by decide) λr4 H9 hd0 hd1 j9 _=>?_;fail "x";refine bY.mk ?_;refine⟨trivial,?_⟩;fail "x";refine c30P.c (x:=.g cl1.gap.w cl1.gap.s cl1.gap.z cl1.gap.k 0) (aa:=0) hg1.okP rfl ?_;fail "x";refine cc.c (c:=cl1) h1 (.inl rfl) ?_;fail "r";refine⟨trivial,?_⟩;fail "x";refine c30P.c (x:=.g cl2.gap.w cl2.gap.s cl2.gap.z cl2.gap.k 0) (aa:=0) hg2.okP rfl ?_;fail "x";refine cc.c (c:=cl2) h2 (.inr rfl) ?_;fail "r";refine⟨trivial,?_⟩;fail "x";refine ct.c (cl:=λn=>if n=1 then cl1 else cl2) ?_;fail "v";subst hX;refine xn cL c30 c68 cb (F:=⟨λn=>if n=1 then cl1 else cl2,1000*(6+r1),1000*r2,1000*r3,top,50⟩) ⟨λn hn=>by rcases hn with rfl|rfl;exact h1;exact h2,hg,⟨by dsimp only;omega,by dsimp only;omega⟩,⟨by dsimp only;omega,by dsimp only;omega⟩,⟨by dsimp only;omega,by dsimp only;omega⟩,Nat.le_refl _⟩ rfl hx (by omega) λρ H'=>?_;show V.bool true=V.bool true;rfl
end Mine
end
set_option maxRecDepth 100000 in
set_option maxHeartbeats 8000000 in
theorem PySem.Challenge.cw_rg0166_01_holds : PySem.Challenge.rw_rg0166_01.Holds := by
  exact Mine.holds_of fun is h => Mine.s44 h
