import Derived.Test.YtgcndlhopflceaaGreatDoorDcA
import Derived.Test.YtgcndlhopflceaaGreatDoorAl
import Derived.Test.YtgcndlhopflceaaGreatDoorAm5
import Derived.KernelRfl
import Derived.Test.YtgcndlhopflceaaGreatDoorOg0
import Derived.Test.YtgcndlhopflceaaGreatDoorOg1
set_option linter.all false
namespace Go.Ab
open Go
set_option maxRecDepth 100000
noncomputable section
structure Va where
 (k n:Int)
 s:LN
 I:LI
 L:List LN
structure No where
 op:Int
 name:LN
 v:Va
 kids:LI
structure Pa where
 name:LN
 kind:Int
structure Fe where
 name:LN
 kind:Int
 init:Va
structure Me where
 name:LN
 params:List Pa
 result:Int
 nodes:List No
structure Ac where
 name:LN
 fields:List Fe
 methods:List Me
def iE (i:Int):Da:= .int .i64 i
def No.r (n:No):af:=⟨n.op,n.name,n.v.k,n.v.n,n.v.s,n.v.I.map iE,n.v.L.map .str,n.kids.map iE⟩
def No.e (n:No):Da:=n.r.e
def Pa.r (p:Pa):cG:=⟨p.name,p.kind⟩
def Pa.e (p:Pa):Da:=p.r.e
def Fe.r (f:Fe):cf:=⟨f.name,f.kind,f.init.k,f.init.n,f.init.s,f.init.I.map iE,f.init.L.map .str⟩
def Fe.e (f:Fe):Da:=f.r.e
def Me.r (m:Me):aA:=⟨m.name,m.params.map Pa.e,m.result,m.nodes.map No.e⟩
def Me.e (m:Me):Da:=m.r.e
def Ac.r (a:Ac):ae:=⟨a.name,a.fields.map Fe.e,a.methods.map Me.e⟩
def Ac.e (a:Ac):Da:=a.r.e
def HZ (n:No)(K:af->R):bf n.e K=K n.r:=rfl
def dPa (n:Pa)(K:cG->R):cR n.e K=K n.r:=rfl
def dFe (n:Fe)(K:cf->R):cq n.e K=K n.r:=rfl
def Z7 (n:Me)(K:aA->R):bM n.e K=K n.r:=rfl
def Z6 (n:Ac)(K:ae->R):bq n.e K=K n.r:=rfl
def dI (i:Int)(K:Int->R):bg .i64 (iE i) K=K i:=rfl
def cr:Nat:=1000000000000
def wS {i:Nat}(h:i<cr):aq .i64 ((i:Int)+1)=((i+1:Nat):Int):=by
 unfold cr at h;rw[gU (by omega) (by omega)];omega
variable {a:Int}
def ej {b:Int}(h:a<b):aP a b=true:=by rw[dJ];simpa using h
def wI {b:Int}(h:¬a<b):aP a b=false:=by rw[dJ];simpa using h
def cH (a:Int):aP a a=false:=wI (Int.lt_irrefl a)
structure Vr where
 (kind slot:Int)
 field:Bool
def Vr.r (v:Vr):bu:=⟨v.kind,v.slot,v.field⟩
def Vr.e (v:Vr):Da:=v.r.e
def Ĵ (n:Vr)(K:bu->R):aV n.e K=K n.r:=rfl
def fS {β:Type}(l:List (LN×β))(s:LN):Option β:=(l.find? fun p=>decide (s=p.1)).map (·.2)
def uS {β:Type}(l:List (LN×β))(s:LN)(v:β):List (LN×β):=match l.findIdx? (fun p=>decide (s=p.1))with|some j=>l.set j (s,v)|none=>l++[(s,v)]
def cj {β:Type}(l:List (Int×β))(s:Int):Option β:=(l.find? fun p=>decide (s=p.1)).map (·.2)
def A4 {β:Type}(l:List (Int×β))(s:Int)(v:β):List (Int×β):=match l.findIdx? (fun p=>decide (s=p.1))with|some j=>l.set j (s,v)|none=>l++[(s,v)]
def qE {α:Type}(kt:TypeDesc)(k:Da)(f:α->Da)(p:α->Bool)(h:∀x,j3 kt k (f x)=some (p x)):∀(l:List α) (i:Nat),bN kt k (l.map f) i=some ((l.findIdx? p).map (i+ ·))
 |[],i=>rfl
 |x::r,i=>by
  simp only[List.map_cons,bN,h,mχ];cases p x
  ·simp only[qE kt k f p h r (i+1),Bool.false_eq_true,if_false,Option.map_map];congr 1;cases r.findIdx? p with
   |none=>rfl
   |some j=>simp only[Option.map_some,Function.comp];congr 1;omega
  ·rfl
variable {β:Type}
def O4 (l:List (LN×β))(s:LN):bN .string (.str s) (l.map fun p=> .str p.1) 0=some (l.findIdx? fun p=>decide (s=p.1)):=by
 rw[qE .string (.str s) (fun p:LN×β=> .str p.1) (fun p=>decide (s=p.1)) (fun x=>by simp only[j3,la])];cases l.findIdx? (fun p=>decide (s=p.1))<;>simp
def O3 (l:List (Int×β))(s:Int):bN (.int .i64) (.int .i64 s) (l.map fun p=> .int .i64 p.1) 0=some (l.findIdx? fun p=>decide (s=p.1)):=by
 rw[qE (.int .i64) (.int .i64 s) (fun p:Int×β=> .int .i64 p.1) (fun p=>decide (s=p.1)) (fun x=>by simp only[j3,if_true,bE])];cases l.findIdx? (fun p=>decide (s=p.1))<;>simp
def lU {α:Type}(p:α->Bool):∀(l:List α),(match l.findIdx? p with|some j=>l[j]?|none=>none)=l.find? p
 |[]=>rfl
 |x::r=>by
  simp only[mχ,List.find?_cons];cases p x
  ·simp only[Bool.false_eq_true,if_false];rw[<-lU p r];cases r.findIdx? p<;>rfl
  ·rfl
def mO {β:Type}(o:Option β)(E:R)(K:β->R):R:=match o with|none=>E|some v=>K v
def XF (E:R)(K:β->R):mO none E K=E:=rfl
def Mz (v:β)(E:R)(K:β->R):mO (some v) E K=K v:=rfl
def lkS (l:List (LN×β))(s:LN)(e:β->Da)(E:R)(K:Da->R):(cL (bN .string (.str s) (l.map fun p=> .str p.1) 0) fun y=>fC y E fun n=>cL (l.map fun p=>e p.2)[n]? K)=mO (fS l s) E fun v=>K (e v):=by
 rw[O4];unfold fS;rw[<-lU];cases h:l.findIdx? (fun p=>decide (s=p.1))with
 |none=>rfl
 |some j=>
  have hj:j<l.length:=(mθ.1 h).1;simp only[bo,Fd,lσ,lδ hj,Option.map_some,Mz]
def lkI (l:List (Int×β))(s:Int)(e:β->Da)(E:R)(K:Da->R):(cL (bN (.int .i64) (.int .i64 s) (l.map fun p=> .int .i64 p.1) 0) fun y=>fC y E fun n=>cL (l.map fun p=>e p.2)[n]? K)=mO (cj l s) E fun v=>K (e v):=by
 rw[O3];unfold cj;rw[<-lU];cases h:l.findIdx? (fun p=>decide (s=p.1))with
 |none=>rfl
 |some j=>
  have hj:j<l.length:=(mθ.1 h).1;simp only[bo,Fd,lσ,lδ hj,Option.map_some,Mz]
variable {α:Type}
def Kc {l:List (α×β)}{j:Nat}{s:α}{v:β}{hj:j<l.length}(h:l[j].1=s):(l.set j (s,v)).map (·.1)=l.map (·.1):=by
 apply List.ext_getElem?;intro k;simp only[lσ,List.getElem?_set];by_cases hk:j=k
 ·subst hk;simp[hj,<-h]
 ·simp[hk]
def upS (l:List (LN×β))(s:LN)(e:β->Da)(v:β)(G:LD->LD->R):(cL (bN .string (.str s) (l.map fun p=> .str p.1) 0) fun y=>fC y (G ((l.map fun p=> .str p.1)++[.str s]) ((l.map fun p=>e p.2)++[e v])) fun n=>G (l.map fun p=> .str p.1) ((l.map fun p=>e p.2).set n (e v)))=G ((uS l s v).map fun p=> .str p.1) ((uS l s v).map fun p=>e p.2):=by
 rw[O4];unfold uS;cases h:l.findIdx? (fun p=>decide (s=p.1))with
 |none=>simp only[bo,XY,List.map_append,List.map_cons,List.map_nil]
 |some j=>
  obtain⟨hj,hp,_⟩:=mθ.1 h;have hk:(l.set j (s,v)).map (·.1)=l.map (·.1):=Kc (hj:=hj) (by simpa using(of_decide_eq_true hp).symm);simp only[bo,Fd];congr 1
  ·have:=congrArg (List.map Da.str) hk;simp only[List.map_map]at this;exact this.symm
  ·rw[List.map_set]
def upI (l:List (Int×β))(s:Int)(e:β->Da)(v:β)(G:LD->LD->R):(cL (bN (.int .i64) (.int .i64 s) (l.map fun p=> .int .i64 p.1) 0) fun y=>fC y (G ((l.map fun p=> .int .i64 p.1)++[.int .i64 s]) ((l.map fun p=>e p.2)++[e v])) fun n=>G (l.map fun p=> .int .i64 p.1) ((l.map fun p=>e p.2).set n (e v)))=G ((A4 l s v).map fun p=> .int .i64 p.1) ((A4 l s v).map fun p=>e p.2):=by
 rw[O3];unfold A4;cases h:l.findIdx? (fun p=>decide (s=p.1))with
 |none=>simp only[bo,XY,List.map_append,List.map_cons,List.map_nil]
 |some j=>
  obtain⟨hj,hp,_⟩:=mθ.1 h;have hk:(l.set j (s,v)).map (·.1)=l.map (·.1):=Kc (hj:=hj) (by simpa using(of_decide_eq_true hp).symm);simp only[bo,Fd];congr 1
  ·have:=congrArg (List.map (Da.int .i64)) hk;simp only[List.map_map]at this;exact this.symm
  ·rw[List.map_set]
structure CS where
 pr:List Ac
 fs:List (LN×Vr)
 ns:List No
 (re nd er:Int)
 sc:List (LN×Vr)
 le:List (LN×Bool)
 lo:List Pa
 ki:List (Int×Int)
 va:List (Int×Vr)
def CS.k (c:CS):eM:=⟨c.pr.map Ac.e,c.fs.map fun p=> .str p.1,c.fs.map fun p=>p.2.e,c.ns.map No.e,c.re,c.lo.length,c.nd,c.er,c.sc.map fun p=> .str p.1,c.sc.map fun p=>p.2.e,c.le.map fun p=> .str p.1,c.le.map fun p=> .bool p.2,c.lo.map Pa.e,c.ki.map fun p=> .int .i64 p.1,c.ki.map fun p=> .int .i64 p.2,c.va.map fun p=> .int .i64 p.1,c.va.map fun p=>p.2.e⟩
def lC (c:CS)(K:eM->R):aK c.k.hp K=K c.k:=rfl
def sq (o:Option Nat):Int:=match o with|some j=>j|none=> -1
section
def Õ:LN->LN->Bool
 |[],[]=>true
 |a::r,b::s=>Nat.beq a b&&Õ r s
 |_,_=>false
def OY:∀{a b:LN},Õ a b=true->a=b
 |[],[],_=>rfl
 |[],_::_,h=>by cases h
 |_::_,[],h=>by cases h
 |a::r,b::s,h=>by
  simp only[Õ,lγ]at h;rw[lκ h.1,OY h.2]
def y8 (P:Program)(k:IntKind)(t:TypeId):Bool:=match P.underlying t with|some (.int k')=>decide (k'=k)|_=>false
def qM (P:Program)(t:TypeId):Bool:=match P.underlying t with|some .string=>true|_=>false
def lW (P:Program)(t e z:Nat):Bool:=match P.underlying t with|some (.slice e')=>Nat.beq e' e&&Nat.beq (P.cellsOf e) z|_=>false
def nr (P:Program)(t:Nat)(ts:LN):Bool:=match P.underlying t with|some (.struct fs)=>Õ (fs.toList.map (·.type)) ts|_=>false
def DU (C:TypeId->LD->Prop):List TypeId->LD->Prop
 |[],xs=>xs=[]
 |t::r,xs=>∃ys zs,xs=ys++zs/\C t ys/\DU C r zs
def yT {C:TypeId->LD->Prop}:∀{fs:List Field} {xs:LD},rW C fs xs->DU C (fs.map (·.type)) xs
 |[],_,h=>h
 |f::r,xs,⟨ys,zs,h1,h2,h3⟩=>⟨ys,zs,h1,h2,yT h3⟩
section
variable {P:Program} {B:TypeId->Nat} {n t:Nat} {xs:LD} {x:Da}
def nh {k:IntKind}(h:y8 P k t=true)(hc:cg P B (n+1) t xs):∃i,xs=[.int k i]/\(Lit.int k i).wf=true:=by
 unfold y8 at h;simp only[cg]at hc;split at h
 ·rename_i hu;rw[hu]at hc;have:=of_decide_eq_true h;subst this;exact hc
 ·cases h
def qZ (h:qM P t=true)(hc:cg P B (n+1) t xs):∃s,xs=[.str s]:=by
 unfold qM at h;simp only[cg]at hc;split at h
 ·rename_i hu;rw[hu]at hc;obtain⟨s,rfl,_⟩:=hc;exact⟨s,rfl⟩
 ·cases h
def Ğ (h:qM P t=true)(hc:cg P B (n+1) t xs):∃s,xs=[.str s]/\s.length<9223372036854775808:=by
 unfold qM at h;simp only[cg]at hc;split at h
 ·rename_i hu;rw[hu]at hc;obtain⟨s,rfl,hl,_⟩:=hc;have:maxLen=9223372036854775807:=rfl;exact⟨s,rfl,by omega⟩
 ·cases h
def qe {e z:Nat}(h:lW P t e z=true)(hc:cg P B (n+1) t xs):∃es,xs=[.slice z es]/\es.length<=B e/\∀x∈es,gY P (cg P B n) e x:=by
 unfold lW at h;simp only[cg]at hc;split at h
 ·rename_i hu;rw[hu]at hc;rw[lγ]at h;obtain⟨es,rfl,_,h2,h3⟩:=hc;have h4:=lκ h.1;subst h4;rw[lκ h.2];exact⟨es,rfl,h2,h3⟩
 ·cases h
variable {ts:LN}
def wj (h:nr P t ts=true)(hc:cg P B (n+1) t xs):DU (cg P B n) ts xs:=by
 unfold nr at h;simp only[cg]at hc;split at h
 ·rename_i hu;rw[hu]at hc;rw[<-OY h];exact yT hc
 ·cases h
def oc {C:TypeId->LD->Prop}(h:nr P t ts=true)(hc:gY P C t x):∃cs,x= .agg cs/\C t cs:=by
 unfold nr at h;unfold gY at hc;split at h
 ·rename_i hu;have:ik P t=true:=by unfold ik;rw[hu]
  rw[this]at hc;exact hc
 ·cases h
def DF {k:IntKind}{C:TypeId->LD->Prop}(h:y8 P k t=true)(hc:gY P C t x):C t [x]:=by
 unfold y8 at h;unfold gY at hc;split at h
 ·rename_i hu;have:ik P t=false:=by unfold ik;rw[hu]
  rw[this]at hc;exact hc
 ·cases h
def OO {C:TypeId->LD->Prop}(h:qM P t=true)(hc:gY P C t x):C t [x]:=by
 unfold qM at h;unfold gY at hc;split at h
 ·rename_i hu;have:ik P t=false:=by unfold ik;rw[hu]
  rw[this]at hc;exact hc
 ·cases h
end
def fE {α:Type}{f:α->Da}{Q:α->Prop}:∀{es:LD},(∀x∈es,∃a,x=f a/\Q a)->∃l:List α,es=l.map f/\∀a∈l,Q a
 |[],_=>⟨[],rfl,fun _ h=>by cases h⟩
 |x::es,h=>by
  obtain⟨a,rfl,ha⟩:=h x (lη ..);obtain⟨l,rfl,hl⟩:=fE (es:=es) fun y hy=>h y (lρ _ hy)
  refine⟨a::l,rfl,fun b hb=>?_⟩
  rcases mδ.1 hb with rfl|hb
  ·exact ha
  ·exact hl b hb
noncomputable section
abbrev Bn:TypeId->Nat:=fun _=>1048576
abbrev CT (n t:Nat)(xs:LD):Prop:=cg prog0 Bn n t xs
abbrev DT (n t:Nat)(x:Da):Prop:=gY prog0 (cg prog0 Bn n) t x
def Tx:y8 prog0 .i64 3=true:=by kernel_rfl
def YF:qM prog0 9=true:=by kernel_rfl
def aaQ:lW prog0 35 3 1=true:=by kernel_rfl
def abY:lW prog0 36 9 1=true:=by kernel_rfl
def Ņ:nr prog0 38 [3,3,9,35,36]=true:=by kernel_rfl
def Xg:nr prog0 92 [3,9,38,35]=true:=by kernel_rfl
def Ń:nr prog0 72 [9,3]=true:=by kernel_rfl
def ŀ:nr prog0 89 [9,3,38]=true:=by kernel_rfl
def ê:lW prog0 68 92 8=true:=by kernel_rfl
def ϸ:lW prog0 67 72 2=true:=by kernel_rfl
def ϵ:lW prog0 63 89 7=true:=by kernel_rfl
def ł:nr prog0 70 [9,67,3,68]=true:=by kernel_rfl
def Ϸ:lW prog0 64 70 4=true:=by kernel_rfl
def aaN:nr prog0 66 [9,63,64]=true:=by kernel_rfl
def aaO:lW prog0 22 66 3=true:=by kernel_rfl
def ń:nr prog0 24 [22]=true:=by kernel_rfl
def ž {n:Nat}{xs:LD}(h:CT (n+2) 35 xs):∃l:LI,xs=[.slice 1 (l.map iE)]/\l.length<=1048576:=by
 obtain⟨es,rfl,h1,h2⟩:=qe aaQ h;obtain⟨l,rfl,_⟩:=fE (f:=iE) (Q:=fun _=>True) (es:=es) fun x hx=>by
  obtain⟨i,e,_⟩:=nh Tx (DF Tx (h2 x hx));simp only[lτ,and_true]at e;exact⟨i,e,trivial⟩
 exact⟨l,rfl,by simpa using h1⟩
def ſ {n:Nat}{xs:LD}(h:CT (n+2) 36 xs):∃l:List LN,xs=[.slice 1 (l.map .str)]/\l.length<=1048576:=by
 obtain⟨es,rfl,h1,h2⟩:=qe abY h;obtain⟨l,rfl,_⟩:=fE (f:=Da.str) (Q:=fun _=>True) (es:=es) fun x hx=>by
  obtain⟨i,e⟩:=qZ YF (OO YF (h2 x hx));simp only[lτ,and_true]at e;exact⟨i,e,trivial⟩
 exact⟨l,rfl,by simpa using h1⟩
def Va.cs (v:Va):LD:=[.int .i64 v.k,.int .i64 v.n,.str v.s,.slice 1 (v.I.map iE),.slice 1 (v.L.map .str)]
end
end
def gw (c:CS)(i e:Int):CS:=if c.er=0 then {c with nd:=i,er:=e}else c
def cw (c:CS)(i:Int)(b:Bool):CS:=if b=true then c else gw c i 15
def np (c:CS)(s:LN):Option Vr:=match fS c.fs s with
 |some v=>some v
 |none=>fS c.sc s
def mq (c:CS)(i:Int)(s:LN):Vr×CS:=match np c s with
 |some v=>(v,{c with va:=A4 c.va i v})
 |none=>(⟨0,0,false⟩,gw c i 14)
def jU (c:CS)(s:LN)(k:Int):Option CS:=if c.lo.length<1000000000 then some {c with sc:=uS c.sc s ⟨k,c.lo.length,false⟩,le:=uS c.le s true,lo:=c.lo++[⟨s,k⟩]}else none
def DI (c:CS)(s:LN):Bool:=match fS c.fs s with
 |some _=>true
 |none=>match fS c.le s with
  |some b=>b
  |none=>false
def qP (c:CS)(i:Int)(n:No):CS:=if DI c n.name=true then gw c i 7 else if c.lo.length=8 then gw c i 5 else c
def AX (c:CS)(i:Int)(n:No)(k:Int):Option CS:=match jU (cw (qP c i n) i (decide (k=n.v.k))) n.name n.v.k with
 |some c=>some (mq c i n.name).2
 |none=>none
abbrev bx (i:Int):List D:=[.box 0 0,pI i]
def my {n:Nat}(c:CS)(i e:Int):Ω (n+1) 150 [.box 0 0,pI i,pI e] c.k.hp=some (.tup [],(gw c i e).k.hp):=by
 apply Y0 n c.k i e;unfold NL gw;rw[bE,fT];show(if c.er=0 then _ else _)=_;by_cases h:c.er=0
 ·rw[if_pos h,if_pos h];rfl
 ·rw[if_neg h,if_neg h]
def kh {n:Nat}(c:CS)(i:Int)(b:Bool):Ω (n+2) 107 [.box 0 0,pI i,pB b] c.k.hp=some (.tup [],(cw c i b).k.hp):=by
 apply Y3 (n+1) c.k i b;unfold NO cw;cases b
 ·simp only[aR,aa (my (n:=n) c i 15),bt,aC,lC];rfl
 ·rfl
def YN {n:Nat}(c:CS)(s:LN):Ω (n+1) 186 [.box 0 0,pS s] c.k.hp=some (.tup [.p ((np c s).getD ⟨0,0,false⟩).e,pB (np c s).isSome],c.k.hp):=by
 apply Y1 n c.k s;unfold NM np;simp only[CS.k,lkS,Ĵ];cases fS c.fs s with
 |some v=>rfl
 |none=>cases fS c.sc s<;>rfl
def Ky {n:Nat}(c:CS)(i:Int)(s:LN):Ω (n+2) 153 [.box 0 0,pI i,pS s] c.k.hp=some (.p (mq c i s).1.e,(mq c i s).2.k.hp):=by
 apply ş (n+1) c.k i s;unfold T6 mq;simp only[aa (YN (n:=n) c s),bt,bJ,aC,bk,Ĵ,aF,aX];cases np c s with
 |none=>simp only[Option.isSome_none,aR,aa (my (n:=n) c i 14),bt,aC,lC];rfl
 |some v=>
  simp only[Option.isSome_some,aQ,Option.getD_some];exact upI c.va i Vr.e v fun ks vs=>some (.p v.e,eM.hp {c.k with vk:=ks,vv:=vs})
def w8 {n b:Nat}(h:n<1000000001)(hb:b<=1000):ce n b=true:=by
 unfold ce;rw[lγ,Nat.ble_eq,Nat.ble_eq];constructor
 ·calc (2*n+192)*b<=(2*1000000001+192)*1000:=Nat.mul_le_mul (by omega) hb
   _<=281474976710656:=by decide
 ·omega
def acd {γ:Type}(l:List (LN×β))(m:List (LN×γ))(s:LN)(e:β->Da)(v:β)(e':γ->Da)(w:γ)(G:LD->LD->LD->LD->R):
  (cL (bN .string (.str s) (l.map fun p=> .str p.1) 0) fun y=>fC y
   (cL (bN .string (.str s) (m.map fun p=> .str p.1) 0) fun y=>fC y
    (G ((l.map fun p=> .str p.1)++[.str s]) ((l.map fun p=>e p.2)++[e v]) ((m.map fun p=> .str p.1)++[.str s]) ((m.map fun p=>e' p.2)++[e' w])) fun n=>
    G ((l.map fun p=> .str p.1)++[.str s]) ((l.map fun p=>e p.2)++[e v]) (m.map fun p=> .str p.1) ((m.map fun p=>e' p.2).set n (e' w))) fun n=>
   (cL (bN .string (.str s) (m.map fun p=> .str p.1) 0) fun y=>fC y
    (G (l.map fun p=> .str p.1) ((l.map fun p=>e p.2).set n (e v)) ((m.map fun p=> .str p.1)++[.str s]) ((m.map fun p=>e' p.2)++[e' w])) fun n'=>
    G (l.map fun p=> .str p.1) ((l.map fun p=>e p.2).set n (e v)) (m.map fun p=> .str p.1) ((m.map fun p=>e' p.2).set n' (e' w))))=
  G ((uS l s v).map fun p=> .str p.1) ((uS l s v).map fun p=>e p.2) ((uS m s w).map fun p=> .str p.1) ((uS m s w).map fun p=>e' p.2):=by
 have h1:=fun a b=>upS m s e' w (G a b)
 simp only[h1];exact upS l s e v fun a b=>G a b _ _
def xF {n:Nat}(c c':CS)(s:LN)(k:Int)(h:jU c s k=some c'):Ω (n+1) 71 [.box 0 0,pS s,pI k] c.k.hp=some (.tup [],c'.k.hp):=by
 apply Lh n c.k s k;unfold jU at h;by_cases hl:c.lo.length<1000000000
 ·rw[if_pos hl]at h;simp only[lα]at h;subst h;unfold xN;have hb:ce (c.k.lo.length+List.length [Da.agg [Da.str s,Da.int .i64 k]]) 24=true:=w8 (by simp[CS.k];omega) (by decide);have hn:Nat.beq c.k.ln c.k.lo.length=true:=by simp[CS.k]
  simp only[hb,hn,aQ];refine(acd c.sc c.le s Vr.e ⟨k,c.lo.length,false⟩ Da.bool true fun a b d e=>some (.tup [],eM.hp {c.k with ln:=(c.k.lo++[Da.agg [Da.str s,Da.int .i64 k]]).length,sk:=a,sv:=b,lk:=d,lv:=e,lo:=c.k.lo++[Da.agg [Da.str s,Da.int .i64 k]]})).trans ?_;simp only[CS.k,mγ,lβ,List.length_cons,List.length_nil,List.map_append,List.map_cons,List.map_nil];rfl
 ·rw[if_neg hl]at h;cases h
def œ {n:Nat}(c c':CS)(i:Int)(x:No)(k:Int)(h:AX c i x k=some c'):Ω (n+3) 156 [.box 0 0,pI i,.p x.e,pI k] c.k.hp=some (.tup [],c'.k.hp):=by
 apply Ş (n+2) c.k i x.r k;unfold AX at h;split at h
 ·rename_i c3 h3;simp only[lα]at h;subst h;have tail:(ct lay0.tab (n+2) 107 [.box 0 0,pI i,pB (az k x.r.Value_Kind)] (qP c i x).k.hp fun d o=>ba d fun r=>aj r<|aK o fun u=>ct lay0.tab (n+2) 71 [.box 0 0,pS x.r.Name,pI x.r.Value_Kind] u.hp fun d o=>ba d fun r=>aj r<|aK o fun u=>ct lay0.tab (n+2) 153 [.box 0 0,pI i,pS x.r.Name] u.hp fun d o=>dP d fun y=>aV y fun v=>aK o fun u=>some (.tup [],u.hp))=some (.tup [],(mq c3 i x.name).2.k.hp):=by
   have e1:az k x.r.Value_Kind=decide (k=x.v.k):=bE _ _;rw[e1];simp only[aa (kh (n:=n) (qP c i x) i _),bt,aC,lC];have e2:Ω (n+2) 71 [.box 0 0,pS x.r.Name,pI x.r.Value_Kind] (cw (qP c i x) i (decide (k=x.v.k))).k.hp=some (.tup [],c3.k.hp):=xF _ _ _ _ h3;simp only[aa e2,bt,aC,lC];have e3:Ω (n+2) 153 [.box 0 0,pI i,pS x.r.Name] c3.k.hp=some (.p (mq c3 i x.name).1.e,(mq c3 i x.name).2.k.hp):=Ky (n:=n) _ _ _;simp only[aa e3,bk,Ĵ,lC]
  have f7:=my (n:=n+1) c i 7;have f5:=my (n:=n+1) c i 5;unfold qP at tail;have e0:az (↑c.k.ln) 8=decide (c.lo.length=8):=by
   rw[bE];show decide ((c.lo.length:Int)=8)=_;rw[mι,lε,lε];omega
  unfold T5;unfold DI at tail;rw[e0];have hfs:∀(E:R) (K:Da->R),(cL (bN TypeDesc.string (Da.str x.r.Name) c.k.fk 0) fun y=>fC y E fun n=>cL c.k.fv[n]? K)=mO (fS c.fs x.name) E fun v=>K v.e:=fun E K=>lkS c.fs x.name Vr.e E K
  have hle:∀(E:R) (K:Da->R),(cL (bN TypeDesc.string (Da.str x.r.Name) c.k.lk 0) fun y=>fC y E fun n=>cL c.k.lv[n]? K)=mO (fS c.le x.name) E fun v=>K (.bool v):=fun E K=>lkS c.le x.name Da.bool E K
  rw[hle,hfs];cases hg:fS c.fs x.name with
  |some v=>
   simp only[hg,if_true]at tail;simp only[Mz,Ĵ,aa f7,bt,aC,lC];exact tail
  |none=>
   simp only[hg]at tail;simp only[XF];cases hh:fS c.le x.name with
   |some b=>
    simp only[hh]at tail;simp only[Mz,aF];cases b
    ·simp only[Bool.false_eq_true,if_false]at tail;simp only[aR,fT];by_cases h8:c.lo.length=8
     ·rw[if_pos h8]at tail ⊢
      simp only[aa f5,bt,aC,lC];exact tail
     ·rw[if_neg h8]at tail ⊢
      exact tail
    ·simp only[if_true]at tail;simp only[aQ,aa f7,bt,aC,lC];exact tail
   |none=>
    simp only[hh,Bool.false_eq_true,if_false]at tail;simp only[XF,fT];by_cases h8:c.lo.length=8
    ·rw[if_pos h8]at tail ⊢
     simp only[aa f5,bt,aC,lC];exact tail
    ·rw[if_neg h8]at tail ⊢
     exact tail
 ·cases h
def sD (pr:List Ac)(t m:LN):Option Me:=match pr.find? fun a=>decide (a.name=t)with
 |some a=>a.methods.find? fun x=>decide (x.name=m)
 |none=>none
def KC {n:Nat}(a:Ac)(s:LN):Ω (n+1) 184 [.p a.e,.box 0 0] [.box [pS s]]=some (pB (decide (a.name=s)),[.box [pS s]]):=by
 apply Lq n a.r s;unfold xT;show iL (be a.name s) _ _=_;rw[la];cases decide (a.name=s)<;>rfl
def KD {n:Nat}(a:Me)(s:LN):Ω (n+1) 185 [.p a.e,.box 0 0] [.box [pS s]]=some (pB (decide (a.name=s)),[.box [pS s]]):=by
 apply Lr n a.r s;unfold xU;show iL (be a.name s) _ _=_;rw[la];cases decide (a.name=s)<;>rfl
def Qf {n:Nat}(ts:List Ac)(s:LN)(h:ts.length<1501):Ω (n+1503) 33 [pL 3 (ts.map Ac.e),.fn 184 [.box 0 0]] [.box [pS s]]=some (pI (sq (ts.findIdx? fun t=>decide (t.name=s))),[.box [pS s]]):=by
 apply QU (n+1502) (ts.map Ac.e) s;unfold Bu;rw[lβ];refine(bp ts (fun q i=>itL (kM _ (n+1502) _ _) q (ts.map Ac.e,(ts.length:Int),i,s)) (fun t=>decide (t.name=s)) (fun i=>some (pI i,[.box [pS s]])) (some (pI (-1),[.box [pS s]])) (fun q i hi=>?_) (fun q=>?_) (by omega)).trans ?_
 ·rw[nt];simp only[kM,ej (show((i:Int)<(ts.length:Int)) by omega),aQ,aO,bi,aU hi,bo,Z6,wS (show i<cr by unfold cr;omega)];have:=KC (n:=n+1501) ts[i] s;simp only[Ac.e]at this;simp only[aa this,bk,aF,aX];exact fY _ _ _
 ·rw[nt];simp only[kM,cH,aR]
 ·cases ts.findIdx? fun t=>decide (t.name=s)<;>rfl
def Qe {n:Nat}(ts:List Me)(s:LN)(h:ts.length<1501):Ω (n+1503) 35 [pL 4 (ts.map Me.e),.fn 185 [.box 0 0]] [.box [pS s]]=some (pI (sq (ts.findIdx? fun t=>decide (t.name=s))),[.box [pS s]]):=by
 apply QT (n+1502) (ts.map Me.e) s;unfold Bt;rw[lβ];refine(bp ts (fun q i=>itL (kL _ (n+1502) _ _) q (ts.map Me.e,(ts.length:Int),i,s)) (fun t=>decide (t.name=s)) (fun i=>some (pI i,[.box [pS s]])) (some (pI (-1),[.box [pS s]])) (fun q i hi=>?_) (fun q=>?_) (by omega)).trans ?_
 ·rw[nt];simp only[kL,ej (show((i:Int)<(ts.length:Int)) by omega),aQ,aO,bi,aU hi,bo,Z7,wS (show i<cr by unfold cr;omega)];have:=KD (n:=n+1501) ts[i] s;simp only[Me.e]at this;simp only[aa this,bk,aF,aX];exact fY _ _ _
 ·rw[nt];simp only[kL,cH,aR]
 ·cases ts.findIdx? fun t=>decide (t.name=s)<;>rfl
def Qn {n:Nat}(pr:List Ac)(t m:LN)(h:pr.length<1501)(hm:∀a∈pr,a.methods.length<1501):Ω (n+1504) 149 [.p (.agg [.slice 3 (pr.map Ac.e)]),pS t,pS m] []=some (.tup [.p ((sD pr t m).getD ⟨[],[],0,[]⟩).e,pB (sD pr t m).isSome],[]):=by
 apply Q6 (n+1503) ⟨pr.map Ac.e⟩ t m;unfold BH sD;simp only[aa (Qf (n:=n) pr t h),bk,dI,aX,cb];rw[<-lU];cases ht:pr.findIdx? (fun a=>decide (a.name=t))with
 |none=>rfl
 |some j=>
  have hj:j<pr.length:=(mθ.1 ht).1;simp only[sq,lδ hj];rw[wI (by omega:¬(j:Int)<0),aR];simp only[aO,bi,aU hj,bo,Z6];have hml:=hm _ (lν hj);have h2:=Qe (n:=n) pr[j].methods m hml;simp only[Ac.r];simp only[aa h2,bk,cb,aX];rw[<-lU];cases hk:pr[j].methods.findIdx? (fun a=>decide (a.name=m))with
  |none=>rfl
  |some k=>
   have hk':k<pr[j].methods.length:=(mθ.1 hk).1;simp only[sq,lδ hk'];rw[wI (by omega:¬(k:Int)<0),aR];simp only[aO,bi,aU hk',bo,Z7,Option.getD_some,Option.isSome_some];rfl
def As {α:Type}[DecidableEq α](p:α->α->Bool){xs ys:List α}(hl:xs.length=ys.length)(hp:∀x y,p x y=decide (x=y)):(xs.zip ys).findIdx? (fun t=>!p t.1 t.2)=none↔xs=ys:=by
 induction xs generalizing ys with
 |nil=>cases ys with
  |nil=>simp
  |cons y ys=>simp at hl
 |cons x xs ih=>cases ys with
  |nil=>simp at hl
  |cons y ys=>
   simp only[List.length_cons,Nat.add_right_cancel_iff]at hl;simp only[List.zip_cons_cons,mχ,hp,lτ];by_cases hxy:x=y
   ·simp only[hxy,decide_true,Bool.not_true,Bool.false_eq_true,if_false,true_and,Option.map_eq_none_iff];have:=ih hl;simp only[hp]at this;exact this
   ·simp[hxy]
def xG {n:Nat}(xs ys:LI)(h:xs.length<1501):Ω (n+1503) 137 [pL 1 (xs.map iE),pL 1 (ys.map iE)] []=some (pB (decide (xs=ys)),[]):=by
 apply UD (n+1502) (xs.map iE) (ys.map iE);simp only[Gz,lβ,bE,iD];by_cases hl:xs.length=ys.length
 ·rw[if_pos (by omega)];refine(bp (xs.zip ys) (fun q i=>itL (mK _ (n+1502) _ _) q (xs.map iE,ys.map iE,(xs.length:Int),i)) (fun t=>!az t.1 t.2) (fun i=>some (pB false,[])) (some (pB true,[])) (fun q i hi=>?_) (fun q=>?_) (by simp[mρ];omega)).trans ?_
  ·simp only[mρ]at hi;rw[nt];simp only[mK,ej (show((i:Int)<(xs.length:Int)) by omega),aQ,aO,bi,aU (show i<xs.length by omega),aU (show i<ys.length by omega),bo,dI,wS (show i<cr by unfold cr;omega),List.getElem_zip];exact fY _ _ _
  ·rw[nt];simp only[mK,mρ,hl,Nat.min_self,cH,aR]
  ·have key:=As az hl bE;cases hf:(xs.zip ys).findIdx? (fun t=>!az t.1 t.2)with
   |none=>simp[key.1 hf]
   |some j=>
    have:¬xs=ys:=fun e=>by rw[key.2 e]at hf;cases hf
    simp[this]
 ·rw[if_neg (by omega)];have:¬xs=ys:=fun e=>hl (by rw[e])
  simp[this]
def TF {n:Nat}(k:Int)(p:Pa):Ω (n+1) 152 [pI k,.p p.e] []=some (pB (decide (k=p.kind)),[]):=by
 apply Uo n k p.r;unfold Gk;show iL (az k p.kind) _ _=_;rw[bE];cases decide (k=p.kind)<;>rfl
def ģ {xs:LI}{ps:List Pa}{i:Nat}(hi:i<(xs.zip (ps.map (·.kind))).length)(h1:i<xs.length)(h2:i<ps.length):(xs.zip (ps.map (·.kind)))[i]=(xs[i],ps[i].kind):=by simp
def CZ {n:Nat}(xs:LI)(ps:List Pa)(h:xs.length<1501):Ω (n+1503) 151 [pL 1 (xs.map iE),pL 2 (ps.map Pa.e),.p (.fn 152 [])] []=some (pB (decide (xs=ps.map (·.kind))),[]):=by
 apply Dh (n+1502) (xs.map iE) (ps.map Pa.e);simp only[rb,lβ,bE,iD];by_cases hl:xs.length=ps.length
 ·rw[if_pos (by omega)];refine(bp (xs.zip (ps.map (·.kind))) (fun q i=>itL (gB _ (n+1502) _ _) q (ps.map Pa.e,xs.map iE,(xs.length:Int),i)) (fun t=>!az t.1 t.2) (fun i=>some (pB false,[])) (some (pB true,[])) (fun q i hi=>?_) (fun q=>?_) (by simp[mρ];omega)).trans ?_
  ·have hi':=hi;simp only[mρ,lβ]at hi;rw[nt];have h1:i<xs.length:=by omega
   have h2:i<ps.length:=by omega
   simp only[gB,ej (show((i:Int)<(xs.length:Int)) by omega),aQ,aO,bi,aU h1,aU h2,bo,dI,dPa,wS (show i<cr by unfold cr;omega)];have:=TF (n:=n+1501) xs[i] ps[i];simp only[Pa.e]at this;simp only[aa this,bk,aF,aX,ģ hi' h1 h2,bE];cases decide (xs[i]=ps[i].kind)<;>rfl
  ·rw[nt];simp only[gB,mρ,lβ,hl,Nat.min_self,cH,aR]
  ·have key:=As az (ys:=ps.map (·.kind)) (by simpa using hl) bE;cases hf:(xs.zip (ps.map (·.kind))).findIdx? (fun t=>!az t.1 t.2)with
   |none=>simp[key.1 hf]
   |some j=>
    have:¬xs=ps.map (·.kind):=fun e=>by rw[key.2 e]at hf;cases hf
    simp[this]
 ·rw[if_neg (by omega)];have:¬xs=ps.map (·.kind):=fun e=>hl (by rw[e];simp)
  simp[this]
def RA (c:CS)(i:Int)(x:No)(ks:LI):Option (Int×CS):=match sD c.pr x.name x.v.s with
 |none=>some (0,gw c i 14)
 |some m=>match ks with
  |[]=>none
  |k::r=>some (m.result,cw c i (decide (k=3)&&decide (r=m.params.map (·.kind))))
def YM {n:Nat}(c c':CS)(i k:Int)(x:No)(ks:LI)(h:RA c i x ks=some (k,c'))(hl:ks.length<1501)(h1:c.pr.length<1501)(h2:∀a∈c.pr,a.methods.length<1501):Ω (n+1505) 104 [.box 0 0,pI i,.p x.e,pL 1 (ks.map iE)] c.k.hp=some (pI k,c'.k.hp):=by
 apply YZ (n+1504) c.k i x.r (ks.map iE);unfold NK;have h3:=Qn (n:=n) c.pr x.name x.v.s h1 h2;show(ct lay0.tab (n+1504) 149 [.p (.agg [.slice 3 (c.pr.map Ac.e)]),pS x.name,pS x.v.s] [] _)=_;simp only[aa h3,bt,bJ,aC,bk,Z7,aF,aX];unfold RA at h;cases hq:sD c.pr x.name x.v.s with
 |none=>
  rw[hq]at h;simp only[lα,lζ]at h;obtain⟨rfl,rfl⟩:=h;have f:=my (n:=n+1503) c i 14;simp only[Option.isSome_none,aR,aa f,bt,aC,lC]
 |some m=>
  rw[hq]at h;simp only[Option.isSome_some,aQ,Option.getD_some];cases ks with
  |nil=>cases h
  |cons k0 r=>
   simp only[lα,lζ]at h;obtain⟨rfl,rfl⟩:=h;have hle:bw 1 (((k0::r).map iE).length:Int)=true:=by rw[bW];simp;omega
   have hsl:List.take (((k0::r).map iE).length - Int.toNat 1) (List.drop (Int.toNat 1) ((k0::r).map iE))=r.map iE:=by
    show List.take ((r.map iE).length+1 - 1) (r.map iE)=_;rw[Nat.add_sub_cancel,List.take_length]
   rw[hle,hsl,aQ];have hr:r.length<1501:=by simp only[List.length_cons]at hl;omega
   have q:=CZ (n:=n+1) r m.params hr;have at0:bA ((k0::r).map iE) 0=some (iE k0):=rfl;rw[at0];simp only[bo,dI,Me.r];simp only[aa q,bk,aF,aX,bE];have w:=fun b=>kh (n:=n+1502) c i b
   simp only[aa (w _),bt,aC,lC];cases decide (k0=3)<;>cases decide (r=m.params.map (·.kind))<;>rfl
def Ds (s:LN)(x y:Int):Int×Bool:=
 bif be s [38,38]then(2,az x y&&az x 2)else bif be s [124,124]then(2,az x y&&az x 2)else
 bif be s [60]then(2,az x y&&(az x 1||az x 3))else bif be s [60,61]then(2,az x y&&(az x 1||az x 3))else
 bif be s [62]then(2,az x y&&(az x 1||az x 3))else bif be s [62,61]then(2,az x y&&(az x 1||az x 3))else
 bif be s [43]then(x,az x y&&(az x 1||az x 3))else
 bif be s [45]then(1,az x y&&az x 1)else bif be s [42]then(1,az x y&&az x 1)else bif be s [47]then(1,az x y&&az x 1)else bif be s [37]then(1,az x y&&az x 1)else(2,az x y)
def P4 {n:Nat}(c:CS)(i:Int)(s:LN)(x y:Int):Ω (n+3) 154 [.box 0 0,pI i,pS s,pI x,pI y] c.k.hp=some (pI (Ds s x y).1,(cw c i (Ds s x y).2).k.hp):=by
 apply QH (n+2) c.k i s x y;unfold Bg Ds;have w:=fun(c:CS) (b:Bool)=>kh (n:=n) c i b
 have wt:=w c true;have wf:=w c false;simp only[gn,c6,kE,c7,aa wt,aa wf,bt,aC,lC];cases be s [38,38];rotate_left
 ·cases az x y<;>cases az x 2<;>rfl
 cases be s [124,124];rotate_left
 ·cases az x y<;>cases az x 2<;>rfl
 cases be s [60];rotate_left
 ·cases az x y<;>cases az x 1<;>cases az x 3<;>rfl
 cases be s [60,61];rotate_left
 ·cases az x y<;>cases az x 1<;>cases az x 3<;>rfl
 cases be s [62];rotate_left
 ·cases az x y<;>cases az x 1<;>cases az x 3<;>rfl
 cases be s [62,61];rotate_left
 ·cases az x y<;>cases az x 1<;>cases az x 3<;>rfl
 cases be s [43];rotate_left
 ·cases az x y<;>cases az x 1<;>cases az x 3<;>rfl
 cases be s [45];rotate_left
 ·cases az x y<;>cases az x 1<;>rfl
 cases be s [42];rotate_left
 ·cases az x y<;>cases az x 1<;>rfl
 cases be s [47];rotate_left
 ·cases az x y<;>cases az x 1<;>rfl
 cases be s [37];rotate_left
 ·cases az x y<;>cases az x 1<;>rfl
 cases az x y<;>rfl
section
def Xr (c:Int):Bool:=(bw 97 c&&bw c 122)||((bw 65 c&&bw c 90)||az c 95)
def ϛ (c:Int):Bool:=bw 48 c&&bw c 57
def Ġ (c:Int):Bool:=Xr c||ϛ c
def b_ (s:LN):Bool:=[[97,99,116,111,114],[115,116,97,116,101],[109,101,116,104,111,100],[108,101,116],[105,102],[101,108,115,101],[119,104,105,108,101],[114,101,116,117,114,110],[102,97,105,108],[99,97,108,108],[101,109,105,116],[114,101,109,105,110,100],[99,97,110,99,101,108],[115,101,108,102],[116,114,117,101],[102,97,108,115,101],[105,110,116],[98,111,111,108],[115,116,114,105,110,103],[105,110,116,115],[115,116,114,105,110,103,115]].any fun t=>be s t
def dt (a x y:Bool):iL a (some ((pB x),[])) (some ((pB y),[]))=some ((pB (bif a then x else y)),[]):=by cases a<;>rfl
def pE (a:Bool):(bif a then true else false)=a:=by cases a<;>rfl
def ZJ (a:Bool):(bif a then false else true)=!a:=by cases a<;>rfl
def wq (a b:Bool):(bif a then b else false)=(a&&b):=by cases a<;>rfl
def Α (a b:Bool):(bif a then true else b)=(a||b):=by cases a<;>rfl
def aan (a b:Bool):(bif a then false else b)=(!a&&b):=by cases a<;>rfl
def lP (l:List α)(p:α->Bool):(l.all fun x=>!p x)=(l.findIdx? p).isNone:=by
 rw[mι,mζ,Option.isNone_iff_eq_none,List.findIdx?_eq_none_iff];simp
def uw (s:LN)(K:LN->R):ja (Da.str s) K=K s:=rfl
def TI {n:Nat}(c:Int):Ω (n+1) 87 [.p (.int .u8 c)] []=some (pB (ϛ c),[]):=by
 apply Us n c;simp only[Gp,dt,pE,wq,Bool.and_true,ϛ]
def Be {n:Nat}(c:Int):Ω (n+1) 122 [.p (.int .u8 c)] []=some (pB (Xr c),[]):=by
 apply QO n c;unfold Bm Xr;cases bw 97 c<;>cases bw c 122<;>cases bw 65 c<;>cases bw c 90<;>cases az c 95<;>rfl
def TJ {n:Nat}(c:Int):Ω (n+2) 123 [.p (.int .u8 c)] []=some (pB (Ġ c),[]):=by
 apply Ut (n+1) c;simp only[Gq,aa (Be (n:=n) c),aa (TI (n:=n) c),bk,aF,aC,dt,pE,Α,Bool.or_false,Ġ]
def CY {n:Nat}(s:LN):Ω (n+1) 86 [pS s] []=some (pB (b_ s),[]):=by
 apply Dg n s;simp only[ra,dt,pE,Α,b_,List.any_cons,List.any_nil,Bool.or_false]
def nwC (c:Nat):Bool:=!Ġ (c:Int)
def E_ (s:LN):Nat:=(s.findIdx? nwC).getD s.length
def Ŗ {n:Nat}(s:LN)(h:s.length<1501):Ω (n+1504) 83 [pS s,.p (.fn 123 [])] []=some (pI (E_ s),[]):=by
 apply š (n+1503) s;unfold T8 E_;refine(bp s (fun q i=>itL (rp _ (n+1503) _) q (s,i)) nwC (fun i=>some (pI i,[])) (some (pI s.length,[])) (fun q i hi=>?_) (fun q=>?_) (by omega)).trans ?_
 ·rw[nt];simp only[rp,ej (show((i:Int)<(s.length:Int)) by omega),aQ,bW,show(0:Int)<=(i:Int) by omega,decide_true,cond_true,Int.toNat_natCast,lδ hi,bo,wS (show i<cr by unfold cr;omega),show ∀k:Nat,Int.ofNat k=(k:Int)from fun _=>rfl,aa (TJ (n:=n+1501) _),bk,aF,aX];unfold nwC;cases Ġ (s[i]:Int)<;>rfl
 ·rw[nt];simp only[rp,cH,aR]
 ·cases s.findIdx? nwC<;>rfl
def Yz (s:LN):Nat:=bif Xr ((s.headD 0:Nat):Int)then E_ s else 0
def YR {n:Nat}(s:LN)(h:s.length<1501):Ω (n+1505) 85 [pS s] []=some (pI (Yz s),[]):=by
 apply Y7 (n+1504) s;unfold NS Yz;cases s with
 |nil=>rfl
 |cons c r=>
  simp only[show be (c::r) []=false from rfl,aR,show bw 0 0=true from rfl,cond_true,Int.toNat_zero,List.getElem?_cons_zero,bo,show ∀k:Nat,Int.ofNat k=(k:Int)from fun _=>rfl,aa (Be (n:=n+1503) _),aa (Ŗ (n:=n) _ h),bk,aF,cb,aC,List.headD_cons];cases Xr (c:Int)<;>rfl
def f0 (s:LN):Bool:=!be s []&&(bw s.length 32&&(az (Yz s) s.length&&!b_ s))
def jG {n:Nat}(s:LN):Ω (n+1506) 65 [pS s] []=some (pB (f0 s),[]):=by
 apply QN (n+1505) s;by_cases h:s.length<1501
 ·simp only[tZ,aa (YR (n:=n) _ h),aa (CY (n:=n+1504) s),bk,aF,cb,aC,dt,ZJ,wq,f0]
 ·have:bw (s.length:Int) 32=false:=by rw[bW];simp only[lμ];omega
  simp only[tZ,f0,this,aR,Bool.false_and,Bool.and_false];cases be s []<;>rfl
def nu (k:Int):Bool:=bw 1 k&&bw k 5
def oM {n:Nat}(k:Int):Ω (n+1) 97 [pI k] []=some (pB (nu k),[]):=by
 apply Q2 n k;simp only[BD,dt,pE,wq,nu,Bool.and_true]
def T2 {n:Nat}(xs ys:LI)(h:xs.length<1501\/ys.length<1501):Ω (n+1503) 74 [pL 1 (xs.map iE),pL 1 (ys.map iE)] []=some (pB (decide (xs=ys)),[]):=by
 apply U1 (n+1502) (xs.map iE) (ys.map iE);unfold GU;simp only[lβ,bE,iD];by_cases hl:(xs.length:Int)=ys.length
 ·rw[if_pos hl];have hl':xs.length=ys.length:=by omega
  refine(bp (xs.zip ys) (fun q i=>itL (mT _ (n+1502) _ _) q (xs.map iE,ys.map iE,(xs.length:Int),i)) (fun p=>!decide (p.1=p.2)) (fun i=>some (pB false,[])) (some (pB true,[])) (fun q i hi=>?_) (fun q=>?_) (by simp;omega)).trans ?_
  ·have hx:i<xs.length:=by simp at hi;omega
   have hy:i<ys.length:=by omega
   rw[nt];simp only[mT,ej (show((i:Int)<(xs.length:Int)) by omega),aQ,aO,bi,aU hx,aU hy,bo,dI,wS (show i<cr by unfold cr;omega),List.getElem_zip,bE];exact fY _ _ _
  ·rw[nt];simp only[mT,show((xs.zip ys).length:Int)=xs.length by simp;omega,cH,aR]
  ·have:decide (xs=ys)=((xs.zip ys).all fun p=>!(!decide (p.1=p.2))):=by
    rw[mι,mζ,lε];constructor
    ·rintro rfl p hp
     obtain⟨i,hi,rfl⟩:=qθ hp;simp
    ·intro ha;refine List.ext_getElem hl' fun i h1 h2=>?_
     have:=ha (xs[i],ys[i]) (by rw[<-List.getElem_zip (h:=by simp;omega)];exact lν _);simpa using this
   rw[this,lP];cases(xs.zip ys).findIdx? fun p=>!decide (p.1=p.2)<;>rfl
 ·rw[if_neg hl];rw[mε (by rintro rfl;exact hl rfl)]
def T3 {n:Nat}(xs ys:List LN)(h:xs.length<1501\/ys.length<1501):Ω (n+1503) 75 [pL 1 (xs.map .str),pL 1 (ys.map .str)] []=some (pB (decide (xs=ys)),[]):=by
 apply U2 (n+1502) (xs.map .str) (ys.map .str);unfold GV;simp only[lβ,bE,iD];by_cases hl:(xs.length:Int)=ys.length
 ·rw[if_pos hl];have hl':xs.length=ys.length:=by omega
  refine(bp (xs.zip ys) (fun q i=>itL (mU _ (n+1502) _ _) q (xs.map .str,ys.map .str,(xs.length:Int),i)) (fun p=>!decide (p.1=p.2)) (fun i=>some (pB false,[])) (some (pB true,[])) (fun q i hi=>?_) (fun q=>?_) (by simp;omega)).trans ?_
  ·have hx:i<xs.length:=by simp at hi;omega
   have hy:i<ys.length:=by omega
   rw[nt];simp only[mU,ej (show((i:Int)<(xs.length:Int)) by omega),aQ,aO,bi,aU hx,aU hy,bo,uw,wS (show i<cr by unfold cr;omega),List.getElem_zip,la];exact fY _ _ _
  ·rw[nt];simp only[mU,show((xs.zip ys).length:Int)=xs.length by simp;omega,cH,aR]
  ·have:decide (xs=ys)=((xs.zip ys).all fun p=>!(!decide (p.1=p.2))):=by
    rw[mι,mζ,lε];constructor
    ·rintro rfl p hp
     obtain⟨i,hi,rfl⟩:=qθ hp;simp
    ·intro ha;refine List.ext_getElem hl' fun i h1 h2=>?_
     have:=ha (xs[i],ys[i]) (by rw[<-List.getElem_zip (h:=by simp;omega)];exact lν _);simpa using this
   rw[this,lP];cases(xs.zip ys).findIdx? fun p=>!decide (p.1=p.2)<;>rfl
 ·rw[if_neg hl];rw[mε (by rintro rfl;exact hl rfl)]
def cT {α:Type}(l:List α):Int:=(l.length:Int)
def HH (v:Va):Bool:=aP v.k 0||aP 5 v.k
def HI (v:Va):Bool:=!az v.n 0&&(!az v.k 1&&(!az v.k 2||!az v.n 1))
def HJ (v:Va):Bool:=(!be v.s []&&!az v.k 3)||((aP 0 (cT v.I)&&!az v.k 4)||(aP 0 (cT v.L)&&!az v.k 5))
def vn (v:Va):Bool:=aP 64 (cT v.s)||(aP 16 (cT v.I)||aP 16 (cT v.L))
def kg (v:Va):Bool:=!HH v&&(!HI v&&(!HJ v&&(!vn v&&v.L.all fun t=>!aP 64 (cT t))))
def Va.c (v:Va):LD:=[.int .i64 v.k,.int .i64 v.n,.str v.s,.slice 1 (v.I.map iE),.slice 1 (v.L.map .str)]
def mh (a b:Va):Bool:=az a.k b.k&&(az a.n b.n&&(be a.s b.s&&(decide (a.I=b.I)&&decide (a.L=b.L))))
def Va.r (v:Va):ah:=⟨v.k,v.n,v.s,v.I.map iE,v.L.map .str⟩
def C5 {n:Nat}(a b:Va)(hi:a.I.length<1501\/b.I.length<1501)(hl:a.L.length<1501\/b.L.length<1501):Ω (n+1504) 39 [.p (.agg a.c),.p (.agg b.c)] []=some (pB (mh a b),[]):=by
 apply Zl (n+1503) a.r b.r;unfold N7;show iL (az a.k b.k) _ _=_;have h1:=aa (T2 (n:=n) a.I b.I hi);have h2:=aa (T3 (n:=n) a.L b.L hl);simp only[Va.r,h1,h2,bk,aF,aC,dt,pE,wq,mh,Bool.and_true]
def C1 {n:Nat}(a b:Va)(hi:a.I.length<1501\/b.I.length<1501)(hl:a.L.length<1501\/b.L.length<1501):Ω (n+1505) 145 [.p (.agg a.c),.p (.agg b.c)] []=some (pB (mh a b),[]):=by
 apply Zd (n+1504) a.r b.r;unfold NY;have h:=aa (C5 (n:=n) a b hi hl);simp only[Va.c]at h;show ct lay0.tab (n+1504) 39 [.p (.agg _),.p (.agg _)] [] _=_;simp only[Va.r]at h ⊢
 simp only[h,bk,aF,aC,dt,pE]
section
variable (cc:ab) (n:Nat) (k0:Bool×ah->R) (v:Va)
def vw1:mN cc n k0 v.r=k0 (HH v,v.r):=by
 unfold mN HH;show iL (aP v.k 0) _ (iL (aP 5 v.k) _ _)=_;cases aP v.k 0<;>cases aP 5 v.k<;>rfl
def vw2:mP cc n k0 v.r=k0 (HI v,v.r):=by
 unfold mP HI;show iL (!az v.n 0) (iL (!az v.k 1) (iL (!az v.k 2) _ (iL (!az v.n 1) _ _)) _) _=_;cases az v.n 0<;>cases az v.k 1<;>cases az v.k 2<;>cases az v.n 1<;>rfl
def vw3:mQ cc n k0 v.r=k0 (!be v.s []&&!az v.k 3,v.r):=by
 unfold mQ;show iL (!be v.s []) (iL (!az v.k 3) _ _) _=_;cases be v.s []<;>cases az v.k 3<;>rfl
def vw4:hR cc n k0 v.r=k0 (vn v,v.r):=by
 unfold hR vn cT;show iL (aP 64 (v.s.length:Int)) _ (iL (aP 16 ((v.I.map iE).length:Int)) _ (iL (aP 16 ((v.L.map Da.str).length:Int)) _ _))=_;simp only[lβ];cases aP 64 (v.s.length:Int)<;>cases aP 16 (v.I.length:Int)<;>cases aP 16 (v.L.length:Int)<;>rfl
def vw6:mR cc n k0 v.r=k0 (aP 0 (cT v.I)&&!az v.k 4,v.r):=by
 unfold mR cT;show iL (aP 0 ((v.I.map iE).length:Int)) (iL (!az v.k 4) _ _) _=_;simp only[lβ];cases aP 0 (v.I.length:Int)<;>cases az v.k 4<;>rfl
def vw7:mS cc n k0 v.r=k0 (aP 0 (cT v.L)&&!az v.k 5,v.r):=by
 unfold mS cT;show iL (aP 0 ((v.L.map Da.str).length:Int)) (iL (!az v.k 5) _ _) _=_;simp only[lβ];cases aP 0 (v.L.length:Int)<;>cases az v.k 5<;>rfl
end
def xK {n:Nat}(v:Va):Ω (n+1503) 73 [.p (.agg v.c)] []=some (pB (kg v),[]):=by
 apply U0 (n+1502) v.r;by_cases h:v.L.length<1501;case neg=>
  have h4:vn v=true:=by
   unfold vn cT;rw[qα,qα];exact .inr (.inr (ej (by omega)))
  unfold xX kg HJ;simp only[vw1,vw2,vw3,vw4,vw6,vw7,h4];cases HH v<;>cases HI v<;>cases(!be v.s []&&!az v.k 3)<;>cases(aP 0 (cT v.I)&&!az v.k 4)<;>cases(aP 0 (cT v.L)&&!az v.k 5)<;>rfl
 have hl:itL (hU (ct lay0.tab (n+1502)) (n+1502) (some (pB false,[])) (fun(l18,i19,i20)=>some (pB true,[]))) (n+1502) (v.L.map .str,(v.L.length:Int),0)=some (pB (v.L.all fun t=>!aP 64 (cT t)),[]):=by
  refine(bp v.L (fun q i=>itL (hU _ (n+1502) _ _) q (v.L.map .str,(v.L.length:Int),i)) (fun t=>aP 64 (cT t)) (fun i=>some (pB false,[])) (some (pB true,[])) (fun q i hi=>?_) (fun q=>?_) (by omega)).trans ?_
  ·rw[nt];simp only[hU,ej (show((i:Int)<(v.L.length:Int)) by omega),aQ,aO,bi,aU hi,bo,uw,wS (show i<cr by unfold cr;omega)];exact fY _ _ _
  ·rw[nt];simp only[hU,cH,aR]
  ·rw[lP];cases v.L.findIdx? fun t=>aP 64 (cT t)<;>rfl
 unfold xX kg HJ;simp only[vw1,vw2,vw3,vw4,vw6,vw7];show iL _ _ (iL _ _ (iL _ (iL _ _ (iL _ _ (itL (hU _ _ _ _) _ (v.L.map .str,((v.L.map Da.str).length:Int),0)))) (iL _ (iL _ _ (iL _ _ (itL (hU _ _ _ _) _ (v.L.map .str,((v.L.map Da.str).length:Int),0)))) (iL _ _ (iL _ _ (itL (hU _ _ _ _) _ (v.L.map .str,((v.L.map Da.str).length:Int),0)))))))=_;rw[lβ,hl];cases HH v<;>cases HI v<;>cases(!be v.s []&&!az v.k 3)<;>cases(aP 0 (cT v.I)&&!az v.k 4)<;>cases(aP 0 (cT v.L)&&!az v.k 5)<;>cases vn v<;>rfl
def TO {n:Nat}(xs:LI)(y:Int)(h:xs.length<1501):Ω (n+1504) 98 [pL 1 (xs.map iE),pI y] []=some (pB (xs.any fun x=>az y x),[]):=by
 have hi:Ω (n+1503) 136 [pL 1 (xs.map iE),pI y] []=some (pI (sq (xs.findIdx? fun x=>az y x)),[]):=by
  apply Y9 (n+1502) (xs.map iE) y;unfold NU;rw[lβ];refine(bp xs (fun q i=>itL (oX _ (n+1502) _ _) q (xs.map iE,y,(xs.length:Int),i)) (fun x=>az y x) (fun i=>some (pI i,[])) (some (pI (-1),[])) (fun q i hi=>?_) (fun q=>?_) (by omega)).trans ?_
  ·rw[nt];simp only[oX,ej (show((i:Int)<(xs.length:Int)) by omega),aQ,aO,bi,aU hi,bo,dI,wS (show i<cr by unfold cr;omega)];exact fY _ _ _
  ·rw[nt];simp only[oX,cH,aR]
  ·cases xs.findIdx? fun x=>az y x<;>rfl
 apply Uz (n+1503) (xs.map iE) y;unfold Gv;simp only[aa hi,bk,cb,aC];rw[<-List.findIdx?_isSome];cases xs.findIdx? fun x=>az y x with
 |none=>rfl
 |some j=>simp[sq,bW,aQ]
def TQ {n:Nat}(xs:List LN)(y:LN)(h:xs.length<1501):Ω (n+1504) 146 [pL 1 (xs.map .str),pS y] []=some (pB (xs.any fun x=>be y x),[]):=by
 have hi:Ω (n+1503) 181 [pL 1 (xs.map .str),pS y] []=some (pI (sq (xs.findIdx? fun x=>be y x)),[]):=by
  apply Za (n+1502) (xs.map .str) y;unfold NV;rw[lβ];refine(bp xs (fun q i=>itL (oY _ (n+1502) _ _) q (xs.map .str,y,(xs.length:Int),i)) (fun x=>be y x) (fun i=>some (pI i,[])) (some (pI (-1),[])) (fun q i hi=>?_) (fun q=>?_) (by omega)).trans ?_
  ·rw[nt];simp only[oY,ej (show((i:Int)<(xs.length:Int)) by omega),aQ,aO,bi,aU hi,bo,uw,wS (show i<cr by unfold cr;omega)];exact fY _ _ _
  ·rw[nt];simp only[oY,cH,aR]
  ·cases xs.findIdx? fun x=>be y x<;>rfl
 apply UB (n+1503) (xs.map .str) y;unfold Gx;simp only[aa hi,bk,cb,aC];rw[<-List.findIdx?_isSome];cases xs.findIdx? fun x=>be y x with
 |none=>rfl
 |some j=>simp[sq,bW,aQ]
end
def Ti (c:CS)(i:Int)(a b:Bool):cw (cw c i a) i b=cw c i (a&&b):=by
 cases a
 ·cases b
  ·simp only[cw,Bool.false_and,Bool.false_eq_true,if_false,gw];by_cases h:c.er=0
   ·simp only[if_pos h];rfl
   ·simp only[if_neg h]
  ·rfl
 ·rfl
abbrev Sg:=LI×Int
def I_ (g:Sg):Da:= .agg [.slice 1 (g.1.map iE),.int .i64 g.2]
def P_ (s:LN):Option (List Sg):=
 bif be s [108,101,110]then some [([3],1),([4],1),([5],1)]else
 bif be s [97,116]then some [([4,1],1),([5,1],3)]else
 bif be s [97,112,112,101,110,100]then some [([4,1],4),([5,3],5)]else
 bif be s [115,101,116]then some [([4,1,1],4),([5,1,3],5)]else
 bif be s [115,116,114]then some [([1],3)]else none
def SX (ks:LI)(o:Option (List Sg)):Int×Int:=match o with
 |none=>(0,14)
 |some l=>match l.find? fun g=>decide (g.1=ks)with
  |some g=>(g.2,0)
  |none=>(0,15)
def iY (s:LN)(ks:LI):Int×Int:=
 bif be s [105,110,116,115]then(4,if(ks.all fun k=>az k 1)=true then 0 else 15)else
 bif be s [115,116,114,105,110,103,115]then(5,if(ks.all fun k=>az k 3)=true then 0 else 15)else SX ks (P_ s)
def wz (c:CS)(i e:Int):CS:=if e=0 then c else gw c i e
def Kn (c:CS)(i:Int)(b:Bool):wz c i (if b=true then 0 else 15)=cw c i b:=by cases b<;>rfl
def LB {n:Nat}(k0:hD->R)(i el kd:Int)(ks:LI)(hl:ks.length<1501):∀(d q j:Nat) (c:CS),j+d=ks.length->d<q->itL (ga (ct lay0.tab (n+2)) (n+2) k0) q (i,el,kd,ks.map iE,(ks.length:Int),(j:Int),c.k)=k0 (i,el,kd,ks.map iE,(ks.length:Int),(ks.length:Int),(cw c i ((ks.drop j).all fun k=>az k el)).k)
 |0,q+1,j,c,h,_=>by
  obtain rfl:j=ks.length:=by omega
  rw[nt];simp only[ga,cH,aR,List.drop_length,List.all_nil];rfl
 |d+1,q+1,j,c,h,hq=>by
  have hj:j<ks.length:=by omega
  rw[nt];have w:=fun b=>kh (n:=n) c i b
  simp only[ga,ej (show((j:Int)<(ks.length:Int)) by omega),aQ,aO,bi,aU hj,bo,dI,wS (show j<cr by unfold cr;omega),aa (w true),aa (w false),bt,aC,lC];rw[lχ hj,List.all_cons,<-Ti];rw[LB k0 i el kd ks hl d q (j+1) _ (by omega) (by omega),LB k0 i el kd ks hl d q (j+1) _ (by omega) (by omega)];cases az ks[j] el<;>rfl
def dSg (g:Sg)(K:bX->R):fe (I_ g) K=K ⟨g.1.map iE,g.2⟩:=rfl
def Ų {n:Nat}(c:CS)(i:Int)(ks:LI)(gs:List Sg)(hg:∀g∈gs,g.1.length<1501)(hl:gs.length<1501)(k0:Int×eM×bX->R)(k1:hH->R):itL (fq (ct lay0.tab (n+1503)) (n+1503) k0 k1) (n+1503) (i,ks.map iE,gs.map I_,(gs.length:Int),0,c.k)=match gs.find? fun g=>decide (g.1=ks)with
  |some g=>k0 (g.2,c.k,⟨g.1.map iE,g.2⟩)
  |none=>k1 (i,ks.map iE,gs.map I_,(gs.length:Int),(gs.length:Int),c.k):=by
 refine(bp gs (fun q j=>itL (fq _ (n+1503) k0 k1) q (i,ks.map iE,gs.map I_,(gs.length:Int),j,c.k)) (fun g=>decide (g.1=ks)) (fun j=>match gs[j]? with|some g=>k0 (g.2,c.k,⟨g.1.map iE,g.2⟩)|none=>none) (k1 (i,ks.map iE,gs.map I_,(gs.length:Int),(gs.length:Int),c.k)) (fun q j hj=>?_) (fun q=>?_) (by omega)).trans ?_
 ·rw[nt];simp only[fq,ej (show((j:Int)<(gs.length:Int)) by omega),aQ,aO,bi,aU hj,bo,dSg,wS (show j<cr by unfold cr;omega)];have e:=xG (n:=n) gs[j].1 ks (hg _ (lν hj));simp only[aa e,bk,aF,aX,lδ hj];exact fY _ _ _
 ·rw[nt];simp only[fq,cH,aR]
 ·rw[<-lU];cases h:gs.findIdx? (fun g=>decide (g.1=ks))with
  |none=>rfl
  |some j=>
   have hj:j<gs.length:=(mθ.1 h).1;simp only[lδ hj]
def Kx {n:Nat}:Ω (n+1) 187 [] []=some (ZF,[]):=Lg n _ rfl
def TD {n:Nat}(c:CS)(i:Int)(s:LN)(ks:LI)(hl:ks.length<1501):Ω (n+1504) 155 [.box 0 0,pI i,pS s,pL 1 (ks.map iE)] c.k.hp=some (pI (iY s ks).1,(wz c i (iY s ks).2).k.hp):=by
 apply Um (n+1503) c.k i s (ks.map iE);unfold Gi iY;have a1:=fun(el kd:Int) (k0:hD->R)=>LB (n:=n+1501) k0 i el kd ks hl ks.length (n+1503) 0 c (by omega) (by omega)
 simp only[List.drop_zero,Int.ofNat_zero,show((0:Nat):Int)=0 from rfl]at a1;have f14:=my (n:=n+1502) c i 14;have f15:=my (n:=n+1502) c i 15;have a2:=fun(gs:List Sg) (hg:∀g∈gs,g.1.length<1501) (hl:gs.length<1501)=>Ų (n:=n) c i ks gs hg hl
 have mw:∀(gs:List Sg) (hg:∀g∈gs,g.1.length<1501) (hl:gs.length<1501) (k1:hH->R),(∀x,k1 (i,ks.map iE,gs.map I_,x,x,c.k)=some (pI 0,(gw c i 15).k.hp))->itL (fq (ct lay0.tab (n+1503)) (n+1503) (fun(i60,u61,u62)=>some ((pI i60),u61.hp)) k1) (n+1503) (i,ks.map iE,gs.map I_,(gs.length:Int),0,c.k)=some (pI (SX ks (some gs)).1,(wz c i (SX ks (some gs)).2).k.hp):=by
  intro gs hg hl k1 hk;rw[a2 gs hg hl];unfold SX;simp only;cases gs.find? (fun g=>decide (g.1=ks))with
  |some g=>rfl
  |none=>exact hk _
 rw[lβ];cases h1:be s [105,110,116,115]
 ·simp only[aR,cond_false];cases h2:be s [115,116,114,105,110,103,115]
  ·simp only[aR,cond_false,aa (Kx (n:=n+1502)),ZF,iQ,aX];unfold P_;cases be s [108,101,110];rotate_left
   ·exact mw [([3],1),([4],1),([5],1)] (by decide) (by decide) _ fun x=>by simp only[aa f15,bt,aC,lC]
   cases be s [97,116];rotate_left
   ·exact mw [([4,1],1),([5,1],3)] (by decide) (by decide) _ fun x=>by simp only[aa f15,bt,aC,lC]
   cases be s [97,112,112,101,110,100];rotate_left
   ·exact mw [([4,1],4),([5,3],5)] (by decide) (by decide) _ fun x=>by simp only[aa f15,bt,aC,lC]
   cases be s [115,101,116];rotate_left
   ·exact mw [([4,1,1],4),([5,1,3],5)] (by decide) (by decide) _ fun x=>by simp only[aa f15,bt,aC,lC]
   cases be s [115,116,114];rotate_left
   ·exact mw [([1],3)] (by decide) (by decide) _ fun x=>by simp only[aa f15,bt,aC,lC]
   simp only[aR,cond_false,aa f14,bt,aC,lC];rfl
  ·simp only[aQ,cond_true,a1,Kn]
 ·have hs:s=[105,110,116,115]:=by rw[la]at h1;exact of_decide_eq_true h1
  subst hs;have h2:be [105,110,116,115] [115,116,114,105,110,103,115]=false:=rfl;simp only[aQ,cond_true,h2,aR,a1,Kn]
def yS (c:CS)(i:Int)(x:No)(ks:LI):Option (Int×CS):=
 if x.op=1 then some (x.v.k,c)else
 if x.op=3 then some (3,c)else
 if x.op=2 then some ((mq c i x.name).1.kind,(mq c i x.name).2)else
 if x.op=4 then(match ks with
  |[]=>none
  |k::_=>some (bif be x.name [33]then 2 else 1,cw c i (az k (bif be x.name [33]then 2 else 1))))else
 if x.op=5 then(match ks with
  |k::k'::_=>some ((Ds x.name k k').1,cw c i (Ds x.name k k').2)
  |_=>none)else
 some ((iY x.name ks).1,wz c i (iY x.name ks).2)
def Au {n:Nat}(c c':CS)(i k:Int)(x:No)(ks:LI)(h:yS c i x ks=some (k,c'))(hl:ks.length<1501):Ω (n+1505) 105 [.box 0 0,pI i,.p x.e,pL 1 (ks.map iE)] c.k.hp=some (pI k,c'.k.hp):=by
 apply AD (n+1504) c.k i x.r (ks.map iE);unfold yS at h;unfold pN;have hop:x.r.Op=x.op:=rfl;have hnm:x.r.Name=x.name:=rfl;simp only[bE,fT,hop,hnm];by_cases h1:x.op=1
 ·rw[if_pos h1]at h ⊢
  simp only[lα,lζ]at h;obtain⟨rfl,rfl⟩:=h;rfl
 rw[if_neg h1]at h ⊢
 by_cases h3:x.op=3
 ·rw[if_pos h3]at h ⊢
  simp only[lα,lζ]at h;obtain⟨rfl,rfl⟩:=h;rfl
 rw[if_neg h3]at h ⊢
 by_cases h2:x.op=2
 ·rw[if_pos h2]at h ⊢
  simp only[lα,lζ]at h;obtain⟨rfl,rfl⟩:=h;have u:=Ky (n:=n+1502) c i x.name;simp only[aa u,bk,Ĵ,lC];rfl
 rw[if_neg h2]at h ⊢
 by_cases h4:x.op=4
 ·rw[if_pos h4]at h ⊢
  cases ks with
  |nil=>cases h
  |cons k0 r=>
   simp only[lα,lζ]at h;obtain⟨rfl,rfl⟩:=h;have at0:bA ((k0::r).map iE) 0=some (iE k0):=rfl;have w:=fun b=>kh (n:=n+1502) c i b
   simp only[at0,bo,dI,aa (w true),aa (w false),bt,aC,lC,bE];cases be x.name [33]
   ·simp only[aR,cond_false];by_cases hk:k0=1
    ·rw[if_pos hk,mη hk]
    ·rw[if_neg hk,mε hk]
   ·simp only[aQ,cond_true];by_cases hk:k0=2
    ·rw[if_pos hk,mη hk]
    ·rw[if_neg hk,mε hk]
 rw[if_neg h4]at h ⊢
 by_cases h5:x.op=5
 ·rw[if_pos h5]at h ⊢
  match ks,h with
  |k0::k1::r,h=>
   simp only[lα,lζ]at h;obtain⟨rfl,rfl⟩:=h;have at0:bA ((k0::k1::r).map iE) 0=some (iE k0):=rfl;have at1:bA ((k0::k1::r).map iE) 1=some (iE k1):=rfl;have b:=P4 (n:=n+1501) c i x.name k0 k1;simp only[at0,at1,bo,dI,aa b,bk,cb,lC]
 rw[if_neg h5]at h ⊢
 simp only[lα,lζ]at h;obtain⟨rfl,rfl⟩:=h;have a:=TD (n:=n) c i x.name ks hl;simp only[aa a,bk,cb,lC]
def vI (c:CS)(i:Int)(x:No)(ks:LI):Option CS:=
 if x.op=8 then(match ks with
  |[]=>none
  |k::_=>AX c i x k)else
 if x.op=9 then(match ks with
  |[]=>none
  |k::_=>some (cw (mq c i x.name).2 i (decide ((mq c i x.name).1.kind=k))))else
 if x.op=11\/x.op=12 then(match ks with
  |[]=>none
  |k::_=>some (cw c i (decide (k=2))))else
 if x.op=13 then(match ks with
  |[]=>some (cw c i (false==!decide (c.re=0)))
  |k::_=>some (cw (cw c i (true==!decide (c.re=0))) i (decide (k=c.re))))else
 if x.op=15 then some (cw c i (decide (ks=[3,1])))else
 if x.op=16 then some (cw c i (decide (ks=[3,1,1])))else
 if x.op=17 then(match ks with
  |[]=>none
  |k::_=>some (cw c i (decide (k=3))))else some c
def ğ (c:CS)(i:Int)(b:Bool):(cw c i b).re=c.re:=by
 unfold cw gw;split<;>(try rfl);split<;>rfl
def CW {n:Nat}(c c':CS)(i:Int)(x:No)(ks:LI)(h:vI c i x ks=some c')(hl:ks.length<1501):Ω (n+1505) 106 [.box 0 0,pI i,.p x.e,pL 1 (ks.map iE)] c.k.hp=some (.tup [],c'.k.hp):=by
 apply Df (n+1504) c.k i x.r (ks.map iE);unfold vI at h;unfold q9;have hop:x.r.Op=x.op:=rfl;have hnm:x.r.Name=x.name:=rfl;have w:=fun(c:CS) b=>kh (n:=n+1502) c i b
 have at0:∀k r,bA ((k::r:LI).map iE) 0=some (iE k):=fun k r=>rfl
 have hre:c.k.re=c.re:=rfl;simp only[bE,fT,hop,hnm];by_cases h8:x.op=8
 ·rw[if_pos h8]at h ⊢
  cases ks with
  |nil=>cases h
  |cons k r=>
   have e:=œ (n:=n+1501) c c' i x k h;simp only[No.e]at e;simp only[at0,bo,dI,aa e,bt,aC,lC]
 rw[if_neg h8]at h ⊢
 by_cases h9:x.op=9
 ·rw[if_pos h9]at h ⊢
  cases ks with
  |nil=>cases h
  |cons k r=>
   simp only[lα]at h;subst h;have u:=Ky (n:=n+1502) c i x.name;simp only[at0,bo,dI,aa u,bk,Ĵ,lC,aa (w _ _),bt,aC,Vr.r];rfl
 rw[if_neg h9]at h ⊢
 have t48:∀ys:LI,Ω (n+1504) 137 [pL 1 (ks.map iE),pL 1 (ys.map iE)] []=some (pB (decide (ks=ys)),[]):=fun ys=>xG (n:=n+1) ks ys hl
 have t2:=t48 [3,1];have t3:=t48 [3,1,1];simp only[List.map_cons,List.map_nil,iE]at t2 t3;by_cases h11:x.op=11
 ·rw[if_pos (.inl h11)]at h;rw[if_pos h11,if_pos h11];cases ks with
  |nil=>cases h
  |cons k r=>
   simp only[lα]at h;subst h;simp only[at0,bo,dI,aa (w _ _),bt,aC,lC]
 rw[if_neg h11];by_cases h12:x.op=12
 ·rw[if_pos (.inr h12)]at h;rw[if_pos h12];cases ks with
  |nil=>cases h
  |cons k r=>
   simp only[lα]at h;subst h;simp only[at0,bo,dI,aa (w _ _),bt,aC,lC]
 rw[if_neg (by rintro(h|h)<;>contradiction)]at h;rw[if_neg h12];by_cases h13:x.op=13
 ·rw[if_pos h13]at h ⊢
  cases ks with
  |nil=>
   simp only[lα]at h;subst h;have e0:(aP 0 (↑(List.map iE ([]:LI)).length)==!decide (c.k.re=0))=(false==!decide (c.re=0)):=rfl;simp only[e0,aa (w _ _),bt,aC,lC];rw[if_pos (by simp)];rfl
  |cons k r=>
   simp only[lα]at h;subst h;have e0:aP 0 (↑(List.map iE (k::r)).length)=true:=by rw[dJ];simp
   simp only[e0,hre,aa (w _ _),bt,aC,lC];rw[if_neg (by simp;omega)];simp only[at0,bo,dI];have e1:(cw c i (true==!decide (c.re=0))).k.re=c.re:=ğ c i _;rw[e1]
 rw[if_neg h13]at h ⊢
 by_cases h15:x.op=15
 ·rw[if_pos h15]at h ⊢
  simp only[lα]at h;subst h;simp only[aa t2,bk,aF,aX,aa (w _ _),bt,aC,lC]
 rw[if_neg h15]at h ⊢
 by_cases h16:x.op=16
 ·rw[if_pos h16]at h ⊢
  simp only[lα]at h;subst h;simp only[aa t3,bk,aF,aX,aa (w _ _),bt,aC,lC]
 rw[if_neg h16]at h ⊢
 by_cases h17:x.op=17
 ·rw[if_pos h17]at h ⊢
  cases ks with
  |nil=>cases h
  |cons k r=>
   simp only[lα]at h;subst h;simp only[at0,bo,dI,aa (w _ _),bt,aC,lC]
 rw[if_neg h17]at h ⊢
 simp only[lα]at h;subst h;rfl
def k9:Nat->List No->Int->Bool
 |0,_,_=>false
 |f+1,ns,i=>match dL ns i with
  |none=>false
  |some x=>
   if x.op=13 then true else if x.op=14 then true else
   if x.op=11 then(decide (x.kids.length=3)&&((match x.kids[1]? with|some k=>decide (k<i)&&k9 f ns k|none=>false)&&(match x.kids[2]? with|some k=>decide (k<i)&&k9 f ns k|none=>false)))else
   if x.op=18 then(match x.kids.getLast? with|some k=>decide (k<i)&&k9 f ns k|none=>false)else false
def Vt {l:List α}{i:Int}(h:i<0\/(l.length:Int)<=i):dL l i=none:=by
 unfold dL;by_cases h0:0<=i
 ·rw[if_pos h0,lπ (by omega)]
 ·rw[if_neg h0]
def dV {l:List α}{i:Int}{x:α}(h:dL l i=some x):∃j:Nat,∃hj:j<l.length,i=(j:Int)/\l[j]=x:=by
 unfold dL at h;by_cases h0:0<=i
 ·rw[if_pos h0]at h;have hj:i.toNat<l.length:=by
   rcases mα i.toNat l.length with h1|h1
   ·exact h1
   ·rw[lπ h1]at h;cases h
  rw[lδ hj]at h;exact⟨i.toNat,hj,by omega,by simpa using h⟩
 ·rw[if_neg h0]at h;cases h
variable {f:Nat} {ns:List No}
def B9 {i:Int}(h:dL ns i=none):k9 f ns i=false:=by
 cases f with
 |zero=>rfl
 |succ f=>simp only[k9,h]
def TY {n:Nat}(he:∀k:Int,k<f->Ω n 148 [pL 8 (ns.map No.e),pI k] []=some (pB (k9 f ns k),[]))(x:No)(j:Int)(i:Int){k:Int}(hk:dL x.kids j=some k)(hi:i<=f):Ω (n+1) 183 [pI j,.box 0 0,.box 1 0,.box 2 0] [x.r.b,.box [pI i],.box [pL 8 (ns.map No.e)]]=some (pB (decide (k<i)&&k9 f ns k),[x.r.b,.box [pI i],.box [pL 8 (ns.map No.e)]]):=by
 apply UJ n x.r j i (ns.map No.e);unfold GF;have hk':bA x.r.Kids j=some (iE k):=by
  show bA (x.kids.map iE) j=_;rw[aO,hk];rfl
 simp only[hk',bo,dI,dJ,fT];by_cases hlt:k<i
 ·rw[if_pos hlt,mη hlt];simp only[aa (he k (by omega)),bk,aF,aC,Bool.true_and];cases k9 f ns k<;>rfl
 ·rw[if_neg hlt,mε hlt];rfl
def ñ (l:LI){r:LI}(h:l=a::r):dL l (((l.length:Int)) - 1)=l.getLast?/\aq .i64 ((l.length:Int) - 1)=(l.length:Int) - 1\/1000000000<=l.length:=by
 by_cases hb:1000000000<=l.length
 ·exact .inr hb
 ·left;have hl:0<l.length:=by rw[h];simp
  refine⟨?_,gU (by omega) (by omega)⟩;have:((l.length:Int) - 1)=((l.length - 1:Nat):Int):=by omega
  rw[this,cd,List.getLast?_eq_getElem?]
def C4:∀(f:Nat) (n:Nat) (ns:List No) (i:Int),i<f->(∀x∈ns,x.kids.length<1501)->Ω (n+2*f+1) 148 [pL 8 (ns.map No.e),pI i] []=some (pB (k9 f ns i),[])
 |0,n,ns,i,hi,hb=>by
  apply Dl _ (ns.map No.e) i;unfold wY;rw[ej (by omega:i<0)];rfl
 |f+1,n,ns,i,hi,hb=>by
  have he:=fun k hk=>C4 f n ns k hk hb
  have key:=fun x j k hk=>TY he x j i (k:=k) hk (by omega)
  rw[show n+2*(f+1)+1=n+2*f+1+1+1 by omega];apply Dl _ (ns.map No.e) i;unfold wY;cases ha:dL ns i with
  |none=>
   rw[B9 ha,dJ,fT,bW,fT];by_cases h0:i<0
   ·rw[if_pos h0]
   ·rw[if_neg h0];by_cases h1:(((ns.map No.e).length:Int))<=i
    ·rw[if_pos h1]
    ·exfalso;rw[lβ]at h1;have hj:i.toNat<ns.length:=by omega
     have:i=(i.toNat:Int):=by omega
     rw[this,aU hj]at ha;cases ha
  |some x=>
   obtain⟨j,hj,rfl,hx⟩:=dV ha;rw[wI (by omega),aR,bW,lβ,mε (by omega),aR,aO,ha];have hxb:x.kids.length<1501:=hb x (hx▸lν hj);simp only[Option.map_some,bo,HZ,k9,ha,bE,fT];have hop:x.r.Op=x.op:=rfl;simp only[hop];by_cases h13:x.op=13
   ·rw[if_pos h13,if_pos h13]
   rw[if_neg h13,if_neg h13];by_cases h14:x.op=14
   ·rw[if_pos h14,if_pos h14]
   rw[if_neg h14,if_neg h14];by_cases h11:x.op=11
   ·rw[if_pos h11,if_pos h11];have hlk:(x.r.Kids.length:Int)=(x.kids.length:Int):=by
     show((x.kids.map iE).length:Int)=_;rw[lβ]
    rw[hlk];by_cases h3:x.kids.length=3
    ·rw[if_pos (by omega),mη h3,Bool.true_and];have e1:x.kids[1]?=some x.kids[1]:=lδ (by omega);have e2:x.kids[2]?=some x.kids[2]:=lδ (by omega);have k1:=key x 1 x.kids[1] (aU (j:=1) (by omega));have k2:=key x 2 x.kids[2] (aU (j:=2) (by omega));simp only[aa k1,aa k2,bk,aF,aX,e1,e2];cases(decide (x.kids[1]<(j:Int))&&k9 f ns x.kids[1])<;>cases(decide (x.kids[2]<(j:Int))&&k9 f ns x.kids[2])<;>rfl
    ·rw[if_neg (by omega),mε h3,Bool.false_and]
   rw[if_neg h11,if_neg h11];by_cases h18:x.op=18
   ·rw[if_pos h18,if_pos h18];have hlk:(x.r.Kids.length:Int)=(x.kids.length:Int):=by
     show((x.kids.map iE).length:Int)=_;rw[lβ]
    rw[hlk];cases hk:x.kids with
    |nil=>rw[wI (by simp)];rfl
    |cons a r=>
     rw[<-hk];rcases ñ x.kids hk with⟨l1,l2⟩|l3
     ·rw[ej (by rw[hk];simp),aQ,l2];cases hg:x.kids.getLast? with
      |none=>rw[hk]at hg;simp at hg
      |some k=>
       have k1:=key x ((x.kids.length:Int) - 1) k (by rw[l1,hg]);simp only[aa k1,bk,aF,aX];cases(decide (k<(j:Int))&&k9 f ns k)<;>rfl
     ·omega
   rw[if_neg h18,if_neg h18]
def vq (ns:List No)(i:Int):Bool:=k9 1501 ns i
def ep (v:CS->Int->Option (Int×CS)):CS->LI->Option (LI×CS)
 |c,[]=>some ([],c)
 |c,k::r=>match v c k with
  |none=>none
  |some (x,c1)=>match ep v c1 r with
   |none=>none
   |some (xs,c2)=>some (x::xs,c2)
def lz (v:CS->Int->Bool->Option (Int×CS)):CS->LI->Bool->Option CS
 |c,[],_=>some c
 |c,k::r,d=>match v c k d with
  |none=>none
  |some (_,c1)=>lz v c1 r (d||vq c1.ns k)
def SF (c:CS)(i:Int)(x:No)(ks:LI):Option (Int×CS):=
 if x.op=7 then RA c i x ks else if x.op<=6 then yS c i x ks else match vI c i x ks with
  |some c=>some (0,c)
  |none=>none
def eP (c:CS)(i:Int)(x:No)(k:Int):CS:=if x.op<=7 then {c with ki:=A4 c.ki i k}else c
def lA (v:CS->Int->Bool->Option (Int×CS))(c:CS)(i:Int)(x:No):Option CS:=match lz v c x.kids false with
 |none=>none
 |some c1=>some (if i=(c1.ns.length:Int) - 1 then cw {c1 with sc:=c.sc} i (decide (c1.re=0)||vq c1.ns i)else {c1 with sc:=c.sc})
def eE:Nat->CS->Int->Bool->Option (Int×CS)
 |0,_,_,_=>none
 |f+1,c,i,d=>match dL c.ns i with
  |none=>none
  |some x=>
   if x.op=18 then(match lA (eE f) c i x with
    |none=>none
    |some c1=>some (0,c1))
   else match ep (fun c k=>eE f c k false) c x.kids with
    |none=>none
    |some (ks,c1)=>if c1.er=0 then(match SF c1 i x ks with
     |none=>none
     |some (k,c2)=>some (k,eP (cw c2 i (!d)) i x k))else some (0,c1)
structure fh (c c':CS):Prop where
 pr:c'.pr=c.pr
 ns:c'.ns=c.ns
 re:c'.re=c.re
 fs:c'.fs=c.fs
def fh.refl (c:CS):fh c c:=⟨rfl,rfl,rfl,rfl⟩
def fh.trans {a b c:CS}(h:fh a b)(k:fh b c):fh a c:=⟨k.pr.trans h.pr,k.ns.trans h.ns,k.re.trans h.re,k.fs.trans h.fs⟩
def jI (c:CS)(i e:Int):fh c (gw c i e):=by unfold gw;split<;>exact⟨rfl,rfl,rfl,rfl⟩
def fO (c:CS)(i:Int)(b:Bool):fh c (cw c i b):=by
 unfold cw;split
 ·exact fh.refl c
 ·exact jI _ _ _
def Ai (c:CS)(i:Int)(s:LN):fh c (mq c i s).2:=by
 unfold mq;split
 ·exact⟨rfl,rfl,rfl,rfl⟩
 ·exact jI _ _ _
variable {c':CS}
def uy {c:CS}{s:LN}{k:Int}(h:jU c s k=some c'):fh c c':=by
 unfold jU at h;split at h
 ·simp only[lα]at h;subst h;exact⟨rfl,rfl,rfl,rfl⟩
 ·cases h
def So (c:CS)(i:Int)(x:No):fh c (qP c i x):=by
 unfold qP;split
 ·exact jI _ _ _
 split
 ·exact jI _ _ _
 ·exact fh.refl _
variable {x:No}
def Xs {c:CS}{i k:Int}(h:AX c i x k=some c'):fh c c':=by
 unfold AX at h;split at h
 ·rename_i c3 h3;simp only[lα]at h;subst h;exact(So _ _ _).trans ((fO _ _ _).trans ((uy h3).trans (Ai _ _ _)))
 ·cases h
def WO (c:CS)(i e:Int):fh c (wz c i e):=by
 unfold wz;split
 ·exact fh.refl c
 ·exact jI _ _ _
def Ĉ {c:CS}{i k:Int}{ks:LI}(h:SF c i x ks=some (k,c')):fh c c':=by
 unfold SF at h;split at h
 ·unfold RA at h;split at h
  ·simp only[lα,lζ]at h;rw[<-h.2];exact jI _ _ _
  ·split at h
   ·cases h
   ·simp only[lα,lζ]at h;rw[<-h.2];exact fO _ _ _
 ·split at h
  ·unfold yS at h;repeat' split at h
   all_goals first
    |(cases h;done)
    |(
      simp only[lα,lζ]at h;rw[<-h.2];first|exact fh.refl _|exact Ai _ _ _|exact fO _ _ _|exact WO _ _ _)
  ·split at h
   ·rename_i c1 hs;simp only[lα,lζ]at h;rw[<-h.2];unfold vI at hs;repeat' split at hs
    all_goals first
     |(cases hs;done)
     |exact Xs hs
     |(
       simp only[lα]at hs;rw[<-hs];first|exact fh.refl _|exact fO _ _ _|exact(Ai _ _ _).trans (fO _ _ _)|exact(fO _ _ _).trans (fO _ _ _))
   ·cases h
def Sv (c:CS)(i:Int)(x:No)(k:Int):fh c (eP c i x k):=by unfold eP;split<;>exact⟨rfl,rfl,rfl,rfl⟩
def uJ {v:CS->Int->Option (Int×CS)}(hv:∀c k r,v c k=some r->fh c r.2):∀(l:LI) (c:CS) {r:LI×CS},ep v c l=some r->fh c r.2
 |[],c,r,h=>by simp only[ep,lα]at h;rw[<-h];exact fh.refl _
 |k::l,c,r,h=>by
  simp only[ep]at h;split at h
  ·cases h
  ·rename_i x c1 h1;split at h
   ·cases h
   ·rename_i xs c2 h2;simp only[lα]at h;rw[<-h];have a:=hv _ _ _ h1;have b:=uJ hv l c1 h2;exact a.trans b
def yz {v:CS->Int->Bool->Option (Int×CS)}(hv:∀c k d r,v c k d=some r->fh c r.2):∀(l:LI) (c:CS) (d:Bool) {r:CS},lz v c l d=some r->fh c r
 |[],c,d,r,h=>by simp only[lz,lα]at h;rw[<-h];exact fh.refl _
 |k::l,c,d,r,h=>by
  simp only[lz]at h;split at h
  ·cases h
  ·rename_i x c1 h1;exact(hv _ _ _ _ h1).trans (yz hv l c1 _ h)
def LG {v:CS->Int->Bool->Option (Int×CS)}(hv:∀c k d r,v c k d=some r->fh c r.2){c:CS}{i:Int}{r:CS}(h:lA v c i x=some r):fh c r:=by
 unfold lA at h;split at h
 ·cases h
 ·rename_i c1 h1;simp only[lα]at h;have h2:=yz hv _ _ _ h1;have h3:fh c {c1 with sc:=c.sc}:=⟨h2.pr,h2.ns,h2.re,h2.fs⟩;rw[<-h];split
  ·exact h3.trans (fO _ _ _)
  ·exact h3
def eT:∀(f:Nat) (c:CS) (i:Int) (d:Bool) (r:Int×CS),eE f c i d=some r->fh c r.2
 |0,c,i,d,r,h=>by simp only[eE]at h;cases h
 |f+1,c,i,d,r,h=>by
  simp only[eE]at h;split at h
  ·cases h
  ·split at h
   ·split at h
    ·cases h
    ·rename_i c1 h1;simp only[lα]at h;rw[<-h];exact LG (eT f) h1
   ·split at h
    ·cases h
    ·rename_i ks c1 h1;have s1:=uJ (fun c k r=>eT f c k false r) _ _ h1;split at h
     ·split at h
      ·cases h
      ·rename_i k c2 h2;simp only[lα]at h;rw[<-h];exact s1.trans ((Ĉ h2).trans ((fO _ _ _).trans (Sv _ _ _ _)))
     ·simp only[lα]at h;rw[<-h];exact s1
structure Sz (c:CS):Prop where
 pr:c.pr.length<1501
 me:∀a∈c.pr,a.methods.length<1501
 ns:c.ns.length<1501
 ks:∀x∈c.ns,x.kids.length<1501
def Sz.of {c:CS}(h:Sz c)(s:fh c c'):Sz c':=⟨s.pr▸h.pr,s.pr▸h.me,s.ns▸h.ns,s.ns▸h.ks⟩
def Oc (v:CS->Int->Bool->Option (Int×CS))(m:Nat):Prop:=∀(c:CS) (i:Int) (d:Bool) (k:Int) (c':CS),v c i d=some (k,c')->Sz c->Ω m 72 [.box 0 0,pI i,pB d] c.k.hp=some (pI k,c'.k.hp)
def Cp {v:CS->Int->Bool->Option (Int×CS)}{m:Nat}(hs:∀c k d r,v c k d=some r->fh c r.2)(hv:Oc v m)(k0:Int×Bool×Nat×LD×Int×Int×Bool×eM×af×LD->R)(i:Int)(d:Bool)(l:LI)(x:af)(hl:l.length<1501):∀(e q j:Nat) (c:CS) (acc ks:LI) (c':CS),j+e=l.length->e<q->acc.length=j->ep (fun c k=>v c k false) c (l.drop j)=some (ks,c')->Sz c->
  itL (mH (ct lay0.tab m) m k0) q (i,d,acc.length,l.map iE,(l.length:Int),(j:Int),c.k,x,acc.map iE)=k0 (i,d,(acc++ks).length,l.map iE,(l.length:Int),(l.length:Int),false,c'.k,x,(acc++ks).map iE)
 |0,q+1,j,c,acc,ks,c',h,_,ha,hk,hz=>by
  obtain rfl:j=l.length:=by omega
  rw[List.drop_length]at hk;simp only[ep,lα,lζ]at hk;obtain⟨rfl,rfl⟩:=hk;rw[nt];simp only[mH,cH,aR,mξ]
 |e+1,q+1,j,c,acc,ks,c',h,hq,ha,hk,hz=>by
  have hj:j<l.length:=by omega
  rw[lχ hj]at hk;simp only[ep]at hk;split at hk
  ·cases hk
  ·rename_i y c1 h1;split at hk
   ·cases hk
   ·rename_i ys c2 h2;simp only[lα,lζ]at hk;obtain⟨rfl,rfl⟩:=hk;rw[nt];have hc:=hv _ _ _ _ _ h1 hz;have hlen:Nat.beq acc.length (acc.map iE).length=true:=by simp
    have hbig:ce ((acc.map iE).length+[Da.int .i64 y].length) 8=true:=w8 (by simp;omega) (by decide);simp only[mH,ej (show((j:Int)<(l.length:Int)) by omega),aQ,aO,bi,aU hj,bo,dI,wS (show j<cr by unfold cr;omega),aa hc,bk,cb,lC,hlen,hbig];have e1:acc.map iE++[Da.int .i64 y]=(acc++[y]).map iE:=by simp[iE]
    rw[e1,lβ];have:=Cp hs hv k0 i d l x hl e q (j+1) c1 (acc++[y]) ys c2 (by omega) (by omega) (by simp;omega) h2 (hz.of (hs _ _ _ _ h1));rw[this];simp only[mπ,List.cons_append,List.nil_append]
def HM {v:CS->Int->Bool->Option (Int×CS)}{m:Nat}(hs:∀c k d r,v c k d=some r->fh c r.2)(hv:Oc v m)(hm:3003<=m)(i:Int)(l:LI)(sk sv:LD)(hl:l.length<1501):∀(e q j:Nat) (c:CS) (d:Bool) (c':CS),j+e=l.length->e<q->lz v c (l.drop j) d=some c'->Sz c->
  ∃d',∀k0:hO->R,itL (mG (ct lay0.tab m) m k0) q (i,d,l.map iE,(l.length:Int),(j:Int),c.k,sk,sv)=k0 (i,d',l.map iE,(l.length:Int),(l.length:Int),c'.k,sk,sv)
 |0,q+1,j,c,d,c',h,_,hk,hz=>by
  obtain rfl:j=l.length:=by omega
  rw[List.drop_length]at hk;simp only[lz,lα]at hk;subst hk;refine⟨d,fun k0=>?_⟩
  rw[nt];simp only[mG,cH,aR]
 |e+1,q+1,j,c,d,c',h,hq,hk,hz=>by
  have hj:j<l.length:=by omega
  rw[lχ hj]at hk;simp only[lz]at hk;split at hk
  ·cases hk
  ·rename_i y c1 h1;have hc:=hv _ _ _ _ _ h1 hz;have hz1:Sz c1:=hz.of (hs _ _ _ _ h1);obtain⟨d',ih⟩:=HM hs hv hm i l sk sv hl e q (j+1) c1 _ c' (by omega) (by omega) hk hz1;refine⟨d',fun k0=>?_⟩
   rw[<-ih k0,nt];have hen:Ω m 148 [pL 8 c1.k.ns,pI l[j]] []=some (pB (vq c1.ns l[j]),[]):=by
    by_cases hlt:l[j]<(1501:Nat)
    ·obtain⟨m',rfl⟩:∃m',m=m'+2*1501+1:=⟨m - 3003,by omega⟩
     exact C4 1501 m' c1.ns l[j] hlt hz1.ks
    ·have hn:dL c1.ns l[j]=none:=Vt (.inr (by have:=hz1.ns;omega));obtain⟨m',rfl⟩:∃m',m=m'+1:=⟨m - 1,by omega⟩
     unfold vq;rw[B9 hn];apply Dl m' (c1.ns.map No.e) l[j];unfold wY;rw[wI (by omega),aR,bW,lβ,mη (by have:=hz1.ns;omega),aQ]
   simp only[mG,ej (show((j:Int)<(l.length:Int)) by omega),aQ,aO,bi,aU hj,bo,dI,wS (show j<cr by unfold cr;omega)];cases d
   ·simp only[aR,aa hc,bk,cb,lC,aa hen,aF,aC,Bool.false_or];cases vq c1.ns l[j]<;>rfl
   ·simp only[aQ,aa hc,bk,cb,lC,Bool.true_or]
def TE {v:CS->Int->Bool->Option (Int×CS)}{m:Nat}(hs:∀c k d r,v c k d=some r->fh c r.2)(hv:Oc v m)(hm:3012<=m)(c c':CS)(i:Int)(x:No)(hl:x.kids.length<1501)(h:lA v c i x=some c')(hz:Sz c)(hi:i<1501):Ω (m+1) 103 [.box 0 0,pI i,.p x.e] c.k.hp=some (.tup [],c'.k.hp):=by
 apply Un m c.k i x.r;unfold Gj;unfold lA at h;split at h
 ·cases h
 ·rename_i c1 h1;simp only[lα]at h;obtain⟨m1,rfl⟩:∃m1,m=m1+1:=⟨m - 1,by omega⟩
  have hcl:Ω (m1+1) 147 [.map 0] [.map c.k.sk c.k.sv]=some (.map 1,[.map c.k.sk c.k.sv,.map c.k.sk c.k.sv]):=Uu m1 _ _ _ rfl;simp only[aa hcl];have hz1:=hz.of (yz hs _ _ _ h1);obtain⟨d',hloop⟩:=HM hs hv (by omega) i x.kids c.k.sk c.k.sv hl x.kids.length (m1+1) 0 c false c1 (by omega) (by omega) (by rw[List.drop_zero];exact h1) hz;have hlk:(List.length x.r.Kids:Int)=x.kids.length:=by show((x.kids.map iE).length:Int)=_;rw[lβ]
  have hgen:∀k0:hO->R,(dMp 1 (.map 1)<|aW [(.map c.k.sk c.k.sv),(.map c.k.sk c.k.sv)] [(.map c.k.sk c.k.sv),(.map c.k.sk c.k.sv)]<|itL (mG (ct lay0.tab (m1+1)) (m1+1) k0) (m1+1) (i,false,x.r.Kids,(x.r.Kids.length:Int),0,c.k,c.k.sk,c.k.sv))=k0 (i,d',x.kids.map iE,(x.kids.length:Int),(x.kids.length:Int),c1.k,c.k.sk,c.k.sv):=fun k0=>by
   rw[aX,hlk];exact hloop k0
  rw[hgen]
  ·show(iL (az i (aq .i64 (↑(List.length c1.k.ns) - 1)))
    (iL (az c1.k.re 0)
     (ct lay0.tab (m1+1) 107 [.box 0 0,pI i,pB true] ({c1 with sc:=c.sc}:CS).k.hp fun d o=>ba d fun r=>aj r<|aK o fun u=>some (.tup [],u.hp))
     (ct lay0.tab (m1+1) 148 [pL 8 c1.k.ns,pI i] [] fun d o=>dP d fun x=>aB x fun b=>aj o<|iL b
      (ct lay0.tab (m1+1) 107 [.box 0 0,pI i,pB true] ({c1 with sc:=c.sc}:CS).k.hp fun d o=>ba d fun r=>aj r<|aK o fun u=>some (.tup [],u.hp))
      (ct lay0.tab (m1+1) 107 [.box 0 0,pI i,pB false] ({c1 with sc:=c.sc}:CS).k.hp fun d o=>ba d fun r=>aj r<|aK o fun u=>some (.tup [],u.hp))))
    (some (.tup [],({c1 with sc:=c.sc}:CS).k.hp)))=_
   have e2:aq .i64 (↑(List.length c1.k.ns) - 1)=(c1.ns.length:Int) - 1:=by
    have:(List.length c1.k.ns:Int)=c1.ns.length:=by show((c1.ns.map No.e).length:Int)=_;rw[lβ]
    rw[this];have:=hz1.ns;exact gU (by omega) (by omega)
   have e3:c1.k.re=c1.re:=rfl;simp only[e2,e3,bE,fT];subst h;by_cases hr:i=(c1.ns.length:Int) - 1
   ·rw[if_pos hr,if_pos hr];obtain⟨m2,rfl⟩:∃m2,m1=m2+1:=⟨m1 - 1,by omega⟩
    have w:=fun b=>kh (n:=m2) ({c1 with sc:=c.sc}:CS) i b
    simp only[aa (w true),aa (w false),bt,aC,lC];have hen:Ω (m2+1+1) 148 [pL 8 c1.k.ns,pI i] []=some (pB (vq c1.ns i),[]):=by
     obtain⟨m',hm'⟩:∃m',m2+1+1=m'+2*1501+1:=⟨m2+2 - 3003,by omega⟩
     rw[hm'];exact C4 1501 m' c1.ns i (by omega) hz1.ks
    simp only[aa hen,bk,aF,aC];by_cases h0:c1.re=0
    ·rw[if_pos h0,mη h0];rfl
    ·rw[if_neg h0,mε h0];cases vq c1.ns i<;>rfl
   ·rw[if_neg hr,if_neg hr]
def zh {v:CS->Int->Option (Int×CS)}:∀(l:LI) (c:CS) {ks:LI} {c':CS},ep v c l=some (ks,c')->ks.length=l.length
 |[],c,ks,c',h=>by simp only[ep,lα,lζ]at h;rw[<-h.1]
 |k::l,c,ks,c',h=>by
  simp only[ep]at h;split at h
  ·cases h
  ·split at h
   ·cases h
   ·rename_i xs c2 h2;simp only[lα,lζ]at h;rw[<-h.1];have:=zh l _ h2;simp[this]
def Yx {m:Nat}(c:CS)(i k:Int)(d:Bool)(x:No):(ct lay0.tab (m+2) 107 [.box 0 0,pI i,pB (!d)] c.k.hp fun d1 o=>ba d1 fun r=>aj r<|aK o fun u=>
  iL (bw x.r.Op 7)
   (cL (bN (TypeDesc.int .i64) (Da.int .i64 i) u.kk 0) fun y=>fC y
    (some ((pI k),({u with kk:=(u.kk++[Da.int .i64 i]),kv:=(u.kv++[Da.int .i64 k])}:eM).hp)) fun n=>
    some ((pI k),({u with kv:=(List.set u.kv n (Da.int .i64 k))}:eM).hp))
   (some ((pI k),u.hp)))=some (pI k,(eP (cw c i (!d)) i x k).k.hp):=by
 simp only[aa (kh (n:=m) c i (!d)),bt,aC,lC,bW,fT];unfold eP;have hop:x.r.Op=x.op:=rfl;rw[hop];by_cases h:x.op<=7
 ·rw[if_pos h,if_pos h];generalize cw c i (!d)=c1;exact upI c1.ki i (fun k=>Da.int .i64 k) k fun a b=>some (pI k,eM.hp {c1.k with kk:=a,kv:=b})
 ·rw[if_neg h,if_neg h]
def ND:∀(f n:Nat),Oc (eE f) (n+3*f+4503)
 |0,n,c,i,d,k,c',h,hz=>by simp only[eE]at h;cases h
 |f+1,n,c,i,d,k,c',h,hz=>by
  rw[show n+3*(f+1)+4503=(n+3*f+4505)+1 by omega];apply Up _ c.k i d;unfold Gl;simp only[eE]at h;split at h
  ·cases h
  ·rename_i x hx;obtain⟨j,hj,rfl,hxj⟩:=dV hx;have hxb:x.kids.length<1501:=hz.ks x (hxj▸lν hj);have hat:bA c.k.ns (j:Int)=some x.e:=by
    show bA (c.ns.map No.e) (j:Int)=_;rw[aO,hx];rfl
   rw[hat];have hop:x.r.Op=x.op:=rfl;simp only[bo,HZ,hop,bE,fT];split at h
   ·rename_i h18;rw[if_pos h18];split at h
    ·cases h
    ·rename_i c1 h1;simp only[lα,lζ]at h;obtain⟨rfl,rfl⟩:=h;have hv:=ND f (n+1);rw[show n+1+3*f+4503=n+3*f+4504 by omega]at hv;have hb:=TE (eT f) hv (by omega) c c1 (j:Int) x hxb h1 hz (by have:=hz.ns;omega);simp only[No.e]at hb;simp only[aa hb,bt,aC,lC]
   ·rename_i h18;rw[if_neg h18];split at h
    ·cases h
    ·rename_i ks c1 h1;have hv:=ND f (n+2);rw[show n+2+3*f+4503=n+3*f+4505 by omega]at hv;have hl:=fun k0=>Cp (eT f) hv k0 (j:Int) d x.kids x.r hxb x.kids.length (n+3*f+4505) 0 c [] ks c1 (by omega) (by omega) rfl (by rw[List.drop_zero];exact h1) hz
     have hlk:(List.length x.r.Kids:Int)=x.kids.length:=by show((x.kids.map iE).length:Int)=_;rw[lβ]
     simp only[List.length_nil,List.nil_append,List.map_nil,show((0:Nat):Int)=0 from rfl]at hl;rw[hlk];have hl':∀k0,itL (mH (ct lay0.tab (n+3*f+4505)) (n+3*f+4505) k0) (n+3*f+4505) ((j:Int),d,0,x.r.Kids,(x.kids.length:Int),0,c.k,x.r,[])=_:=hl;rw[hl'];have hkl:ks.length<1501:=by rw[zh _ _ h1];exact hxb
     have hz1:Sz c1:=hz.of (uJ (fun c k r=>eT f c k false r) _ _ h1);have htk:List.take ks.length (List.drop 0 (ks.map iE))=ks.map iE:=by
      rw[List.drop_zero];have:=List.take_length (l:=ks.map iE);rwa [lβ]at this
     have her:c1.k.er=c1.er:=rfl;simp only[htk,hop,her];split at h
     ·rename_i h0;split at h
      ·cases h
      ·rename_i k1 c2 h2;simp only[lα,lζ]at h;obtain⟨rfl,rfl⟩:=h;rw[iD,if_pos h0];have tail:=fun k=>Yx (m:=n+3*f+4503) c2 (j:Int) k d x
       simp only[hop]at tail;unfold SF at h2;by_cases h7:x.op=7
       ·rw[if_pos h7]at h2 ⊢
        obtain⟨m0,hm0⟩:∃m0,n+3*f+4505=m0+1505:=⟨n+3*f+3000,by omega⟩
        have e:=YM (n:=m0) c1 c2 (j:Int) k1 x ks h2 hkl hz1.pr hz1.me;rw[<-hm0]at e;simp only[No.e]at e;rw[aa e];simp only[bk,cb,lC];exact tail k1
       ·rw[if_neg h7]at h2 ⊢
        rw[bW,fT];by_cases h6:x.op<=6
        ·rw[if_pos h6]at h2 ⊢
         obtain⟨m0,hm0⟩:∃m0,n+3*f+4505=m0+1505:=⟨n+3*f+3000,by omega⟩
         have e:=Au (n:=m0) c1 c2 (j:Int) k1 x ks h2 hkl;rw[<-hm0]at e;simp only[No.e]at e;rw[aa e];simp only[bk,cb,lC];exact tail k1
        ·rw[if_neg h6]at h2 ⊢
         split at h2
         ·rename_i c3 h3;simp only[lα,lζ]at h2;obtain⟨rfl,rfl⟩:=h2;obtain⟨m0,hm0⟩:∃m0,n+3*f+4505=m0+1505:=⟨n+3*f+3000,by omega⟩
          have e:=CW (n:=m0) c1 c3 (j:Int) x ks h3 hkl;rw[<-hm0]at e;simp only[No.e]at e;rw[aa e];simp only[bt,aC,lC];exact tail 0
         ·cases h2
     ·rename_i h0;simp only[lα,lζ]at h;obtain⟨rfl,rfl⟩:=h;rw[iD,if_neg h0]
def mc:CS->List Pa->Option (Option CS)
 |c,[]=>some (some c)
 |c,p::r=>if DI c p.name=true then some none else match jU c p.name p.kind with
  |none=>none
  |some c1=>mc c1 r
def CS.init (pr:List Ac)(fs:List (LN×Vr))(m:Me):CS:=⟨pr,fs,m.nodes,m.result,-1,0,[],[],[],[],[]⟩
def eX (f:Nat)(pr:List Ac)(fs:List (LN×Vr))(m:Me):Option (Option CS):=match mc (CS.init pr fs m) m.params with
 |none=>none
 |some none=>some none
 |some (some c1)=>match eE f c1 ((m.nodes.length:Int) - 1) false with
  |none=>none
  |some (_,c2)=>some (some c2)
def cJ (c:CS):Da:= .agg [.slice 2 (c.lo.map Pa.e),.map (c.ki.map fun p=> .int .i64 p.1) (c.ki.map fun p=> .int .i64 p.2),.map (c.va.map fun p=> .int .i64 p.1) (c.va.map fun p=>p.2.e)]
def RI:Option CS->D
 |none=> .tup [.p (.agg [.slice 2 [],.nilmap,.nilmap]),pI (-1),pI 7]
 |some c=> .tup [.p (cJ c),pI c.nd,pI c.er]
def j5:∀(l:List Pa) (c:CS) {r:CS},mc c l=some (some r)->fh c r
 |[],c,r,h=>by simp only[mc,lα]at h;rw[<-h];exact fh.refl _
 |p::l,c,r,h=>by
  simp only[mc]at h;split at h
  ·cases h
  ·split at h
   ·cases h
   ·rename_i c1 h1;exact(uy h1).trans (j5 l c1 h)
def JF {m:Nat}(k0:aA×eM×cG×bu->R)(k1:LD×LD×LD×Int×Int×aA×eM->R)(ps:List Pa)(mm:aA)(hk0:∀x,k0 x=some (RI none,[]))(hl:ps.length<1501):∀(e q j:Nat) (c:CS) (o:Option CS),j+e=ps.length->e<q->mc c (ps.drop j)=some o->
  itL (oV (ct lay0.tab (m+1)) (m+1) k0 k1) q (c.fs.map (fun p=> .str p.1),c.fs.map (fun p=>p.2.e),ps.map Pa.e,(ps.length:Int),(j:Int),mm,c.k)=match o with
   |none=>some (RI none,[])
   |some c'=>k1 (c.fs.map (fun p=> .str p.1),c.fs.map (fun p=>p.2.e),ps.map Pa.e,(ps.length:Int),(ps.length:Int),mm,c'.k)
 |0,q+1,j,c,o,h,_,hp=>by
  obtain rfl:j=ps.length:=by omega
  rw[List.drop_length]at hp;simp only[mc,lα]at hp;subst hp;rw[nt];simp only[oV,cH,aR]
 |e+1,q+1,j,c,o,h,hq,hp=>by
  have hj:j<ps.length:=by omega
  rw[lχ hj]at hp;simp only[mc]at hp;rw[nt];simp only[oV,ej (show((j:Int)<(ps.length:Int)) by omega),aQ,aO,bi,aU hj,bo,dPa,wS (show j<cr by unfold cr;omega)];have hn:ps[j].r.Name=ps[j].name:=rfl;have hkd:ps[j].r.Kind=ps[j].kind:=rfl;have hle:∀(E:R) (K:Da->R),(cL (bN TypeDesc.string (Da.str ps[j].name) c.k.lk 0) fun y=>fC y E fun n=>cL c.k.lv[n]? K)=mO (fS c.le ps[j].name) E fun v=>K (.bool v):=fun E K=>lkS c.le ps[j].name Da.bool E K
  simp only[hn,hkd];rw[hle,lkS];unfold DI at hp;have step:∀(hd:DI c ps[j].name=false),(ct lay0.tab (m+1) 71 [.box 0 0,pS ps[j].name,pI ps[j].kind] c.k.hp fun d o=>ba d fun r=>aj r<|aK o fun u=>itL (oV (ct lay0.tab (m+1)) (m+1) k0 k1) q (c.fs.map (fun p=> .str p.1),c.fs.map (fun p=>p.2.e),ps.map Pa.e,(ps.length:Int),((j+1:Nat):Int),mm,u))=match o with
   |none=>some (RI none,[])
   |some c'=>k1 (c.fs.map (fun p=> .str p.1),c.fs.map (fun p=>p.2.e),ps.map Pa.e,(ps.length:Int),(ps.length:Int),mm,c'.k):=by
   intro hd;unfold DI at hd;rw[hd]at hp;simp only[Bool.false_eq_true,if_false]at hp;split at hp
   ·cases hp
   ·rename_i c1 h1;have e1:=xF (n:=m) c c1 ps[j].name ps[j].kind h1;rw[aa e1];simp only[bt,aC,lC];have hfs:c1.fs=c.fs:=(uy h1).fs;have:=JF (m:=m) k0 k1 ps mm hk0 hl e q (j+1) c1 o (by omega) (by omega) hp;rw[hfs]at this;exact this
  unfold DI at step;cases hg:fS c.fs ps[j].name with
  |some v=>
   simp only[hg,if_true,lα]at hp;subst hp;simp only[Mz,Ĵ,hk0]
  |none=>
   simp only[hg]at hp step;simp only[XF];cases hh:fS c.le ps[j].name with
   |some b=>
    simp only[hh]at hp step;simp only[Mz,aF];cases b
    ·rw[aR];exact step rfl
    ·simp only[if_true,lα]at hp;subst hp;rw[aQ,hk0]
   |none=>
    simp only[hh]at step;simp only[XF];exact step trivial
def YO {n:Nat}(pr:List Ac)(fs:List (LN×Vr))(m:Me)(o:Option CS)(h:eX f pr fs m=some o)(h1:pr.length<1501)(h2:∀a∈pr,a.methods.length<1501)(h3:m.nodes.length<1501)(h4:∀x∈m.nodes,x.kids.length<1501)(h5:m.params.length<1501):
  Ω (n+3*f+4504) 32 [.p (.agg [.slice 3 (pr.map Ac.e)]),.p (.map (fs.map fun p=> .str p.1) (fs.map fun p=>p.2.e)),.p m.e] []=some (RI o,[]):=by
 apply Y2 (n+3*f+4503) (pr.map Ac.e) (fs.map fun p=> .str p.1) (fs.map fun p=>p.2.e) m.r;unfold NN;unfold eX at h;have hz:Sz (CS.init pr fs m):=⟨h1,h2,h3,h4⟩;cases hp:mc (CS.init pr fs m) m.params with
 |none=>rw[hp]at h;cases h
 |some o1=>
  rw[hp]at h;have hl:=fun k0 k1 (hk:∀x,k0 x=some (RI none,[]))=>JF (m:=n+3*f+4502) k0 k1 m.params m.r hk h5 m.params.length (n+3*f+4503) 0 (CS.init pr fs m) o1 (by omega) (by omega) (by rw[List.drop_zero];exact hp)
  have hlk:(List.length m.r.Params:Int)=m.params.length:=by show((m.params.map Pa.e).length:Int)=_;rw[lβ]
  rw[hlk];refine Eq.trans (hl _ _ fun x=>rfl) ?_;cases o1 with
  |none=>simp only[lα]at h;rw[<-h]
  |some c1=>
   simp only at h;split at h
   ·cases h
   ·rename_i k c2 h2';simp only[lα]at h;rw[<-h];have hz1:Sz c1:=hz.of (j5 _ _ hp);have e:=ND f n c1 ((m.nodes.length:Int) - 1) false k c2 h2' hz1;have hln:aq .i64 (↑(List.length m.r.Nodes) - 1)=(m.nodes.length:Int) - 1:=by
     have:(List.length m.r.Nodes:Int)=m.nodes.length:=by show((m.nodes.map No.e).length:Int)=_;rw[lβ]
     rw[this];exact gU (by omega) (by omega)
    simp only[hln];rw[aa e];have htk:List.take c2.k.ln (List.drop 0 c2.k.lo)=c2.lo.map Pa.e:=by
     rw[List.drop_zero];show List.take c2.lo.length (c2.lo.map Pa.e)=_;have:=List.take_length (l:=c2.lo.map Pa.e);rwa [lβ]at this
    simp only[bk,cb,lC,htk];rfl
mutual
inductive To (ns:List No):Nat->Nat->Prop
 |mk {lo i:Nat} {x:No}:ns[i]?=some x->Ch ns lo x.kids i->To ns lo i
inductive Ch (ns:List No):Nat->LI->Nat->Prop
 |nil {lo:Nat}:Ch ns lo [] lo
 |cons {lo k hi:Nat} {r:LI}:To ns lo k->Ch ns (k+1) r hi->Ch ns lo ((k:Int)::r) hi
end
mutual
def To.le {ns:List No}{lo i:Nat}:To ns lo i->lo<=i
 | .mk _ h=>h.le
def Ch.le {ns:List No}{lo hi:Nat}{l:LI}:Ch ns lo l hi->lo<=hi
 | .nil=>Nat.le_refl _
 | .cons h g=>by have:=h.le;have:=g.le;omega
end
def To.lt {lo i:Nat}(h:To ns lo i):i<ns.length:=by
 cases h with
 |mk hx _=>
  rcases mα i ns.length with h1|h1
  ·exact h1
  ·rw[lπ h1]at hx;cases hx
def HT {ns:List No}:∀(a b:LI) {lo hi:Nat},Ch ns lo (a++b) hi->∃mid,Ch ns lo a mid/\Ch ns mid b hi
 |[],b,lo,hi,h=>⟨lo,.nil,h⟩
 |x::a,b,lo,hi,h=>by
  cases h with
  |cons h1 h2=>
   obtain⟨mid,h3,h4⟩:=HT a b h2;exact⟨mid,.cons h1 h3,h4⟩
def OH {ns:List No}:∀(a b:LI) {lo mid hi:Nat},Ch ns lo a mid->Ch ns mid b hi->Ch ns lo (a++b) hi
 |[],b,lo,mid,hi,h,g=>by cases h;exact g
 |x::a,b,lo,mid,hi,h,g=>by
  cases h with
  |cons h1 h2=>exact .cons h1 (OH a b h2 g)
def lf:List No->Nat->LI->Bool
 |[],_,roots=>decide (roots.length=1)
 |x::r,i,roots=>if roots.length<x.kids.length then false else if roots.drop (roots.length - x.kids.length)=x.kids then lf r (i+1) (roots.take (roots.length - x.kids.length)++[(i:Int)])else false
def uR {ns:List No}:∀(r:List No) (i:Nat) (roots:LI),ns.drop i=r->i<=ns.length->Ch ns 0 roots i->lf r i roots=true->∃k:Nat,To ns 0 k/\k+1=ns.length
 |[],i,roots,hr,hi,hc,h=>by
  simp only[lf,lε]at h;have hl:i=ns.length:=by
   have:=congrArg List.length hr;simp at this;omega
  match roots,h,hc with
  |[k],_,hc=>
   cases hc with
   |cons h1 h2=>cases h2;exact⟨_,h1,hl⟩
 |x::r,i,roots,hr,hi,hc,h=>by
  simp only[lf]at h;split at h
  ·cases h
  ·split at h
   ·rename_i hlen hdrop;have hlt:i<ns.length:=by
     rcases mα i ns.length with h1|h1
     ·exact h1
     ·rw[qζ h1]at hr;cases hr
    have hx:ns[i]?=some x:=by
     rw[lχ hlt]at hr;rw[lδ hlt];simp only[lτ]at hr;rw[hr.1]
    have hr':ns.drop (i+1)=r:=by
     rw[lχ hlt]at hr;simp only[lτ]at hr;exact hr.2
    rw[<-List.take_append_drop (roots.length - x.kids.length) roots,hdrop]at hc;obtain⟨mid,h1,h2⟩:=HT _ _ hc;exact uR r (i+1) _ hr' hlt (OH _ _ h1 (.cons (.mk hx h2) .nil)) h
   ·cases h
structure Œ (x:No):Prop where
 one:x.op=4\/x.op=7\/x.op=8\/x.op=9\/x.op=11\/x.op=12\/x.op=17->1<=x.kids.length
 two:x.op=5->2<=x.kids.length
def ph (c:CS)(i e:Int):(gw c i e).lo=c.lo:=by unfold gw;split<;>rfl
def eG (c:CS)(i:Int)(b:Bool):(cw c i b).lo=c.lo:=by
 unfold cw;split
 ·rfl
 ·exact ph _ _ _
def NC (c:CS)(i:Int)(s:LN):(mq c i s).2.lo=c.lo:=by
 unfold mq;split
 ·rfl
 ·exact ph _ _ _
def Pl (c:CS)(i:Int)(x:No):(qP c i x).lo=c.lo:=by
 unfold qP;split
 ·exact ph _ _ _
 split
 ·exact ph _ _ _
 ·rfl
def Ϩ (c:CS)(i e:Int):(wz c i e).lo=c.lo:=by
 unfold wz;split
 ·rfl
 ·exact ph _ _ _
def H0 (c:CS)(s:LN)(k:Int)(h:c.lo.length<1000000000):∃c',jU c s k=some c'/\c'.lo=c.lo++[⟨s,k⟩]:=by
 unfold jU;rw[if_pos h];exact⟨_,rfl,rfl⟩
def ø (c:CS)(i:Int)(x:No)(k:Int)(h:c.lo.length<1000000000):∃c',AX c i x k=some c'/\c'.lo.length=c.lo.length+1:=by
 unfold AX;obtain⟨c1,h1,h2⟩:=H0 (cw (qP c i x) i (decide (k=x.v.k))) x.name x.v.k (by rw[eG,Pl];exact h);rw[h1];exact⟨_,rfl,by rw[NC,h2,eG,Pl];simp⟩
def w_ (c:CS)(i:Int)(x:No)(ks:LI)(har:Œ x)(hk:ks.length=x.kids.length)(hl:c.lo.length<1000000000):∃k c',SF c i x ks=some (k,c')/\c'.lo.length<=c.lo.length+1:=by
 unfold SF;by_cases h7:x.op=7
 ·rw[if_pos h7];unfold RA;have:=har.one (by omega);cases sD c.pr x.name x.v.s with
  |none=>exact⟨_,_,rfl,by rw[ph];omega⟩
  |some m=>match ks,hk with
   |[],hk=>simp at hk;omega
   |k::r,_=>exact⟨_,_,rfl,by rw[eG];omega⟩
 rw[if_neg h7];by_cases h6:x.op<=6
 ·rw[if_pos h6];unfold yS;by_cases h1:x.op=1
  ·rw[if_pos h1];exact⟨_,_,rfl,by omega⟩
  rw[if_neg h1];by_cases h3:x.op=3
  ·rw[if_pos h3];exact⟨_,_,rfl,by omega⟩
  rw[if_neg h3];by_cases h2:x.op=2
  ·rw[if_pos h2];exact⟨_,_,rfl,by rw[NC];omega⟩
  rw[if_neg h2];by_cases h4:x.op=4
  ·rw[if_pos h4];have:=har.one (by omega);match ks,hk with
   |[],hk=>simp at hk;omega
   |k::r,_=>exact⟨_,_,rfl,by rw[eG];omega⟩
  rw[if_neg h4];by_cases h5:x.op=5
  ·rw[if_pos h5];have:=har.two h5;match ks,hk with
   |[],hk=>simp at hk;omega
   |[k],hk=>simp at hk;omega
   |k::k'::r,_=>exact⟨_,_,rfl,by rw[eG];omega⟩
  rw[if_neg h5];exact⟨_,_,rfl,by rw[Ϩ];omega⟩
 rw[if_neg h6];have key:∃c',vI c i x ks=some c'/\c'.lo.length<=c.lo.length+1:=by
  unfold vI;by_cases h8:x.op=8
  ·rw[if_pos h8];have:=har.one (by omega);match ks,hk with
   |[],hk=>simp at hk;omega
   |k::r,_=>
    obtain⟨c1,h1,h2⟩:=ø c i x k hl;exact⟨c1,h1,by omega⟩
  rw[if_neg h8];by_cases h9:x.op=9
  ·rw[if_pos h9];have:=har.one (by omega);match ks,hk with
   |[],hk=>simp at hk;omega
   |k::r,_=>exact⟨_,rfl,by rw[eG,NC];omega⟩
  rw[if_neg h9];by_cases h11:x.op=11\/x.op=12
  ·rw[if_pos h11];have:=har.one (by omega);match ks,hk with
   |[],hk=>simp at hk;omega
   |k::r,_=>exact⟨_,rfl,by rw[eG];omega⟩
  rw[if_neg h11];by_cases h13:x.op=13
  ·rw[if_pos h13];match ks with
   |[]=>exact⟨_,rfl,by rw[eG];omega⟩
   |k::r=>exact⟨_,rfl,by rw[eG,eG];omega⟩
  rw[if_neg h13];by_cases h15:x.op=15
  ·rw[if_pos h15];exact⟨_,rfl,by rw[eG];omega⟩
  rw[if_neg h15];by_cases h16:x.op=16
  ·rw[if_pos h16];exact⟨_,rfl,by rw[eG];omega⟩
  rw[if_neg h16];by_cases h17:x.op=17
  ·rw[if_pos h17];have:=har.one (by omega);match ks,hk with
   |[],hk=>simp at hk;omega
   |k::r,_=>exact⟨_,rfl,by rw[eG];omega⟩
  rw[if_neg h17];exact⟨_,rfl,by omega⟩
 obtain⟨c1,h1,h2⟩:=key;rw[h1];exact⟨_,_,rfl,h2⟩
def Ą (c:CS)(i:Int)(x:No)(k:Int):(eP c i x k).lo=c.lo:=by unfold eP;split<;>rfl
def TC (ns:List No)(f:Nat):Prop:=∀(lo i:Nat),To ns lo i->i<f->∀(c:CS) (d:Bool),c.ns=ns->c.lo.length+(i+1 - lo)<=150100->∃k c',eE f c (i:Int) d=some (k,c')/\c'.lo.length<=c.lo.length+(i+1 - lo)
def Iw {ns:List No}{f:Nat}(hv:TC ns f):∀(l:LI) (lo hi:Nat),Ch ns lo l hi->hi<=f->∀c:CS,c.ns=ns->c.lo.length+(hi - lo)<=150100->∃ks c',ep (fun c k=>eE f c k false) c l=some (ks,c')/\c'.lo.length<=c.lo.length+(hi - lo)
 |[],lo,hi,h,_,c,_,_=>by cases h;exact⟨[],c,rfl,by omega⟩
 |_::l,lo,hi,h,hf,c,hc,hb=>by
  cases h with
  | @cons _ k _ _ h1 h2=>
   have l1:=h1.le;have l2:=h2.le;obtain⟨x,c1,e1,b1⟩:=hv lo k h1 (by omega) c false hc (by omega);have s1:=eT f c k false _ e1;obtain⟨xs,c2,e2,b2⟩:=Iw hv l (k+1) hi h2 hf c1 (s1.ns.trans hc) (by omega);refine⟨x::xs,c2,?_,by omega⟩
   simp only[ep,e1,e2]
def Ov {ns:List No}{f:Nat}(hv:TC ns f):∀(l:LI) (lo hi:Nat),Ch ns lo l hi->hi<=f->∀(c:CS) (d:Bool),c.ns=ns->c.lo.length+(hi - lo)<=150100->∃c',lz (eE f) c l d=some c'/\c'.lo.length<=c.lo.length+(hi - lo)
 |[],lo,hi,h,_,c,d,_,_=>by cases h;exact⟨c,rfl,by omega⟩
 |_::l,lo,hi,h,hf,c,d,hc,hb=>by
  cases h with
  | @cons _ k _ _ h1 h2=>
   have l1:=h1.le;have l2:=h2.le;obtain⟨x,c1,e1,b1⟩:=hv lo k h1 (by omega) c d hc (by omega);have s1:=eT f c k d _ e1;obtain⟨c2,e2,b2⟩:=Ov hv l (k+1) hi h2 hf c1 (d||vq c1.ns k) (s1.ns.trans hc) (by omega);refine⟨c2,?_,by omega⟩
   simp only[lz,e1];exact e2
def xC {ns:List No}(har:∀x∈ns,Œ x):∀f,TC ns f
 |0,lo,i,hs,hi,c,d,hc,hb=>by omega
 |f+1,lo,i,hs,hi,c,d,hc,hb=>by
  have hlt:=hs.lt;have hle:=hs.le;cases hs with
  | @mk _ _ x hx hch=>
   have hx':dL c.ns (i:Int)=some x:=by rw[hc,cd];exact hx
   have hxm:x∈ns:=lξ hx;simp only[eE,hx'];by_cases h18:x.op=18
   ·rw[if_pos h18];obtain⟨c1,e1,b1⟩:=Ov (xC har f) x.kids lo i hch (by omega) c false hc (by omega);unfold lA;rw[e1];refine⟨0,_,rfl,?_⟩;split
    ·rw[eG];show c1.lo.length<=_;omega
    ·show c1.lo.length<=_;omega
   ·rw[if_neg h18];obtain⟨ks,c1,e1,b1⟩:=Iw (xC har f) x.kids lo i hch (by omega) c hc (by omega);rw[e1];simp only;split
    ·obtain⟨k,c2,e2,b2⟩:=w_ c1 (i:Int) x ks (har x hxm) (zh _ _ e1) (by omega);rw[e2];refine⟨_,_,rfl,?_⟩;rw[Ą,eG];omega
    ·exact⟨_,_,rfl,by omega⟩
structure lu (ns:List No):Prop where
 tree:∃k:Nat,To ns 0 k/\k+1=ns.length
 ar:∀x∈ns,Œ x
 lets:∀x∈ns,x.op=8\/x.op=9->∀k∈x.kids,∀y,dL ns k=some y->y.op<=7
def Fg:∀(l:List Pa) (c:CS),c.lo.length+l.length<1501->∃o,mc c l=some o/\∀c',o=some c'->c'.lo.length=c.lo.length+l.length
 |[],c,h=>⟨some c,rfl,fun c' e=>by simp only[lα]at e;subst e;simp⟩
 |p::l,c,h=>by
  simp only[mc];split
  ·exact⟨none,rfl,fun c' e=>by cases e⟩
  ·obtain⟨c1,h1,h2⟩:=H0 c p.name p.kind (by omega);rw[h1];have hl:c1.lo.length=c.lo.length+1:=by rw[h2];simp
   simp only[List.length_cons]at h;obtain⟨o,h3,h4⟩:=Fg l c1 (by omega);exact⟨o,h3,fun c' e=>by rw[h4 c' e];simp;omega⟩
def RF (pr:List Ac)(fs:List (LN×Vr))(m:Me)(hb:lu m.nodes)(hn:m.nodes.length<1501)(hp:m.params.length<1501):∃o,eX 1501 pr fs m=some o:=by
 unfold eX;obtain⟨o,h1,h2⟩:=Fg m.params (CS.init pr fs m) (by simp[CS.init];exact hp);rw[h1];cases o with
 |none=>exact⟨_,rfl⟩
 |some c1=>
  obtain⟨k,hs,hk⟩:=hb.tree;have hst:=j5 _ _ h1;have hl:=h2 c1 rfl;simp[CS.init]at hl;obtain⟨k',c2,e,_⟩:=xC hb.ar 1501 0 k hs (by omega) c1 false (hst.ns) (by omega);have:((m.nodes.length:Int) - 1)=(k:Int):=by omega
  simp only[this,e];exact⟨_,rfl⟩
def Tz (x:No):x.r.Op=x.op:=rfl
def nr2 (x:No):x.r.Name=x.name:=rfl
def nr3 (x:No):x.r.Value_Kind=x.v.k:=rfl
def nr4 (x:No):x.r.Value_N=x.v.n:=rfl
def nr5 (x:No):x.r.Value_S=x.v.s:=rfl
def nr6 (x:No):x.r.Value_I=x.v.I.map iE:=rfl
def nr7 (x:No):x.r.Value_L=x.v.L.map .str:=rfl
def YG (x:No):x.r.Kids=x.kids.map iE:=rfl
def fd (l:List α)(p:α->Bool):l.all p=(l.findIdx? fun x=>!p x).isNone:=by
 rw[<-lP];simp
def fi (o:Int):Bool:=bw 1 o&&bw o 6
def Bd (o:Int):Bool:=bw 8 o&&bw o 17
def up (o:Int):Bool:=az o 7
def uK (o:Int):Bool:=fi o||up o
def Dt (o:Int):Bool:=az o 18
def iT (ns:List No)(k:Int):Int:=((dL ns k).map fun y=>y.op).getD 0
def eN (x:No)(a b:Int):Bool:=bw a (x.kids.length:Int)&&bw (x.kids.length:Int) b
def dq (ns:List No)(x:No)(j:Nat)(f:Int->Bool):Bool:=(x.kids.drop j).all fun k=>f (iT ns k)
def lx {n:Nat}(k:Int):Ω (n+1) 140 [pI k] []=some (pB (fi k),[]):=by
 apply AE n k;simp only[pO,dt,pE,wq,fi,Bool.and_true]
def C2 {n:Nat}(k:Int):Ω (n+1) 144 [pI k] []=some (pB (Bd k),[]):=by
 apply Dj n k;simp only[rh,dt,pE,wq,Bd,Bool.and_true]
def TW {n:Nat}(k:Int):Ω (n+1) 142 [pI k] []=some (pB (up k),[]):=by
 apply UH n k;simp only[GD,dt,pE,up]
def TX {n:Nat}(k:Int):Ω (n+1) 143 [pI k] []=some (pB (Dt k),[]):=by
 apply UI n k;simp only[GE,dt,pE,Dt]
def TV {n:Nat}(k:Int):Ω (n+2) 141 [pI k] []=some (pB (uK k),[]):=by
 apply UG (n+1) k;simp only[GC,aa (lx (n:=n) k),bk,aF,aC,dt,pE,Α,Bool.or_false,uK,up]
def TU {n:Nat}(x:No)(a b:Int):Ω (n+1) 138 [pI a,pI b,.box 0 0] [x.r.b]=some (pB (eN x a b),[x.r.b]):=by
 apply UF n x.r a b;simp only[GB,YG,lβ,eN];cases bw a (x.kids.length:Int)<;>cases bw (x.kids.length:Int) b<;>rfl
def Qk {n:Nat}(ns:List No)(x:No)(j:Nat)(hj:j<=x.kids.length)(hk:∀k∈x.kids,∃y,dL ns k=some y)(h:x.kids.length<1501):Ω (n+1504) 139 [pI j,.p (.fn 140 []),.box 0 0,.box 1 0] [x.r.b,.box [pL 8 (ns.map No.e)]]=some (pB (dq ns x j fi),[x.r.b,.box [pL 8 (ns.map No.e)]]):=by
 apply Q0 (n+1503) x.r (ns.map No.e) j;unfold BB dq;have hd:List.take ((x.kids.map iE).length - Int.toNat (j:Int)) (List.drop (Int.toNat (j:Int)) (x.kids.map iE))=(x.kids.drop j).map iE:=by
  rw[Int.toNat_natCast,lψ (by simp),List.map_drop]
 simp only[YG,hd,bW,show(0:Int)<=(j:Int) by omega,show(j:Int)<=((x.kids.map iE).length:Int) by rw[lβ];omega,decide_true,aQ];have hkd:∀k∈x.kids.drop j,∃y,dL ns k=some y:=fun k hm=>hk k (mτ hm)
 have hld:(x.kids.drop j).length<1501:=by simp;omega
 generalize x.kids.drop j=ks at hkd hld ⊢
 rw[lβ];refine(bp ks (fun q i=>itL (kV _ (n+1503) _ _) q (ks.map iE,(ks.length:Int),i,x.r,ns.map No.e)) (fun k=>!fi (iT ns k)) (fun i=>some (pB false,[x.r.b,.box [pL 8 (ns.map No.e)]])) (some (pB true,[x.r.b,.box [pL 8 (ns.map No.e)]])) (fun q i hi=>?_) (fun q=>?_) (by omega)).trans ?_
 ·rw[nt];obtain⟨y,hy⟩:=hkd ks[i] (lν _);simp only[kV,ej (show((i:Int)<(ks.length:Int)) by omega),aQ,aO,bi,aU hi,bo,dI,hy,HZ,Tz,wS (show i<cr by unfold cr;omega),aa (lx (n:=n+1502) y.op),bk,aF,aC,aX,iT,Option.map_some,Option.getD_some];cases fi y.op<;>rfl
 ·rw[nt];simp only[kV,cH,aR]
 ·rw[fd];cases ks.findIdx? fun k=>!fi (iT ns k)<;>rfl
def Ql {n:Nat}(ns:List No)(x:No)(j:Nat)(hj:j<=x.kids.length)(hk:∀k∈x.kids,∃y,dL ns k=some y)(h:x.kids.length<1501):Ω (n+1504) 139 [pI j,.p (.fn 144 []),.box 0 0,.box 1 0] [x.r.b,.box [pL 8 (ns.map No.e)]]=some (pB (dq ns x j Bd),[x.r.b,.box [pL 8 (ns.map No.e)]]):=by
 apply Q1 (n+1503) x.r (ns.map No.e) j;unfold BC dq;have hd:List.take ((x.kids.map iE).length - Int.toNat (j:Int)) (List.drop (Int.toNat (j:Int)) (x.kids.map iE))=(x.kids.drop j).map iE:=by
  rw[Int.toNat_natCast,lψ (by simp),List.map_drop]
 simp only[YG,hd,bW,show(0:Int)<=(j:Int) by omega,show(j:Int)<=((x.kids.map iE).length:Int) by rw[lβ];omega,decide_true,aQ];have hkd:∀k∈x.kids.drop j,∃y,dL ns k=some y:=fun k hm=>hk k (mτ hm)
 have hld:(x.kids.drop j).length<1501:=by simp;omega
 generalize x.kids.drop j=ks at hkd hld ⊢
 rw[lβ];refine(bp ks (fun q i=>itL (kW _ (n+1503) _ _) q (ks.map iE,(ks.length:Int),i,x.r,ns.map No.e)) (fun k=>!Bd (iT ns k)) (fun i=>some (pB false,[x.r.b,.box [pL 8 (ns.map No.e)]])) (some (pB true,[x.r.b,.box [pL 8 (ns.map No.e)]])) (fun q i hi=>?_) (fun q=>?_) (by omega)).trans ?_
 ·rw[nt];obtain⟨y,hy⟩:=hkd ks[i] (lν _);simp only[kW,ej (show((i:Int)<(ks.length:Int)) by omega),aQ,aO,bi,aU hi,bo,dI,hy,HZ,Tz,wS (show i<cr by unfold cr;omega),aa (C2 (n:=n+1502) y.op),bk,aF,aC,aX,iT,Option.map_some,Option.getD_some];cases Bd y.op<;>rfl
 ·rw[nt];simp only[kW,cH,aR]
 ·rw[fd];cases ks.findIdx? fun k=>!Bd (iT ns k)<;>rfl
def Qh {n:Nat}(ns:List No)(x:No)(j:Nat)(hj:j<=x.kids.length)(hk:∀k∈x.kids,∃y,dL ns k=some y)(h:x.kids.length<1501):Ω (n+1504) 139 [pI j,.p (.fn 141 []),.box 0 0,.box 1 0] [x.r.b,.box [pL 8 (ns.map No.e)]]=some (pB (dq ns x j uK),[x.r.b,.box [pL 8 (ns.map No.e)]]):=by
 apply QX (n+1503) x.r (ns.map No.e) j;unfold By dq;have hd:List.take ((x.kids.map iE).length - Int.toNat (j:Int)) (List.drop (Int.toNat (j:Int)) (x.kids.map iE))=(x.kids.drop j).map iE:=by
  rw[Int.toNat_natCast,lψ (by simp),List.map_drop]
 simp only[YG,hd,bW,show(0:Int)<=(j:Int) by omega,show(j:Int)<=((x.kids.map iE).length:Int) by rw[lβ];omega,decide_true,aQ];have hkd:∀k∈x.kids.drop j,∃y,dL ns k=some y:=fun k hm=>hk k (mτ hm)
 have hld:(x.kids.drop j).length<1501:=by simp;omega
 generalize x.kids.drop j=ks at hkd hld ⊢
 rw[lβ];refine(bp ks (fun q i=>itL (kR _ (n+1503) _ _) q (ks.map iE,(ks.length:Int),i,x.r,ns.map No.e)) (fun k=>!uK (iT ns k)) (fun i=>some (pB false,[x.r.b,.box [pL 8 (ns.map No.e)]])) (some (pB true,[x.r.b,.box [pL 8 (ns.map No.e)]])) (fun q i hi=>?_) (fun q=>?_) (by omega)).trans ?_
 ·rw[nt];obtain⟨y,hy⟩:=hkd ks[i] (lν _);simp only[kR,ej (show((i:Int)<(ks.length:Int)) by omega),aQ,aO,bi,aU hi,bo,dI,hy,HZ,Tz,wS (show i<cr by unfold cr;omega),aa (TV (n:=n+1501) y.op),bk,aF,aC,aX,iT,Option.map_some,Option.getD_some];cases uK y.op<;>rfl
 ·rw[nt];simp only[kR,cH,aR]
 ·rw[fd];cases ks.findIdx? fun k=>!uK (iT ns k)<;>rfl
def Qi {n:Nat}(ns:List No)(x:No)(j:Nat)(hj:j<=x.kids.length)(hk:∀k∈x.kids,∃y,dL ns k=some y)(h:x.kids.length<1501):Ω (n+1504) 139 [pI j,.p (.fn 142 []),.box 0 0,.box 1 0] [x.r.b,.box [pL 8 (ns.map No.e)]]=some (pB (dq ns x j up),[x.r.b,.box [pL 8 (ns.map No.e)]]):=by
 apply QY (n+1503) x.r (ns.map No.e) j;unfold Bz dq;have hd:List.take ((x.kids.map iE).length - Int.toNat (j:Int)) (List.drop (Int.toNat (j:Int)) (x.kids.map iE))=(x.kids.drop j).map iE:=by
  rw[Int.toNat_natCast,lψ (by simp),List.map_drop]
 simp only[YG,hd,bW,show(0:Int)<=(j:Int) by omega,show(j:Int)<=((x.kids.map iE).length:Int) by rw[lβ];omega,decide_true,aQ];have hkd:∀k∈x.kids.drop j,∃y,dL ns k=some y:=fun k hm=>hk k (mτ hm)
 have hld:(x.kids.drop j).length<1501:=by simp;omega
 generalize x.kids.drop j=ks at hkd hld ⊢
 rw[lβ];refine(bp ks (fun q i=>itL (kT _ (n+1503) _ _) q (ks.map iE,(ks.length:Int),i,x.r,ns.map No.e)) (fun k=>!up (iT ns k)) (fun i=>some (pB false,[x.r.b,.box [pL 8 (ns.map No.e)]])) (some (pB true,[x.r.b,.box [pL 8 (ns.map No.e)]])) (fun q i hi=>?_) (fun q=>?_) (by omega)).trans ?_
 ·rw[nt];obtain⟨y,hy⟩:=hkd ks[i] (lν _);simp only[kT,ej (show((i:Int)<(ks.length:Int)) by omega),aQ,aO,bi,aU hi,bo,dI,hy,HZ,Tz,wS (show i<cr by unfold cr;omega),aa (TW (n:=n+1502) y.op),bk,aF,aC,aX,iT,Option.map_some,Option.getD_some];cases up y.op<;>rfl
 ·rw[nt];simp only[kT,cH,aR]
 ·rw[fd];cases ks.findIdx? fun k=>!up (iT ns k)<;>rfl
def Qj {n:Nat}(ns:List No)(x:No)(j:Nat)(hj:j<=x.kids.length)(hk:∀k∈x.kids,∃y,dL ns k=some y)(h:x.kids.length<1501):Ω (n+1504) 139 [pI j,.p (.fn 143 []),.box 0 0,.box 1 0] [x.r.b,.box [pL 8 (ns.map No.e)]]=some (pB (dq ns x j Dt),[x.r.b,.box [pL 8 (ns.map No.e)]]):=by
 apply QZ (n+1503) x.r (ns.map No.e) j;unfold BA dq;have hd:List.take ((x.kids.map iE).length - Int.toNat (j:Int)) (List.drop (Int.toNat (j:Int)) (x.kids.map iE))=(x.kids.drop j).map iE:=by
  rw[Int.toNat_natCast,lψ (by simp),List.map_drop]
 simp only[YG,hd,bW,show(0:Int)<=(j:Int) by omega,show(j:Int)<=((x.kids.map iE).length:Int) by rw[lβ];omega,decide_true,aQ];have hkd:∀k∈x.kids.drop j,∃y,dL ns k=some y:=fun k hm=>hk k (mτ hm)
 have hld:(x.kids.drop j).length<1501:=by simp;omega
 generalize x.kids.drop j=ks at hkd hld ⊢
 rw[lβ];refine(bp ks (fun q i=>itL (kU _ (n+1503) _ _) q (ks.map iE,(ks.length:Int),i,x.r,ns.map No.e)) (fun k=>!Dt (iT ns k)) (fun i=>some (pB false,[x.r.b,.box [pL 8 (ns.map No.e)]])) (some (pB true,[x.r.b,.box [pL 8 (ns.map No.e)]])) (fun q i hi=>?_) (fun q=>?_) (by omega)).trans ?_
 ·rw[nt];obtain⟨y,hy⟩:=hkd ks[i] (lν _);simp only[kU,ej (show((i:Int)<(ks.length:Int)) by omega),aQ,aO,bi,aU hi,bo,dI,hy,HZ,Tz,wS (show i<cr by unfold cr;omega),aa (TX (n:=n+1502) y.op),bk,aF,aC,aX,iT,Option.map_some,Option.getD_some];cases Dt y.op<;>rfl
 ·rw[nt];simp only[kU,cH,aR]
 ·rw[fd];cases ks.findIdx? fun k=>!Dt (iT ns k)<;>rfl
def Pd (ns:List No)(x:No)(m:Int):Bool:=eN x 2 m&&(fi (iT ns (x.kids.headD 0))&&dq ns x 1 Dt)
def eu (ns:List No)(x:No):Bool:=bif az x.op 1 then eN x 0 0 else bif az x.op 2 then eN x 0 0 else bif az x.op 3 then eN x 0 0 else bif az x.op 14 then eN x 0 0 else bif az x.op 4 then eN x 1 1&&dq ns x 0 fi else bif az x.op 17 then eN x 1 1&&dq ns x 0 fi else bif az x.op 5 then eN x 2 2&&dq ns x 0 fi else bif az x.op 15 then eN x 2 2&&dq ns x 0 fi else bif az x.op 16 then eN x 3 3&&dq ns x 0 fi else bif az x.op 6 then eN x 0 16&&dq ns x 0 fi else bif az x.op 7 then eN x 1 17&&dq ns x 0 fi else bif az x.op 8 then eN x 1 1&&dq ns x 0 uK else bif az x.op 9 then eN x 1 1&&dq ns x 0 uK else bif az x.op 10 then eN x 1 1&&dq ns x 0 up else bif az x.op 11 then(bif az x.op 12 then Pd ns x 2 else Pd ns x 3)else bif az x.op 12 then(bif az x.op 12 then Pd ns x 2 else Pd ns x 3)else bif az x.op 13 then eN x 0 1&&dq ns x 0 fi else bif az x.op 18 then dq ns x 0 Bd else false
def YS {n:Nat}(ns:List No)(x:No)(hk:∀k∈x.kids,∃y,dL ns k=some y)(h:x.kids.length<1501):Ω (n+1505) 100 [pL 8 (ns.map No.e),.p x.e] []=some (pB (eu ns x),[]):=by
 apply Zb (n+1504) (ns.map No.e) x.r;have h1:∀(a b:Int) (K:KV),ct lay0.tab (n+1504) 138 [pI a,pI b,.box 0 0] [x.r.b] K=K (pB (eN x a b)) [x.r.b]:=fun a b=>aa (TU (n:=n+1503) x a b)
 have hE:=aa (Qk (n:=n) ns x 0 (Nat.zero_le _) hk h);have hS:=aa (Ql (n:=n) ns x 0 (Nat.zero_le _) hk h);have hA:=aa (Qh (n:=n) ns x 0 (Nat.zero_le _) hk h);have hB:=aa (Qi (n:=n) ns x 0 (Nat.zero_le _) hk h);simp only[show((0:Nat):Int)=0 from rfl]at hE hS hA hB;have hx:∀(o:Int) (K:KV),ct lay0.tab (n+1504) 140 [pI o] [] K=K (pB (fi o)) []:=fun o=>aa (lx (n:=n+1503) o)
 have hif:∀m,(iL (eN x 2 m) (cL (bA x.r.Kids 0) fun x133=>bg .i64 x133 fun i134=>cL (bA (ns.map No.e) i134) fun x135=>bf x135 fun u136=>ct lay0.tab (n+1504) 140 [(pI u136.Op)] [] fun d137 o138=>dP d137 fun x139=>aB x139 fun b140=>aj o138<|iL b140 (ct lay0.tab (n+1504) 139 [(pI 1),(.p (.fn 143 [])),(.box 0 0),(.box 1 0)] [x.r.b,(.box [(pL 8 (ns.map No.e))])] fun d141 o142=>dP d141 fun x143=>aB x143 fun b144=>aW [x.r.b,(.box [(pL 8 (ns.map No.e))])] o142<|iL b144 (some ((pB true),[])) (some ((pB false),[]))) (some ((pB false),[]))) (some ((pB false),[])))=some (pB (Pd ns x m),[]):=by
  intro m;unfold Pd;cases hks:x.kids with
  |nil=>
   have:eN x 2 m=false:=by unfold eN;rw[hks];rfl
   rw[this];rfl
  |cons k r=>
   obtain⟨y,hy⟩:=hk k (by rw[hks];exact lη ..);have hC:=aa (Qj (n:=n) ns x 1 (by rw[hks];simp) hk h);simp only[show((1:Nat):Int)=1 from rfl]at hC;simp only[YG,hks,aO,bi,Vu,bo,dI,hy,HZ,Tz,hx,hC,bk,aF,aC,aX,dt,pE,wq,Bool.and_true,List.headD_cons,iT,Option.map_some,Option.getD_some]
 simp only[NW,Tz,h1,bk,aF,aX,hif];simp only[hE,hS,hA,hB,bk,aF,aX,dt,pE,wq,Bool.and_true,eu]
def binO:List LN:=[[124,124],[38,38],[61,61],[33,61],[60],[60,61],[62],[62,61],[43],[45],[42],[47],[37]]
def v0:Va:=⟨0,0,[],[],[]⟩
def V8 (x:No)(b:Bool):Bool:=bif az x.op 4 then(bif be x.name [45]then b else bif be x.name [33]then b else false)else bif az x.op 5 then(bif binO.any (fun t=>be x.name t)then b else false)else bif az x.op 6 then(bif f0 x.name then b else bif be x.name [105,110,116,115]then b else bif be x.name [115,116,114,105,110,103,115]then b else false)else bif az x.op 7 then(bif f0 x.name then bif f0 x.v.s then mh x.v ⟨0,0,x.v.s,[],[]⟩else false else false)else bif az x.op 8 then(bif f0 x.name then bif nu x.v.k then mh x.v ⟨x.v.k,0,[],[],[]⟩else false else false)else bif be x.name []then b else false
def V7 (x:No):Bool:=bif be x.name []then(bif kg x.v then(bif az x.v.k 1 then bif bw 0 x.v.n then true else bif az x.v.k 2 then true else az x.v.k 3 else bif az x.v.k 2 then true else az x.v.k 3)else false)else false
def pQ (x:No):Bool:=bif az x.op 1 then V7 x else bif az x.op 2 then(bif az x.op 2 then(bif f0 x.name then mh x.v v0 else false)else V8 x (mh x.v v0))else bif az x.op 9 then(bif f0 x.name then mh x.v v0 else false)else V8 x (mh x.v v0)
def Gc {n:Nat}(x:No):Ω (n+1507) 101 [.p x.e] []=some (pB (pQ x),[]):=by
 apply Ht (n+1506) x.r;have h1:=aa (C1 (n:=n+1) x.v v0 (.inr (by decide)) (.inr (by decide)));have h2:=aa (C1 (n:=n+1) x.v ⟨0,0,x.v.s,[],[]⟩ (.inr (by simp)) (.inr (by simp)));have h3:=aa (C1 (n:=n+1) x.v ⟨x.v.k,0,[],[],[]⟩ (.inr (by simp)) (.inr (by simp)));have h4:=aa (jG (n:=n) x.name);have h5:=aa (jG (n:=n) x.v.s);have h6:=aa (xK (n:=n+3) x.v);have h7:=aa (TQ (n:=n+2) binO x.name (by decide));have h8:=aa (oM (n:=n+1505) x.v.k);simp only[Va.c,v0,List.map_nil]at h1 h2 h3 h6;simp only[binO,List.map_cons,List.map_nil]at h7;simp only[vc,Tz,nr2,nr3,nr4,nr5,nr6,nr7,h1,h2,h3,h4,h5,h6,h7,h8,bk,aF,aC,dt,pQ,V7,V8,v0,binO]
def hK (op:Int)(hs:LI):LI->Nat->Int->Int
 |[],_,m=>m
 |k::r,j,m=>hK op hs r (j+1) (bif(az op 11||az op 12)&&az (j:Int) 0 then(bif aP m (aq .i64 (hs.getD k.toNat 0+1))then aq .i64 (hs.getD k.toNat 0+1)else m)else bif aP m (hs.getD k.toNat 0)then hs.getD k.toNat 0 else m)
def Ϯ (op m:Int):Int:=bif az op 4 then aq .i64 (m+2)else bif az op 5||(az op 6||(az op 7||(az op 15||(az op 16||(az op 17||az op 18)))))then aq .i64 (m+1)else m
def hN:List No->Nat->LI->LI
 |[],_,hs=>hs
 |x::r,i,hs=>hN r (i+1) (hs.set i (Ϯ x.op (hK x.op hs x.kids 0 0)))
def xj (ns:List No):Int:=(hN ns 0 (List.replicate ns.length 0)).getD (ns.length - 1) 0
def ub (b:Nat)(l:LI):Prop:=∀k∈l,0<=k/\k<(b:Int)
def y3 (hs:LI){i:Nat}(h:i<hs.length):(hs.map iE)[i]?=some (iE (hs.getD i 0)):=by
 simp[lδ h,mν]
def ϯ {m:Nat}(k0:iI->R)(a b:LD)(N:Nat)(i5 i4 i6:Int)(x:No)(hs:LI)(hN:N=hs.length)(hk:ub N x.kids)(hl:x.kids.length<1501):∀(e q j:Nat) (mx:Int),j+e=x.kids.length->e<q->
  itL (kQ (ct lay0.tab m) m k0) q (a,N,i5,mx,b,i4,i6,x.kids.map iE,(x.kids.length:Int),(j:Int),hs.map iE,x.r)=k0 (a,N,i5,hK x.op hs (x.kids.drop j) j mx,b,i4,i6,x.kids.map iE,(x.kids.length:Int),(x.kids.length:Int),hs.map iE,x.r)
 |0,q+1,j,mx,h,_=>by
  obtain rfl:j=x.kids.length:=by omega
  rw[nt];simp only[kQ,cH,aR,List.drop_length,hK]
 |e+1,q+1,j,mx,h,hq=>by
  have hj:j<x.kids.length:=by omega
  obtain⟨g1,g2⟩:=hk x.kids[j] (lν _);have g3:x.kids[j].toNat<hs.length:=by omega
  rw[nt,lχ hj];simp only[kQ,ej (show((j:Int)<(x.kids.length:Int)) by omega),aQ,aO,bi,aU hj,bo,dI,bW,g1,decide_true,ej g2,Nat.zero_add,y3 hs g3,Tz,wS (show j<cr by unfold cr;omega),hK];cases az x.op 11<;>cases az x.op 12<;>cases az (j:Int) 0<;>exact ϯ k0 a b N i5 i4 i6 x hs hN hk hl e q (j+1) _ (by omega) (by omega)
def aaL {m:Nat}(k0:iH->R)(ns:List No)(hm:1501<m)(hk:∀x∈ns,ub ns.length x.kids)(hkl:∀x∈ns,x.kids.length<1501)(hl:ns.length<1501):∀(e q i:Nat) (hs:LI),i+e=ns.length->e<q->hs.length=ns.length->
  itL (kO (ct lay0.tab m) m k0) q (ns.map No.e,ns.length,ns.map No.e,(ns.length:Int),(i:Int),hs.map iE)=k0 (ns.map No.e,ns.length,ns.map No.e,(ns.length:Int),(ns.length:Int),(hN (ns.drop i) i hs).map iE)
 |0,q+1,i,hs,h,_,hhs=>by
  obtain rfl:i=ns.length:=by omega
  rw[nt];simp only[kO,cH,aR,List.drop_length,hN]
 |e+1,q+1,i,hs,h,hq,hhs=>by
  have hi:i<ns.length:=by omega
  have hx:ns[i]∈ns:=lν _;rw[nt,lχ hi];simp only[kO,ej (show((i:Int)<(ns.length:Int)) by omega),aQ,aO,bi,aU hi,bo,HZ,YG,lβ];have g:=ϯ (m:=m) (fun(l25,n26,i27,i28,l29,i30,i31,l32,i33,i34,l35,u36)=>itL (kO (ct lay0.tab m) m k0) q (l25,n26,l29,i30,aq .i64 (i31+1),List.set l35 (0+Int.toNat i27) (iE (Ϯ u36.Op i28)))) (ns.map No.e) (ns.map No.e) ns.length i ns.length i ns[i] hs hhs.symm (hk _ hx) (hkl _ hx) ns[i].kids.length m 0 0 (by omega) (by have:=hkl _ hx;omega)
  simp only[show((0:Nat):Int)=0 from rfl,List.drop_zero,Tz,Int.toNat_natCast,Nat.zero_add,wS (show i<cr by unfold cr;omega)]at g;refine Eq.trans (Eq.trans ?_ g) ?_
  ·have g2:=fun k0'=>ϯ (m:=m) k0' (ns.map No.e) (ns.map No.e) ns.length i ns.length i ns[i] hs hhs.symm (hk _ hx) (hkl _ hx) ns[i].kids.length m 0 0 (by omega) (by have:=hkl _ hx;omega)
   simp only[show((0:Nat):Int)=0 from rfl,List.drop_zero]at g2;rw[g2,g2];simp only[Tz,bW,show(0:Int)<=(i:Int) by omega,decide_true,aQ,ej (show((i:Int)<(ns.length:Int)) by omega),Nat.zero_add,Int.toNat_natCast,y3 hs (show i<hs.length by omega),bo,show(cells (iE (hs.getD i 0))).length=1 from rfl,show Nat.beq 1 1=true from rfl,show ∀v,cP (iE (hs.getD i 0)) (cells (Da.int .i64 v))=some (iE v)from fun _=>rfl,wS (show i<cr by unfold cr;omega)];unfold Ϯ;cases az ns[i].op 4<;>cases az ns[i].op 5<;>cases az ns[i].op 6<;>cases az ns[i].op 7<;>cases az ns[i].op 15<;>cases az ns[i].op 16<;>cases az ns[i].op 17<;>cases az ns[i].op 18<;>rfl
  ·simp only[hN];rw[<-List.map_set];exact aaL k0 ns hm hk hkl hl e q (i+1) _ (by omega) (by omega) (by simp[hhs])
def W4:∀(l:List No) (i:Nat) (hs:LI),(hN l i hs).length=hs.length
 |[],_,_=>rfl
 |x::r,i,hs=>by simp only[hN];rw[W4];simp
def Qg {n:Nat}(ns:List No)(h0:0<ns.length)(hk:∀x∈ns,ub ns.length x.kids)(hkl:∀x∈ns,x.kids.length<1501)(hl:ns.length<1501):Ω (n+1503) 102 [pL 8 (ns.map No.e)] []=some (pI (xj ns),[]):=by
 apply QW (n+1502) (ns.map No.e);unfold Bw xj;have hw:aq .i64 ((ns.length:Int) - 1)=((ns.length - 1:Nat):Int):=by rw[gU (by omega) (by omega)];omega
 have hr:List.replicate ns.length (Da.int .i64 0)=(List.replicate ns.length (0:Int)).map iE:=by simp[iE]
 have g:=fun k0=>aaL (m:=n+1502) k0 ns (by omega) hk hkl hl ns.length (n+1502) 0 (List.replicate ns.length 0) (by omega) (by omega) (by simp)
 simp only[show((0:Nat):Int)=0 from rfl,List.drop_zero]at g;simp only[lβ,Int.toNat_natCast,hr,g,bW,show(0:Int)<=(ns.length:Int) by omega,Int.le_refl,decide_true,Bool.true_and,show Nat.ble (ns.length*8) 281474976710656=true by rw[Nat.ble_eq];omega,show(ns.length:Int)<=9223372036854775807 by omega,aQ,bE,show ¬((ns.length:Int)=0) by omega,decide_false,aR,hw,show(0:Int)<=((ns.length - 1:Nat):Int) by omega,ej (show((ns.length - 1:Nat):Int)<(ns.length:Int) by omega),Nat.zero_add];rw[y3 _ (by rw[W4];simp;omega)];rfl
end
end Go.Ab
