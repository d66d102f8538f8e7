import Derived.Test.YtlfhmmbmjkadiaaGreatDoorDcA
import Derived.Test.YtlfhmmbmjkadiaaGreatDoorAl
import Derived.Test.YtlfhmmbmjkadiaaGreatDoorAm5
import Derived.KernelRfl
import Derived.Test.YtlfhmmbmjkadiaaGreatDoorOg0
import Derived.Test.YtlfhmmbmjkadiaaGreatDoorOg1
set_option linter.all false
section
namespace Go.Ab
open Go
noncomputable section
structure Va where
 k:Int
 n:Int
 s:List Nat
 I:List Int
 L:List (List Nat)
structure No where
 op:Int
 name:List Nat
 v:Va
 kids:List Int
structure Pa where
 name:List Nat
 kind:Int
structure Fe where
 name:List Nat
 kind:Int
 init:Va
structure Me where
 name:List Nat
 params:List Pa
 result:Int
 nodes:List No
structure Ac where
 name:List Nat
 fields:List Fe
 methods:List Me
def iE (i:Int):Da:= .int .i64 i
def No.r (n:No):aG:=⟨n.op,n.name,n.v.k,n.v.n,n.v.s,n.v.I.map iE,n.v.L.map .str,n.kids.map iE⟩
def No.e (n:No):Da:=n.r.e
def Pa.r (p:Pa):cQ:=⟨p.name,p.kind⟩
def Pa.e (p:Pa):Da:=p.r.e
def Fe.r (f:Fe):bS:=⟨f.name,f.kind,f.init.k,f.init.n,f.init.s,f.init.I.map iE,f.init.L.map .str⟩
def Fe.e (f:Fe):Da:=f.r.e
def Me.r (m:Me):ah:=⟨m.name,m.params.map Pa.e,m.result,m.nodes.map No.e⟩
def Me.e (m:Me):Da:=m.r.e
def Ac.r (a:Ac):ae:=⟨a.name,a.fields.map Fe.e,a.methods.map Me.e⟩
def Ac.e (a:Ac):Da:=a.r.e
theorem vZ (n:No)(K:aG→R):aS n.e K=K n.r:=rfl
theorem dPa (n:Pa)(K:cQ→R):bL n.e K=K n.r:=rfl
theorem dFe (n:Fe)(K:bS→R):cd n.e K=K n.r:=rfl
theorem QB (n:Me)(K:ah→R):aZ n.e K=K n.r:=rfl
theorem GZ (n:Ac)(K:ae→R):aF n.e K=K n.r:=rfl
theorem dI (i:Int)(K:Int→R):aU .i64 (iE i) K=K i:=rfl
def bT:Nat:=1000000000000
theorem wS {i:Nat}(h:i<bT):ag .i64 ((i:Int)+1)=((i+1:Nat):Int):=by
 unfold bT at h;rw[ig (by omega) (by omega)];omega
theorem cG {a b:Int}(h:a<b):aX a b=true:=by rw[lQ];simpa using h
theorem u0 {a b:Int}(h:¬a<b):aX a b=false:=by rw[lQ];simpa using h
theorem bX (a:Int):aX a a=false:=u0 (Int.lt_irrefl a)
structure Vr where
 kind:Int
 slot:Int
 field:Bool
def Vr.r (v:Vr):bA:=⟨v.kind,v.slot,v.field⟩
def Vr.e (v:Vr):Da:=v.r.e
theorem dVr (n:Vr)(K:bA→R):bb n.e K=K n.r:=rfl
def c8 {β:Type}(l:List (List Nat×β))(s:List Nat):Option β:=(l.find? fun p=>decide (s=p.1)).map (·.2)
def nK {β:Type}(l:List (List Nat×β))(s:List Nat)(v:β):List (List Nat×β):=match l.findIdx? (fun p=>decide (s=p.1))with|some j=>l.set j (s,v)|none=>l++[(s,v)]
def sW {β:Type}(l:List (Int×β))(s:Int):Option β:=(l.find? fun p=>decide (s=p.1)).map (·.2)
def tv {β:Type}(l:List (Int×β))(s:Int)(v:β):List (Int×β):=match l.findIdx? (fun p=>decide (s=p.1))with|some j=>l.set j (s,v)|none=>l++[(s,v)]
theorem we {α:Type}(kt:TypeDesc)(k:Da)(f:α→Da)(p:α→Bool)(h:∀x,nv kt k (f x)=some (p x)):∀(l:List α) (i:Nat),bU kt k (l.map f) i=some ((l.findIdx? p).map (i+ ·))
 |[],i=>rfl
 |x::r,i=>by
  simp only[List.map_cons,bU,h,mτ];cases p x
  ·simp only[we kt k f p h r (i+1),Bool.false_eq_true,if_false,Option.map_map];congr 1;cases r.findIdx? p with
   |none=>rfl
   |some j=>simp only[Option.map_some,Function.comp];congr 1;omega
  ·rfl
theorem TP {β:Type}(l:List (List Nat×β))(s:List Nat):bU .string (.str s) (l.map fun p=> .str p.1) 0=some (l.findIdx? fun p=>decide (s=p.1)):=by
 rw[we .string (.str s) (fun p:List Nat×β=> .str p.1) (fun p=>decide (s=p.1)) (fun x=>by simp only[nv,de])];cases l.findIdx? (fun p=>decide (s=p.1))<;>simp
theorem adf {β:Type}(l:List (Int×β))(s:Int):bU (.int .i64) (.int .i64 s) (l.map fun p=> .int .i64 p.1) 0=some (l.findIdx? fun p=>decide (s=p.1)):=by
 rw[we (.int .i64) (.int .i64 s) (fun p:Int×β=> .int .i64 p.1) (fun p=>decide (s=p.1)) (fun x=>by simp only[nv,if_true,aW])];cases l.findIdx? (fun p=>decide (s=p.1))<;>simp
theorem jP {α:Type}(p:α→Bool):∀(l:List α),(match l.findIdx? p with|some j=>l[j]?|none=>none)=l.find? p
 |[]=>rfl
 |x::r=>by
  simp only[mτ,List.find?_cons];cases p x
  ·simp only[Bool.false_eq_true,if_false];rw[←jP p r];cases r.findIdx? p<;>rfl
  ·rfl
def mO {β:Type}(o:Option β)(E:R)(K:β→R):R:=match o with|none=>E|some v=>K v
theorem aaR {β:Type}(E:R)(K:β→R):mO none E K=E:=rfl
theorem WH {β:Type}(v:β)(E:R)(K:β→R):mO (some v) E K=K v:=rfl
theorem lkS {β:Type}(l:List (List Nat×β))(s:List Nat)(e:β→Da)(E:R)(K:Da→R):(cL (bU .string (.str s) (l.map fun p=> .str p.1) 0) fun y=>iV y E fun n=>cL (l.map fun p=>e p.2)[n]? K)=mO (c8 l s) E fun v=>K (e v):=by
 rw[TP];unfold c8;rw[←jP];cases h:l.findIdx? (fun p=>decide (s=p.1))with
 |none=>rfl
 |some j=>
  have hj:j<l.length:=(lτ.1 h).1;simp only[bf,SE,lχ,lγ hj,Option.map_some,WH]
theorem Qk {α β:Type}{l:List (α×β)}{j:Nat}{s:α}{v:β}{hj:j<l.length}(h:l[j].1=s):(l.set j (s,v)).map (·.1)=l.map (·.1):=by
 apply List.ext_getElem?;intro k;simp only[lχ,List.getElem?_set];by_cases hk:j=k
 ·subst hk;simp[hj,←h]
 ·simp[hk]
theorem upS {β:Type}(l:List (List Nat×β))(s:List Nat)(e:β→Da)(v:β)(G:List Da→List Da→R):(cL (bU .string (.str s) (l.map fun p=> .str p.1) 0) fun y=>iV y (G ((l.map fun p=> .str p.1)++[.str s]) ((l.map fun p=>e p.2)++[e v])) fun n=>G (l.map fun p=> .str p.1) ((l.map fun p=>e p.2).set n (e v)))=G ((nK l s v).map fun p=> .str p.1) ((nK l s v).map fun p=>e p.2):=by
 rw[TP];unfold nK;cases h:l.findIdx? (fun p=>decide (s=p.1))with
 |none=>simp only[bf,aa9,List.map_append,List.map_cons,List.map_nil]
 |some j=>
  obtain⟨hj,hp,_⟩:=lτ.1 h;have hk:(l.set j (s,v)).map (·.1)=l.map (·.1):=Qk (hj:=hj) (by simpa using(of_decide_eq_true hp).symm);simp only[bf,SE];congr 1
  ·have:=congrArg (List.map Da.str) hk;simp only[List.map_map]at this;exact this.symm
  ·rw[List.map_set]
theorem upI {β:Type}(l:List (Int×β))(s:Int)(e:β→Da)(v:β)(G:List Da→List Da→R):(cL (bU (.int .i64) (.int .i64 s) (l.map fun p=> .int .i64 p.1) 0) fun y=>iV y (G ((l.map fun p=> .int .i64 p.1)++[.int .i64 s]) ((l.map fun p=>e p.2)++[e v])) fun n=>G (l.map fun p=> .int .i64 p.1) ((l.map fun p=>e p.2).set n (e v)))=G ((tv l s v).map fun p=> .int .i64 p.1) ((tv l s v).map fun p=>e p.2):=by
 rw[adf];unfold tv;cases h:l.findIdx? (fun p=>decide (s=p.1))with
 |none=>simp only[bf,aa9,List.map_append,List.map_cons,List.map_nil]
 |some j=>
  obtain⟨hj,hp,_⟩:=lτ.1 h;have hk:(l.set j (s,v)).map (·.1)=l.map (·.1):=Qk (hj:=hj) (by simpa using(of_decide_eq_true hp).symm);simp only[bf,SE];congr 1
  ·have:=congrArg (List.map (Da.int .i64)) hk;simp only[List.map_map]at this;exact this.symm
  ·rw[List.map_set]
structure CS where
 pr:List Ac
 fs:List (List Nat×Vr)
 ns:List No
 re:Int
 nd:Int
 er:Int
 sc:List (List Nat×Vr)
 le:List (List Nat×Bool)
 lo:List Pa
 ki:List (Int×Int)
 va:List (Int×Vr)
def CS.k (c:CS):eA:=⟨c.pr.map Ac.e,c.fs.map fun p=> .str p.1,c.fs.map fun p=>p.2.e,c.ns.map No.e,c.re,c.lo.length,c.nd,c.er,c.sc.map fun p=> .str p.1,c.sc.map fun p=>p.2.e,c.le.map fun p=> .str p.1,c.le.map fun p=> .bool p.2,c.lo.map Pa.e,c.ki.map fun p=> .int .i64 p.1,c.ki.map fun p=> .int .i64 p.2,c.va.map fun p=> .int .i64 p.1,c.va.map fun p=>p.2.e⟩
theorem pd (c:CS)(K:eA→R):aQ c.k.hp K=K c.k:=rfl
def jR (o:Option Nat):Int:=match o with|some j=>j|none=> -1
end
end Go.Ab
end
section
namespace Go.Ab
open Go
set_option maxRecDepth 100000
def ac6:List Nat→List Nat→Bool
 |[],[]=>true
 |a::r,b::s=>Nat.beq a b&&ac6 r s
 |_,_=>false
theorem TN:∀{a b:List Nat},ac6 a b=true→a=b
 |[],[],_=>rfl
 |[],_::_,h=>by cases h
 |_::_,[],h=>by cases h
 |a::r,b::s,h=>by
  simp only[ac6,lδ]at h;rw[lζ h.1,TN h.2]
def AC (P:Program)(k:IntKind)(t:TypeId):Bool:=match P.underlying t with|some (.int k')=>decide (k'=k)|_=>false
def wj (P:Program)(t:TypeId):Bool:=match P.underlying t with|some .string=>true|_=>false
def xX (P:Program)(t e z:Nat):Bool:=match P.underlying t with|some (.slice e')=>Nat.beq e' e&&Nat.beq (P.cellsOf e) z|_=>false
def ta (P:Program)(t:Nat)(ts:List Nat):Bool:=match P.underlying t with|some (.struct fs)=>ac6 (fs.toList.map (·.type)) ts|_=>false
def Ku (C:TypeId→List Da→Prop):List TypeId→List Da→Prop
 |[],xs=>xs=[]
 |t::r,xs=>∃ys zs,xs=ys++zs∧C t ys∧Ku C r zs
theorem E3 {C:TypeId→List Da→Prop}:∀{fs:List Field} {xs:List Da},xM C fs xs→Ku C (fs.map (·.type)) xs
 |[],_,h=>h
 |f::r,xs,⟨ys,zs,h1,h2,h3⟩=>⟨ys,zs,h1,h2,E3 h3⟩
section
variable {P:Program} {B:TypeId→Nat} {n t:Nat} {xs:List Da} {x:Da}
theorem tL {k:IntKind}(h:AC P k t=true)(hc:ck P B (n+1) t xs):∃i,xs=[.int k i]∧(Lit.int k i).wf=true:=by
 unfold AC at h;simp only[ck]at hc;split at h
 ·rename_i hu;rw[hu]at hc;have:=of_decide_eq_true h;subst this;exact hc
 ·cases h
theorem ahE (h:wj P t=true)(hc:ck P B (n+1) t xs):∃s,xs=[.str s]:=by
 unfold wj at h;simp only[ck]at hc;split at h
 ·rename_i hu;rw[hu]at hc;obtain⟨s,rfl,_⟩:=hc;exact⟨s,rfl⟩
 ·cases h
theorem uk (h:wj P t=true)(hc:ck P B (n+1) t xs):∃s,xs=[.str s]∧s.length<9223372036854775808:=by
 unfold wj at h;simp only[ck]at hc;split at h
 ·rename_i hu;rw[hu]at hc;obtain⟨s,rfl,hl,_⟩:=hc;have:maxLen=9223372036854775807:=rfl;exact⟨s,rfl,by omega⟩
 ·cases h
theorem Gv {e z:Nat}(h:xX P t e z=true)(hc:ck P B (n+1) t xs):∃es,xs=[.slice z es]∧es.length≤B e∧∀x∈es,lO P (ck P B n) e x:=by
 unfold xX at h;simp only[ck]at hc;split at h
 ·rename_i hu;rw[hu]at hc;rw[lδ]at h;obtain⟨es,rfl,_,h2,h3⟩:=hc;have h4:=lζ h.1;subst h4;rw[lζ h.2];exact⟨es,rfl,h2,h3⟩
 ·cases h
theorem Gw {ts:List Nat}(h:ta P t ts=true)(hc:ck P B (n+1) t xs):Ku (ck P B n) ts xs:=by
 unfold ta at h;simp only[ck]at hc;split at h
 ·rename_i hu;rw[hu]at hc;rw[←TN h];exact E3 hc
 ·cases h
theorem Am {ts:List Nat}{C:TypeId→List Da→Prop}(h:ta P t ts=true)(hc:lO P C t x):∃cs,x= .agg cs∧C t cs:=by
 unfold ta at h;unfold lO at hc;split at h
 ·rename_i hu;have:nt P t=true:=by unfold nt;rw[hu]
  rw[this]at hc;exact hc
 ·cases h
theorem TD {k:IntKind}{C:TypeId→List Da→Prop}(h:AC P k t=true)(hc:lO P C t x):C t [x]:=by
 unfold AC at h;unfold lO at hc;split at h
 ·rename_i hu;have:nt P t=false:=by unfold nt;rw[hu]
  rw[this]at hc;exact hc
 ·cases h
theorem acJ {C:TypeId→List Da→Prop}(h:wj P t=true)(hc:lO P C t x):C t [x]:=by
 unfold wj at h;unfold lO at hc;split at h
 ·rename_i hu;have:nt P t=false:=by unfold nt;rw[hu]
  rw[this]at hc;exact hc
 ·cases h
end
theorem lB {α:Type}{f:α→Da}{Q:α→Prop}:∀{es:List Da},(∀x∈es,∃a,x=f a∧Q a)→∃l:List α,es=l.map f∧∀a∈l,Q a
 |[],_=>⟨[],rfl,fun _ h=>by cases h⟩
 |x::es,h=>by
  obtain⟨a,rfl,ha⟩:=h x (lυ ..);obtain⟨l,rfl,hl⟩:=lB (es:=es) fun y hy=>h y (lψ _ hy)
  refine⟨a::l,rfl,fun b hb=>?_⟩
  rcases mγ.1 hb with rfl|hb
  ·exact ha
  ·exact hl b hb
noncomputable section
abbrev Bn:TypeId→Nat:=fun _=>1048576
abbrev CT (n t:Nat)(xs:List Da):Prop:=ck prog0 Bn n t xs
abbrev DT (n t:Nat)(x:Da):Prop:=lO prog0 (ck prog0 Bn n) t x
theorem isI:AC prog0 .i64 3=true:=by kernel_rfl
theorem isS:wj prog0 9=true:=by kernel_rfl
theorem ajk:xX prog0 51 3 1=true:=by kernel_rfl
theorem ajm:xX prog0 31 9 1=true:=by kernel_rfl
theorem aif:ta prog0 67 [3,3,9,51,31]=true:=by kernel_rfl
theorem aax:ta prog0 69 [3,9,67,51]=true:=by kernel_rfl
theorem aeV:ta prog0 76 [9,3]=true:=by kernel_rfl
theorem aeT:ta prog0 74 [9,3,67]=true:=by kernel_rfl
theorem adr:xX prog0 70 69 8=true:=by kernel_rfl
theorem agB:xX prog0 63 76 2=true:=by kernel_rfl
theorem agz:xX prog0 32 74 7=true:=by kernel_rfl
theorem aeU:ta prog0 72 [9,63,3,70]=true:=by kernel_rfl
theorem agA:xX prog0 42 72 4=true:=by kernel_rfl
theorem aib:ta prog0 44 [9,32,42]=true:=by kernel_rfl
theorem aic:xX prog0 22 44 3=true:=by kernel_rfl
theorem aeW:ta prog0 24 [22]=true:=by kernel_rfl
theorem Za {n:Nat}{xs:List Da}(h:CT (n+2) 51 xs):∃l:List Int,xs=[.slice 1 (l.map iE)]∧l.length≤1048576:=by
 obtain⟨es,rfl,h1,h2⟩:=Gv ajk h;obtain⟨l,rfl,_⟩:=lB (f:=iE) (Q:=fun _=>True) (es:=es) fun x hx=>by
  obtain⟨i,e,_⟩:=tL isI (TD isI (h2 x hx));simp only[lμ,and_true]at e;exact⟨i,e,trivial⟩
 exact⟨l,rfl,by simpa using h1⟩
theorem afH {n:Nat}{xs:List Da}(h:CT (n+2) 31 xs):∃l:List (List Nat),xs=[.slice 1 (l.map .str)]∧l.length≤1048576:=by
 obtain⟨es,rfl,h1,h2⟩:=Gv ajm h;obtain⟨l,rfl,_⟩:=lB (f:=Da.str) (Q:=fun _=>True) (es:=es) fun x hx=>by
  obtain⟨i,e⟩:=ahE isS (acJ isS (h2 x hx));simp only[lμ,and_true]at e;exact⟨i,e,trivial⟩
 exact⟨l,rfl,by simpa using h1⟩
def Va.cs (v:Va):List Da:=[.int .i64 v.k,.int .i64 v.n,.str v.s,.slice 1 (v.I.map iE),.slice 1 (v.L.map .str)]
end
end Go.Ab
end
section
namespace Go.Ab
open Go
noncomputable section
def iR (c:CS)(i e:Int):CS:=if c.er=0 then {c with nd:=i,er:=e}else c
def cj (c:CS)(i:Int)(b:Bool):CS:=if b=true then c else iR c i 15
def pJ (c:CS)(s:List Nat):Option Vr:=match c8 c.fs s with
 |some v=>some v
 |none=>c8 c.sc s
def my (c:CS)(i:Int)(s:List Nat):Vr×CS:=match pJ c s with
 |some v=>(v,{c with va:=tv c.va i v})
 |none=>(⟨0,0,false⟩,iR c i 14)
def nf (c:CS)(s:List Nat)(k:Int):Option CS:=if c.lo.length<1000000000 then some {c with sc:=nK c.sc s ⟨k,c.lo.length,false⟩,le:=nK c.le s true,lo:=c.lo++[⟨s,k⟩]}else none
def Ap (c:CS)(s:List Nat):Bool:=match c8 c.fs s with
 |some _=>true
 |none=>match c8 c.le s with
  |some b=>b
  |none=>false
def qS (c:CS)(i:Int)(n:No):CS:=if Ap c n.name=true then iR c i 7 else if c.lo.length=8 then iR c i 5 else c
def yh (c:CS)(i:Int)(n:No)(k:Int):Option CS:=match nf (cj (qS c i n) i (decide (k=n.v.k))) n.name n.v.k with
 |some c=>some (my c i n.name).2
 |none=>none
theorem qc {n:Nat}(c:CS)(i e:Int):evFn lay0.tab (n+1) 230 [.box 0 0,.p (.int .i64 i),.p (.int .i64 e)] c.k.hp=some (.tup [],(iR c i e).k.hp):=by
 apply abL n c.k i e;unfold Jp iR;rw[aW,ep];show(if c.er=0 then _ else _)=_;by_cases h:c.er=0
 ·rw[if_pos h,if_pos h];rfl
 ·rw[if_neg h,if_neg h]
theorem nM {n:Nat}(c:CS)(i:Int)(b:Bool):evFn lay0.tab (n+2) 184 [.box 0 0,.p (.int .i64 i),.p (.bool b)] c.k.hp=some (.tup [],(cj c i b).k.hp):=by
 apply abO (n+1) c.k i b;unfold Js cj;cases b
 ·simp only[aR,ab (qc (n:=n) c i 15),bH,aC,pd];rfl
 ·rfl
theorem abE {n:Nat}(c:CS)(s:List Nat):evFn lay0.tab (n+1) 268 [.box 0 0,.p (.str s)] c.k.hp=some (.tup [.p ((pJ c s).getD ⟨0,0,false⟩).e,.p (.bool (pJ c s).isSome)],c.k.hp):=by
 apply abM n c.k s;unfold Jq pJ;simp only[CS.k,lkS,dVr];cases c8 c.fs s with
 |some v=>rfl
 |none=>cases c8 c.sc s<;>rfl
theorem QL {n:Nat}(c:CS)(i:Int)(s:List Nat):evFn lay0.tab (n+2) 233 [.box 0 0,.p (.int .i64 i),.p (.str s)] c.k.hp=some (.p (my c i s).1.e,(my c i s).2.k.hp):=by
 apply afk (n+1) c.k i s;unfold QU my;simp only[ab (abE (n:=n) c s),bH,ec,aC,ba,dVr,aD,bt];cases pJ c s with
 |none=>simp only[Option.isSome_none,aR,ab (qc (n:=n) c i 14),bH,aC,pd];rfl
 |some v=>
  simp only[Option.isSome_some,aO,Option.getD_some];exact upI c.va i Vr.e v fun ks vs=>some (.p v.e,eA.hp {c.k with vk:=ks,vv:=vs})
theorem jK {n b:Nat}(h:n<1000000001)(hb:b≤1000):cR n b=true:=by
 unfold cR;rw[lδ,Nat.ble_eq,Nat.ble_eq];constructor
 ·calc (2*n+192)*b≤(2*1000000001+192)*1000:=Nat.mul_le_mul (by omega) hb
   _≤281474976710656:=by decide
 ·omega
theorem ajD {β γ:Type}(l:List (List Nat×β))(m:List (List Nat×γ))(s:List Nat)(e:β→Da)(v:β)(e':γ→Da)(w:γ)(G:List Da→List Da→List Da→List Da→R):
  (cL (bU .string (.str s) (l.map fun p=> .str p.1) 0) fun y=>iV y
   (cL (bU .string (.str s) (m.map fun p=> .str p.1) 0) fun y=>iV y
    (G ((l.map fun p=> .str p.1)++[.str s]) ((l.map fun p=>e p.2)++[e v]) ((m.map fun p=> .str p.1)++[.str s]) ((m.map fun p=>e' p.2)++[e' w])) fun n=>
    G ((l.map fun p=> .str p.1)++[.str s]) ((l.map fun p=>e p.2)++[e v]) (m.map fun p=> .str p.1) ((m.map fun p=>e' p.2).set n (e' w))) fun n=>
   (cL (bU .string (.str s) (m.map fun p=> .str p.1) 0) fun y=>iV y
    (G (l.map fun p=> .str p.1) ((l.map fun p=>e p.2).set n (e v)) ((m.map fun p=> .str p.1)++[.str s]) ((m.map fun p=>e' p.2)++[e' w])) fun n'=>
    G (l.map fun p=> .str p.1) ((l.map fun p=>e p.2).set n (e v)) (m.map fun p=> .str p.1) ((m.map fun p=>e' p.2).set n' (e' w))))=
  G ((nK l s v).map fun p=> .str p.1) ((nK l s v).map fun p=>e p.2) ((nK m s w).map fun p=> .str p.1) ((nK m s w).map fun p=>e' p.2):=by
 have h1:=fun a b=>upS m s e' w (G a b)
 simp only[h1];exact upS l s e v fun a b=>G a b _ _
theorem Dw {n:Nat}(c c':CS)(s:List Nat)(k:Int)(h:nf c s k=some c'):evFn lay0.tab (n+1) 127 [.box 0 0,.p (.str s),.p (.int .i64 k)] c.k.hp=some (.tup [],c'.k.hp):=by
 apply Ri n c.k s k;unfold nf at h;by_cases hl:c.lo.length<1000000000
 ·rw[if_pos hl]at h;simp only[lα]at h;subst h;unfold vC;have hb:cR (c.k.lo.length+List.length [Da.agg [Da.str s,Da.int .i64 k]]) 24=true:=jK (by simp[CS.k];omega) (by decide);have hn:Nat.beq c.k.ln c.k.lo.length=true:=by simp[CS.k]
  simp only[hb,hn,aO];refine(ajD c.sc c.le s Vr.e ⟨k,c.lo.length,false⟩ Da.bool true fun a b d e=>some (.tup [],eA.hp {c.k with ln:=(c.k.lo++[Da.agg [Da.str s,Da.int .i64 k]]).length,sk:=a,sv:=b,lk:=d,lv:=e,lo:=c.k.lo++[Da.agg [Da.str s,Da.int .i64 k]]})).trans ?_;simp only[CS.k,mπ,lβ,List.length_cons,List.length_nil,List.map_append,List.map_cons,List.map_nil];rfl
 ·rw[if_neg hl]at h;cases h
theorem aff {n:Nat}(c c':CS)(i:Int)(x:No)(k:Int)(h:yh c i x k=some c'):evFn lay0.tab (n+3) 236 [.box 0 0,.p (.int .i64 i),.p x.e,.p (.int .i64 k)] c.k.hp=some (.tup [],c'.k.hp):=by
 apply afj (n+2) c.k i x.r k;unfold yh at h;split at h
 ·rename_i c3 h3;simp only[lα]at h;subst h;have tail:(br lay0.tab (n+2) 184 [.box 0 0,.p (.int .i64 i),.p (.bool (av k x.r.Value_Kind))] (qS c i x).k.hp fun d o=>bd d fun r=>aw r<|aQ o fun u=>br lay0.tab (n+2) 127 [.box 0 0,.p (.str x.r.Name),.p (.int .i64 x.r.Value_Kind)] u.hp fun d o=>bd d fun r=>aw r<|aQ o fun u=>br lay0.tab (n+2) 233 [.box 0 0,.p (.int .i64 i),.p (.str x.r.Name)] u.hp fun d o=>dP d fun y=>bb y fun v=>aQ o fun u=>some (.tup [],u.hp))=some (.tup [],(my c3 i x.name).2.k.hp):=by
   have e1:av k x.r.Value_Kind=decide (k=x.v.k):=aW _ _;rw[e1];simp only[ab (nM (n:=n) (qS c i x) i _),bH,aC,pd];have e2:evFn lay0.tab (n+2) 127 [.box 0 0,.p (.str x.r.Name),.p (.int .i64 x.r.Value_Kind)] (cj (qS c i x) i (decide (k=x.v.k))).k.hp=some (.tup [],c3.k.hp):=Dw _ _ _ _ h3;simp only[ab e2,bH,aC,pd];have e3:evFn lay0.tab (n+2) 233 [.box 0 0,.p (.int .i64 i),.p (.str x.r.Name)] c3.k.hp=some (.p (my c3 i x.name).1.e,(my c3 i x.name).2.k.hp):=QL (n:=n) _ _ _;simp only[ab e3,ba,dVr,pd]
  have f7:=qc (n:=n+1) c i 7;have f5:=qc (n:=n+1) c i 5;unfold qS at tail;have e0:av (↑c.k.ln) 8=decide (c.lo.length=8):=by
   rw[aW];show decide ((c.lo.length:Int)=8)=_;rw[mδ,lη,lη];omega
  unfold QT;unfold Ap at tail;rw[e0];have hfs:∀(E:R) (K:Da→R),(cL (bU TypeDesc.string (Da.str x.r.Name) c.k.fk 0) fun y=>iV y E fun n=>cL c.k.fv[n]? K)=mO (c8 c.fs x.name) E fun v=>K v.e:=fun E K=>lkS c.fs x.name Vr.e E K
  have hle:∀(E:R) (K:Da→R),(cL (bU TypeDesc.string (Da.str x.r.Name) c.k.lk 0) fun y=>iV y E fun n=>cL c.k.lv[n]? K)=mO (c8 c.le x.name) E fun v=>K (.bool v):=fun E K=>lkS c.le x.name Da.bool E K
  rw[hle,hfs];cases hg:c8 c.fs x.name with
  |some v=>
   simp only[hg,if_true]at tail;simp only[WH,dVr,ab f7,bH,aC,pd];exact tail
  |none=>
   simp only[hg]at tail;simp only[aaR];cases hh:c8 c.le x.name with
   |some b=>
    simp only[hh]at tail;simp only[WH,aD];cases b
    ·simp only[Bool.false_eq_true,if_false]at tail;simp only[aR,ep];by_cases h8:c.lo.length=8
     ·rw[if_pos h8]at tail ⊢
      simp only[ab f5,bH,aC,pd];exact tail
     ·rw[if_neg h8]at tail ⊢
      exact tail
    ·simp only[if_true]at tail;simp only[aO,ab f7,bH,aC,pd];exact tail
   |none=>
    simp only[hh,Bool.false_eq_true,if_false]at tail;simp only[aaR,ep];by_cases h8:c.lo.length=8
    ·rw[if_pos h8]at tail ⊢
     simp only[ab f5,bH,aC,pd];exact tail
    ·rw[if_neg h8]at tail ⊢
     exact tail
 ·cases h
end
end Go.Ab
end
section
namespace Go.Ab
open Go
noncomputable section
def j2 (pr:List Ac)(t m:List Nat):Option Me:=match pr.find? fun a=>decide (a.name=t)with
 |some a=>a.methods.find? fun x=>decide (x.name=m)
 |none=>none
theorem QR {n:Nat}(a:Ac)(s:List Nat):evFn lay0.tab (n+1) 89 [.p a.e,.box 0 0] [.box [.p (.str s)]]=some (.p (.bool (decide (a.name=s))),[.box [.p (.str s)]]):=by
 apply Ru n a.r s;unfold vM;show iL (aN a.name s) _ _=_;rw[de];cases decide (a.name=s)<;>rfl
theorem QS {n:Nat}(a:Me)(s:List Nat):evFn lay0.tab (n+1) 91 [.p a.e,.box 0 0] [.box [.p (.str s)]]=some (.p (.bool (decide (a.name=s))),[.box [.p (.str s)]]):=by
 apply Rw n a.r s;unfold vN;show iL (aN a.name s) _ _=_;rw[de];cases decide (a.name=s)<;>rfl
theorem U6 {n:Nat}(ts:List Ac)(s:List Nat)(h:ts.length<1501):evFn lay0.tab (n+1503) 81 [.p (.slice 3 (ts.map Ac.e)),.fn 89 [.box 0 0]] [.box [.p (.str s)]]=some (.p (.int .i64 (jR (ts.findIdx? fun t=>decide (t.name=s)))),[.box [.p (.str s)]]):=by
 apply Vy (n+1502) (ts.map Ac.e) s;unfold zK;rw[lβ];refine(aT ts (fun q i=>oe _ (n+1502) _ _ q (ts.map Ac.e,(ts.length:Int),i,s)) (fun t=>decide (t.name=s)) (fun i=>some (.p (.int .i64 i),[.box [.p (.str s)]])) (some (.p (.int .i64 (-1)),[.box [.p (.str s)]])) (fun q i hi=>?_) (fun q=>?_) (by omega)).trans ?_
 ·rw[w8];simp only[lh,cG (show((i:Int)<(ts.length:Int)) by omega),aO,aE,aM,aI hi,bf,GZ,wS (show i<bT by unfold bT;omega)];have:=QR (n:=n+1501) ts[i] s;simp only[Ac.e]at this;simp only[ab this,ba,aD,bt];exact cU _ _ _
 ·rw[w8];simp only[lh,bX,aR]
 ·cases ts.findIdx? fun t=>decide (t.name=s)<;>rfl
theorem U5 {n:Nat}(ts:List Me)(s:List Nat)(h:ts.length<1501):evFn lay0.tab (n+1503) 90 [.p (.slice 4 (ts.map Me.e)),.fn 91 [.box 0 0]] [.box [.p (.str s)]]=some (.p (.int .i64 (jR (ts.findIdx? fun t=>decide (t.name=s)))),[.box [.p (.str s)]]):=by
 apply Vx (n+1502) (ts.map Me.e) s;unfold zJ;rw[lβ];refine(aT ts (fun q i=>od _ (n+1502) _ _ q (ts.map Me.e,(ts.length:Int),i,s)) (fun t=>decide (t.name=s)) (fun i=>some (.p (.int .i64 i),[.box [.p (.str s)]])) (some (.p (.int .i64 (-1)),[.box [.p (.str s)]])) (fun q i hi=>?_) (fun q=>?_) (by omega)).trans ?_
 ·rw[w7];simp only[lg,cG (show((i:Int)<(ts.length:Int)) by omega),aO,aE,aM,aI hi,bf,QB,wS (show i<bT by unfold bT;omega)];have:=QS (n:=n+1501) ts[i] s;simp only[Me.e]at this;simp only[ab this,ba,aD,bt];exact cU _ _ _
 ·rw[w7];simp only[lg,bX,aR]
 ·cases ts.findIdx? fun t=>decide (t.name=s)<;>rfl
theorem HV {n:Nat}(pr:List Ac)(t m:List Nat)(h:pr.length<1501)(hm:∀a∈pr,a.methods.length<1501):evFn lay0.tab (n+1504) 54 [.p (.agg [.slice 3 (pr.map Ac.e)]),.p (.str t),.p (.str m)] []=some (.tup [.p ((j2 pr t m).getD ⟨[],[],0,[]⟩).e,.p (.bool (j2 pr t m).isSome)],[]):=by
 apply VI (n+1503) ⟨pr.map Ac.e⟩ t m;unfold zU j2;simp only[ab (U6 (n:=n) pr t h),ba,dI,bt,bz];rw[←jP];cases ht:pr.findIdx? (fun a=>decide (a.name=t))with
 |none=>rfl
 |some j=>
  have hj:j<pr.length:=(lτ.1 ht).1;simp only[jR,lγ hj];rw[u0 (by omega:¬(j:Int)<0),aR];simp only[aE,aM,aI hj,bf,GZ];have hml:=hm _ (lι hj);have h2:=U5 (n:=n) pr[j].methods m hml;simp only[Ac.r];simp only[ab h2,ba,bz,bt];rw[←jP];cases hk:pr[j].methods.findIdx? (fun a=>decide (a.name=m))with
  |none=>rfl
  |some k=>
   have hk':k<pr[j].methods.length:=(lτ.1 hk).1;simp only[jR,lγ hk'];rw[u0 (by omega:¬(k:Int)<0),aR];simp only[aE,aM,aI hk',bf,QB,Option.getD_some,Option.isSome_some];rfl
theorem qa {α:Type}[DecidableEq α](p:α→α→Bool){xs ys:List α}(hl:xs.length=ys.length)(hp:∀x y,p x y=decide (x=y)):(xs.zip ys).findIdx? (fun t=>!p t.1 t.2)=none↔xs=ys:=by
 induction xs generalizing ys with
 |nil=>cases ys with
  |nil=>simp
  |cons y ys=>simp at hl
 |cons x xs ih=>cases ys with
  |nil=>simp at hl
  |cons y ys=>
   simp only[List.length_cons,Nat.add_right_cancel_iff]at hl;simp only[List.zip_cons_cons,mτ,hp,lμ];by_cases hxy:x=y
   ·simp only[hxy,decide_true,Bool.not_true,Bool.false_eq_true,if_false,true_and,Option.map_eq_none_iff];have:=ih hl;simp only[hp]at this;exact this
   ·simp[hxy]
theorem wL {n:Nat}(xs ys:List Int)(h:xs.length<1501):evFn lay0.tab (n+1503) 48 [.p (.slice 1 (xs.map iE)),.p (.slice 1 (ys.map iE))] []=some (.p (.bool (decide (xs=ys))),[]):=by
 apply XZ (n+1502) (xs.map iE) (ys.map iE);simp only[DW,lβ,aW,co];by_cases hl:xs.length=ys.length
 ·rw[if_pos (by omega)];refine(aT (xs.zip ys) (fun q i=>qA _ (n+1502) _ _ q (xs.map iE,ys.map iE,(xs.length:Int),i)) (fun t=>!av t.1 t.2) (fun i=>some (.p (.bool false),[])) (some (.p (.bool true),[])) (fun q i hi=>?_) (fun q=>?_) (by simp[mν];omega)).trans ?_
  ·simp only[mν]at hi;rw[Bm];simp only[mU,cG (show((i:Int)<(xs.length:Int)) by omega),aO,aE,aM,aI (show i<xs.length by omega),aI (show i<ys.length by omega),bf,dI,wS (show i<bT by unfold bT;omega),List.getElem_zip];exact cU _ _ _
  ·rw[Bm];simp only[mU,mν,hl,Nat.min_self,bX,aR]
  ·have key:=qa av hl aW;cases hf:(xs.zip ys).findIdx? (fun t=>!av t.1 t.2)with
   |none=>simp[key.1 hf]
   |some j=>
    have:¬xs=ys:=fun e=>by rw[key.2 e]at hf;cases hf
    simp[this]
 ·rw[if_neg (by omega)];have:¬xs=ys:=fun e=>hl (by rw[e])
  simp[this]
theorem Xt {n:Nat}(k:Int)(p:Pa):evFn lay0.tab (n+1) 232 [.p (.int .i64 k),.p p.e] []=some (.p (.bool (decide (k=p.kind))),[]):=by
 apply XO n k p.r;unfold DJ;show iL (av k p.kind) _ _=_;rw[aW];cases decide (k=p.kind)<;>rfl
theorem aei {xs:List Int}{ps:List Pa}{i:Nat}(hi:i<(xs.zip (ps.map (·.kind))).length)(h1:i<xs.length)(h2:i<ps.length):(xs.zip (ps.map (·.kind)))[i]=(xs[i],ps[i].kind):=by simp
theorem Jh {n:Nat}(xs:List Int)(ps:List Pa)(h:xs.length<1501):evFn lay0.tab (n+1503) 231 [.p (.slice 1 (xs.map iE)),.p (.slice 2 (ps.map Pa.e)),.p (.fn 232 [])] []=some (.p (.bool (decide (xs=ps.map (·.kind)))),[]):=by
 apply J1 (n+1502) (xs.map iE) (ps.map Pa.e);simp only[qn,lβ,aW,co];by_cases hl:xs.length=ps.length
 ·rw[if_pos (by omega)];refine(aT (xs.zip (ps.map (·.kind))) (fun q i=>jq _ (n+1502) _ _ q (ps.map Pa.e,xs.map iE,(xs.length:Int),i)) (fun t=>!av t.1 t.2) (fun i=>some (.p (.bool false),[])) (some (.p (.bool true),[])) (fun q i hi=>?_) (fun q=>?_) (by simp[mν];omega)).trans ?_
  ·have hi':=hi;simp only[mν,lβ]at hi;rw[rj];have h1:i<xs.length:=by omega
   have h2:i<ps.length:=by omega
   simp only[fT,cG (show((i:Int)<(xs.length:Int)) by omega),aO,aE,aM,aI h1,aI h2,bf,dI,dPa,wS (show i<bT by unfold bT;omega)];have:=Xt (n:=n+1501) xs[i] ps[i];simp only[Pa.e]at this;simp only[ab this,ba,aD,bt,aei hi' h1 h2,aW];cases decide (xs[i]=ps[i].kind)<;>rfl
  ·rw[rj];simp only[fT,mν,lβ,hl,Nat.min_self,bX,aR]
  ·have key:=qa av (ys:=ps.map (·.kind)) (by simpa using hl) aW;cases hf:(xs.zip (ps.map (·.kind))).findIdx? (fun t=>!av t.1 t.2)with
   |none=>simp[key.1 hf]
   |some j=>
    have:¬xs=ps.map (·.kind):=fun e=>by rw[key.2 e]at hf;cases hf
    simp[this]
 ·rw[if_neg (by omega)];have:¬xs=ps.map (·.kind):=fun e=>hl (by rw[e];simp)
  simp[this]
def RI (c:CS)(i:Int)(x:No)(ks:List Int):Option (Int×CS):=match j2 c.pr x.name x.v.s with
 |none=>some (0,iR c i 14)
 |some m=>match ks with
  |[]=>none
  |k::r=>some (m.result,cj c i (decide (k=3)&&decide (r=m.params.map (·.kind))))
theorem abD {n:Nat}(c c':CS)(i k:Int)(x:No)(ks:List Int)(h:RI c i x ks=some (k,c'))(hl:ks.length<1501)(h1:c.pr.length<1501)(h2:∀a∈c.pr,a.methods.length<1501):evFn lay0.tab (n+1505) 181 [.box 0 0,.p (.int .i64 i),.p x.e,.p (.slice 1 (ks.map iE))] c.k.hp=some (.p (.int .i64 k),c'.k.hp):=by
 apply abK (n+1504) c.k i x.r (ks.map iE);unfold Jo;have h3:=HV (n:=n) c.pr x.name x.v.s h1 h2;show(br lay0.tab (n+1504) 54 [.p (.agg [.slice 3 (c.pr.map Ac.e)]),.p (.str x.name),.p (.str x.v.s)] [] _)=_;simp only[ab h3,bH,ec,aC,ba,QB,aD,bt];unfold RI at h;cases hq:j2 c.pr x.name x.v.s with
 |none=>
  rw[hq]at h;simp only[lα,lε]at h;obtain⟨rfl,rfl⟩:=h;have f:=qc (n:=n+1503) c i 14;simp only[Option.isSome_none,aR,ab f,bH,aC,pd]
 |some m=>
  rw[hq]at h;simp only[Option.isSome_some,aO,Option.getD_some];cases ks with
  |nil=>cases h
  |cons k0 r=>
   simp only[lα,lε]at h;obtain⟨rfl,rfl⟩:=h;have hle:bm 1 (((k0::r).map iE).length:Int)=true:=by rw[bE];simp;omega
   have hsl:List.take (((k0::r).map iE).length - Int.toNat 1) (List.drop (Int.toNat 1) ((k0::r).map iE))=r.map iE:=by
    show List.take ((r.map iE).length+1 - 1) (r.map iE)=_;rw[Nat.add_sub_cancel,List.take_length]
   rw[hle,hsl,aO];have hr:r.length<1501:=by simp only[List.length_cons]at hl;omega
   have q:=Jh (n:=n+1) r m.params hr;have at0:bx ((k0::r).map iE) 0=some (iE k0):=rfl;rw[at0];simp only[bf,dI,Me.r];simp only[ab q,ba,aD,bt,aW];have w:=fun b=>nM (n:=n+1502) c i b
   simp only[ab (w _),bH,aC,pd];cases decide (k0=3)<;>cases decide (r=m.params.map (·.kind))<;>rfl
def EH (s:List Nat)(x y:Int):Int×Bool:=
 bif aN s [38,38]then(2,av x y&&av x 2)else bif aN s [124,124]then(2,av x y&&av x 2)else
 bif aN s [60]then(2,av x y&&(av x 1||av x 3))else bif aN s [60,61]then(2,av x y&&(av x 1||av x 3))else
 bif aN s [62]then(2,av x y&&(av x 1||av x 3))else bif aN s [62,61]then(2,av x y&&(av x 1||av x 3))else
 bif aN s [43]then(x,av x y&&(av x 1||av x 3))else
 bif aN s [45]then(1,av x y&&av x 1)else bif aN s [42]then(1,av x y&&av x 1)else bif aN s [47]then(1,av x y&&av x 1)else bif aN s [37]then(1,av x y&&av x 1)else(2,av x y)
theorem UX {n:Nat}(c:CS)(i:Int)(s:List Nat)(x y:Int):evFn lay0.tab (n+3) 234 [.box 0 0,.p (.int .i64 i),.p (.str s),.p (.int .i64 x),.p (.int .i64 y)] c.k.hp=some (.p (.int .i64 (EH s x y).1),(cj c i (EH s x y).2).k.hp):=by
 apply Vj (n+2) c.k i s x y;unfold zB EH;have w:=fun(c:CS) (b:Bool)=>nM (n:=n) c i b
 have wt:=w c true;have wf:=w c false;simp only[iO,dq,oy,dr,ab wt,ab wf,bH,aC,pd];cases aN s [38,38];rotate_left
 ·cases av x y<;>cases av x 2<;>rfl
 cases aN s [124,124];rotate_left
 ·cases av x y<;>cases av x 2<;>rfl
 cases aN s [60];rotate_left
 ·cases av x y<;>cases av x 1<;>cases av x 3<;>rfl
 cases aN s [60,61];rotate_left
 ·cases av x y<;>cases av x 1<;>cases av x 3<;>rfl
 cases aN s [62];rotate_left
 ·cases av x y<;>cases av x 1<;>cases av x 3<;>rfl
 cases aN s [62,61];rotate_left
 ·cases av x y<;>cases av x 1<;>cases av x 3<;>rfl
 cases aN s [43];rotate_left
 ·cases av x y<;>cases av x 1<;>cases av x 3<;>rfl
 cases aN s [45];rotate_left
 ·cases av x y<;>cases av x 1<;>rfl
 cases aN s [42];rotate_left
 ·cases av x y<;>cases av x 1<;>rfl
 cases aN s [47];rotate_left
 ·cases av x y<;>cases av x 1<;>rfl
 cases aN s [37];rotate_left
 ·cases av x y<;>cases av x 1<;>rfl
 cases av x y<;>rfl
end
end Go.Ab
end
section
namespace Go.Ab
open Go
set_option maxRecDepth 100000
noncomputable section
def AL (c:Int):Bool:=(bm 97 c&&bm c 122)||((bm 65 c&&bm c 90)||av c 95)
def Oe (c:Int):Bool:=bm 48 c&&bm c 57
def Qy (c:Int):Bool:=AL c||Oe c
def WB (s:List Nat):Bool:=[[97,99,116,111,114],[115,116,97,116,101],[109,101,116,104,111,100],[108,101,116],[105,102],[101,108,115,101],[119,104,105,108,101],[114,101,116,117,114,110],[102,97,105,108],[99,97,108,108],[101,109,105,116],[114,101,109,105,110,100],[99,97,110,99,101,108],[115,101,108,102],[116,114,117,101],[102,97,108,115,101],[105,110,116],[98,111,111,108],[115,116,114,105,110,103],[105,110,116,115],[115,116,114,105,110,103,115]].any fun t=>aN s t
theorem bw (a x y:Bool):iL a (some ((.p (.bool x)),[])) (some ((.p (.bool y)),[]))=some ((.p (.bool (bif a then x else y))),[]):=by cases a<;>rfl
theorem dL (a:Bool):(bif a then true else false)=a:=by cases a<;>rfl
theorem Y9 (a:Bool):(bif a then false else true)=!a:=by cases a<;>rfl
theorem gD (a b:Bool):(bif a then b else false)=(a&&b):=by cases a<;>rfl
theorem V0 (a b:Bool):(bif a then true else b)=(a||b):=by cases a<;>rfl
theorem afG (a b:Bool):(bif a then false else b)=(!a&&b):=by cases a<;>rfl
theorem sF {α:Type}(l:List α)(p:α→Bool):(l.all fun x=>!p x)=(l.findIdx? p).isNone:=by
 rw[mδ,mζ,Option.isNone_iff_eq_none,mω];simp
theorem EP (s:List Nat)(K:List Nat→R):j1 (Da.str s) K=K s:=rfl
theorem Xu {n:Nat}(c:Int):evFn lay0.tab (n+1) 165 [.p (.int .u8 c)] []=some (.p (.bool (Oe c)),[]):=by
 apply XQ n c;simp only[DL,bw,dL,gD,Bool.and_true,Oe]
theorem HQ {n:Nat}(c:Int):evFn lay0.tab (n+1) 204 [.p (.int .u8 c)] []=some (.p (.bool (AL c)),[]):=by
 apply Vl n c;unfold zC AL;cases bm 97 c<;>cases bm c 122<;>cases bm 65 c<;>cases bm c 90<;>cases av c 95<;>rfl
theorem Xv {n:Nat}(c:Int):evFn lay0.tab (n+2) 205 [.p (.int .u8 c)] []=some (.p (.bool (Qy c)),[]):=by
 apply XR (n+1) c;simp only[DM,ab (HQ (n:=n) c),ab (Xu (n:=n) c),ba,aD,aC,bw,dL,V0,Bool.or_false,Qy]
theorem Ja {n:Nat}(s:List Nat):evFn lay0.tab (n+1) 164 [.p (.str s)] []=some (.p (.bool (WB s)),[]):=by
 apply JT n s;simp only[qf,bw,dL,V0,WB,List.any_cons,List.any_nil,Bool.or_false]
def Ui (c:Nat):Bool:=!Qy (c:Int)
def ad4 (s:List Nat):Nat:=(s.findIdx? Ui).getD s.length
theorem afg {n:Nat}(s:List Nat)(h:s.length<1501):evFn lay0.tab (n+1504) 161 [.p (.str s),.p (.fn 205 [])] []=some (.p (.int .i64 (ad4 s)),[]):=by
 apply afl (n+1503) s;unfold QV ad4;refine(aT s (fun q i=>wR _ (n+1503) _ q (s,i)) Ui (fun i=>some (.p (.int .i64 i),[])) (some (.p (.int .i64 s.length),[])) (fun q i hi=>?_) (fun q=>?_) (by omega)).trans ?_
 ·rw[HZ];simp only[sD,cG (show((i:Int)<(s.length:Int)) by omega),aO,bE,show(0:Int)≤(i:Int) by omega,decide_true,cond_true,Int.toNat_natCast,lγ hi,bf,wS (show i<bT by unfold bT;omega),show ∀k:Nat,Int.ofNat k=(k:Int)from fun _=>rfl,ab (Xv (n:=n+1501) _),ba,aD,bt];unfold Ui;cases Qy (s[i]:Int)<;>rfl
 ·rw[HZ];simp only[sD,bX,aR]
 ·cases s.findIdx? Ui<;>rfl
def US (s:List Nat):Nat:=bif AL ((s.headD 0:Nat):Int)then ad4 s else 0
theorem abG {n:Nat}(s:List Nat)(h:s.length<1501):evFn lay0.tab (n+1505) 163 [.p (.str s)] []=some (.p (.int .i64 (US s)),[]):=by
 apply abP (n+1504) s;unfold Jt US;cases s with
 |nil=>rfl
 |cons c r=>
  simp only[show aN (c::r) []=false from rfl,aR,show bm 0 0=true from rfl,cond_true,Int.toNat_zero,List.getElem?_cons_zero,bf,show ∀k:Nat,Int.ofNat k=(k:Int)from fun _=>rfl,ab (HQ (n:=n+1503) _),ab (afg (n:=n) _ h),ba,aD,bz,aC,List.headD_cons];cases AL (c:Int)<;>rfl
def cK (s:List Nat):Bool:=!aN s []&&(bm s.length 32&&(av (US s) s.length&&!WB s))
theorem mz {n:Nat}(s:List Nat):evFn lay0.tab (n+1506) 121 [.p (.str s)] []=some (.p (.bool (cK s)),[]):=by
 apply Vk (n+1505) s;by_cases h:s.length<1501
 ·simp only[tP,ab (abG (n:=n) _ h),ab (Ja (n:=n+1504) s),ba,aD,bz,aC,bw,Y9,gD,cK]
 ·have:bm (s.length:Int) 32=false:=by rw[bE];simp only[mα];omega
  simp only[tP,cK,this,aR,Bool.false_and,Bool.and_false];cases aN s []<;>rfl
def gB (k:Int):Bool:=bm 1 k&&bm k 5
theorem tO {n:Nat}(k:Int):evFn lay0.tab (n+1) 174 [.p (.int .i64 k)] []=some (.p (.bool (gB k)),[]):=by
 apply VG n k;simp only[zS,bw,dL,gD,gB,Bool.and_true]
theorem XI {n:Nat}(xs ys:List Int)(h:xs.length<1501∨ys.length<1501):evFn lay0.tab (n+1503) 292 [.p (.slice 1 (xs.map iE)),.p (.slice 1 (ys.map iE))] []=some (.p (.bool (decide (xs=ys))),[]):=by
 apply X8 (n+1502) (xs.map iE) (ys.map iE);unfold D3;simp only[lβ,aW,co];by_cases hl:(xs.length:Int)=ys.length
 ·rw[if_pos hl];have hl':xs.length=ys.length:=by omega
  refine(aT (xs.zip ys) (fun q i=>qB _ (n+1502) _ _ q (xs.map iE,ys.map iE,(xs.length:Int),i)) (fun p=>!decide (p.1=p.2)) (fun i=>some (.p (.bool false),[])) (some (.p (.bool true),[])) (fun q i hi=>?_) (fun q=>?_) (by simp;omega)).trans ?_
  ·have hx:i<xs.length:=by simp at hi;omega
   have hy:i<ys.length:=by omega
   rw[Bs];simp only[mY,cG (show((i:Int)<(xs.length:Int)) by omega),aO,aE,aM,aI hx,aI hy,bf,dI,wS (show i<bT by unfold bT;omega),List.getElem_zip,aW];exact cU _ _ _
  ·rw[Bs];simp only[mY,show((xs.zip ys).length:Int)=xs.length by simp;omega,bX,aR]
  ·have:decide (xs=ys)=((xs.zip ys).all fun p=>!(!decide (p.1=p.2))):=by
    rw[mδ,mζ,lη];constructor
    ·rintro rfl p hp
     obtain⟨i,hi,rfl⟩:=qε hp;simp
    ·intro ha;refine List.ext_getElem hl' fun i h1 h2=>?_
     have:=ha (xs[i],ys[i]) (by rw[←List.getElem_zip (h:=by simp;omega)];exact lι _);simpa using this
   rw[this,sF];cases(xs.zip ys).findIdx? fun p=>!decide (p.1=p.2)<;>rfl
 ·rw[if_neg hl];rw[mβ (by rintro rfl;exact hl rfl)]
theorem XJ {n:Nat}(xs ys:List (List Nat))(h:xs.length<1501∨ys.length<1501):evFn lay0.tab (n+1503) 293 [.p (.slice 1 (xs.map .str)),.p (.slice 1 (ys.map .str))] []=some (.p (.bool (decide (xs=ys))),[]):=by
 apply X9 (n+1502) (xs.map .str) (ys.map .str);unfold D4;simp only[lβ,aW,co];by_cases hl:(xs.length:Int)=ys.length
 ·rw[if_pos hl];have hl':xs.length=ys.length:=by omega
  refine(aT (xs.zip ys) (fun q i=>qC _ (n+1502) _ _ q (xs.map .str,ys.map .str,(xs.length:Int),i)) (fun p=>!decide (p.1=p.2)) (fun i=>some (.p (.bool false),[])) (some (.p (.bool true),[])) (fun q i hi=>?_) (fun q=>?_) (by simp;omega)).trans ?_
  ·have hx:i<xs.length:=by simp at hi;omega
   have hy:i<ys.length:=by omega
   rw[Bt];simp only[mZ,cG (show((i:Int)<(xs.length:Int)) by omega),aO,aE,aM,aI hx,aI hy,bf,EP,wS (show i<bT by unfold bT;omega),List.getElem_zip,de];exact cU _ _ _
  ·rw[Bt];simp only[mZ,show((xs.zip ys).length:Int)=xs.length by simp;omega,bX,aR]
  ·have:decide (xs=ys)=((xs.zip ys).all fun p=>!(!decide (p.1=p.2))):=by
    rw[mδ,mζ,lη];constructor
    ·rintro rfl p hp
     obtain⟨i,hi,rfl⟩:=qε hp;simp
    ·intro ha;refine List.ext_getElem hl' fun i h1 h2=>?_
     have:=ha (xs[i],ys[i]) (by rw[←List.getElem_zip (h:=by simp;omega)];exact lι _);simpa using this
   rw[this,sF];cases(xs.zip ys).findIdx? fun p=>!decide (p.1=p.2)<;>rfl
 ·rw[if_neg hl];rw[mβ (by rintro rfl;exact hl rfl)]
def ga {α:Type}(l:List α):Int:=(l.length:Int)
def H6 (v:Va):Bool:=aX v.k 0||aX 5 v.k
def H7 (v:Va):Bool:=!av v.n 0&&(!av v.k 1&&(!av v.k 2||!av v.n 1))
def To (v:Va):Bool:=(!aN v.s []&&!av v.k 3)||((aX 0 (ga v.I)&&!av v.k 4)||(aX 0 (ga v.L)&&!av v.k 5))
def xp (v:Va):Bool:=aX 64 (ga v.s)||(aX 16 (ga v.I)||aX 16 (ga v.L))
def uy (v:Va):Bool:=!H6 v&&(!H7 v&&(!To v&&(!xp v&&v.L.all fun t=>!aX 64 (ga t))))
def Va.c (v:Va):List Da:=[.int .i64 v.k,.int .i64 v.n,.str v.s,.slice 1 (v.I.map iE),.slice 1 (v.L.map .str)]
def gb (a b:Va):Bool:=av a.k b.k&&(av a.n b.n&&(aN a.s b.s&&(decide (a.I=b.I)&&decide (a.L=b.L))))
def Va.r (v:Va):aP:=⟨v.k,v.n,v.s,v.I.map iE,v.L.map .str⟩
theorem abI {n:Nat}(a b:Va)(hi:a.I.length<1501∨b.I.length<1501)(hl:a.L.length<1501∨b.L.length<1501):evFn lay0.tab (n+1504) 264 [.p (.agg a.c),.p (.agg b.c)] []=some (.p (.bool (gb a b)),[]):=by
 apply abW (n+1503) a.r b.r;unfold JA;show iL (av a.k b.k) _ _=_;have h1:=ab (XI (n:=n) a.I b.I hi);have h2:=ab (XJ (n:=n) a.L b.L hl);simp only[Va.r,h1,h2,ba,aD,aC,bw,dL,gD,gb,Bool.and_true]
theorem Jj {n:Nat}(a b:Va)(hi:a.I.length<1501∨b.I.length<1501)(hl:a.L.length<1501∨b.L.length<1501):evFn lay0.tab (n+1505) 226 [.p (.agg a.c),.p (.agg b.c)] []=some (.p (.bool (gb a b)),[]):=by
 apply abV (n+1504) a.r b.r;unfold Jz;have h:=ab (abI (n:=n) a b hi hl);simp only[Va.c]at h;show br lay0.tab (n+1504) 264 [.p (.agg _),.p (.agg _)] [] _=_;simp only[Va.r]at h ⊢
 simp only[h,ba,aD,aC,bw,dL]
section
variable (cc:af) (n:Nat) (k0:Bool×aP→R) (v:Va)
theorem vw1:qD cc n k0 v.r=k0 (H6 v,v.r):=by
 unfold qD H6;show iL (aX v.k 0) _ (iL (aX 5 v.k) _ _)=_;cases aX v.k 0<;>cases aX 5 v.k<;>rfl
theorem vw2:qE cc n k0 v.r=k0 (H7 v,v.r):=by
 unfold qE H7;show iL (!av v.n 0) (iL (!av v.k 1) (iL (!av v.k 2) _ (iL (!av v.n 1) _ _)) _) _=_;cases av v.n 0<;>cases av v.k 1<;>cases av v.k 2<;>cases av v.n 1<;>rfl
theorem vw3:qF cc n k0 v.r=k0 (!aN v.s []&&!av v.k 3,v.r):=by
 unfold qF;show iL (!aN v.s []) (iL (!av v.k 3) _ _) _=_;cases aN v.s []<;>cases av v.k 3<;>rfl
theorem vw4:kg cc n k0 v.r=k0 (xp v,v.r):=by
 unfold kg xp ga;show iL (aX 64 (v.s.length:Int)) _ (iL (aX 16 ((v.I.map iE).length:Int)) _ (iL (aX 16 ((v.L.map Da.str).length:Int)) _ _))=_;simp only[lβ];cases aX 64 (v.s.length:Int)<;>cases aX 16 (v.I.length:Int)<;>cases aX 16 (v.L.length:Int)<;>rfl
theorem vw6:qG cc n k0 v.r=k0 (aX 0 (ga v.I)&&!av v.k 4,v.r):=by
 unfold qG ga;show iL (aX 0 ((v.I.map iE).length:Int)) (iL (!av v.k 4) _ _) _=_;simp only[lβ];cases aX 0 (v.I.length:Int)<;>cases av v.k 4<;>rfl
theorem vw7:qH cc n k0 v.r=k0 (aX 0 (ga v.L)&&!av v.k 5,v.r):=by
 unfold qH ga;show iL (aX 0 ((v.L.map Da.str).length:Int)) (iL (!av v.k 5) _ _) _=_;simp only[lβ];cases aX 0 (v.L.length:Int)<;>cases av v.k 5<;>rfl
end
theorem MV {n:Nat}(v:Va):evFn lay0.tab (n+1503) 71 [.p (.agg v.c)] []=some (.p (.bool (uy v)),[]):=by
 apply X7 (n+1502) v.r;by_cases h:v.L.length<1501;case neg=>
  have h4:xp v=true:=by
   unfold xp ga;rw[mψ,mψ];exact .inr (.inr (cG (by omega)))
  unfold wP uy To;simp only[vw1,vw2,vw3,vw4,vw6,vw7,h4];cases H6 v<;>cases H7 v<;>cases(!aN v.s []&&!av v.k 3)<;>cases(aX 0 (ga v.I)&&!av v.k 4)<;>cases(aX 0 (ga v.L)&&!av v.k 5)<;>rfl
 have hl:dX (br lay0.tab (n+1502)) (n+1502) (some (.p (.bool false),[])) (fun(l18,i19,i20)=>some (.p (.bool true),[])) (n+1502) (v.L.map .str,(v.L.length:Int),0)=some (.p (.bool (v.L.all fun t=>!aX 64 (ga t))),[]):=by
  refine(aT v.L (fun q i=>dX _ (n+1502) _ _ q (v.L.map .str,(v.L.length:Int),i)) (fun t=>aX 64 (ga t)) (fun i=>some (.p (.bool false),[])) (some (.p (.bool true),[])) (fun q i hi=>?_) (fun q=>?_) (by omega)).trans ?_
  ·rw[Br];simp only[mX,cG (show((i:Int)<(v.L.length:Int)) by omega),aO,aE,aM,aI hi,bf,EP,wS (show i<bT by unfold bT;omega)];exact cU _ _ _
  ·rw[Br];simp only[mX,bX,aR]
  ·rw[sF];cases v.L.findIdx? fun t=>aX 64 (ga t)<;>rfl
 unfold wP uy To;simp only[vw1,vw2,vw3,vw4,vw6,vw7];show iL _ _ (iL _ _ (iL _ (iL _ _ (iL _ _ (dX _ _ _ _ _ (v.L.map .str,((v.L.map Da.str).length:Int),0)))) (iL _ (iL _ _ (iL _ _ (dX _ _ _ _ _ (v.L.map .str,((v.L.map Da.str).length:Int),0)))) (iL _ _ (iL _ _ (dX _ _ _ _ _ (v.L.map .str,((v.L.map Da.str).length:Int),0)))))))=_;rw[lβ,hl];cases H6 v<;>cases H7 v<;>cases(!aN v.s []&&!av v.k 3)<;>cases(aX 0 (ga v.I)&&!av v.k 4)<;>cases(aX 0 (ga v.L)&&!av v.k 5)<;>cases xp v<;>rfl
theorem Xy {n:Nat}(xs:List Int)(y:Int)(h:xs.length<1501):evFn lay0.tab (n+1504) 175 [.p (.slice 1 (xs.map iE)),.p (.int .i64 y)] []=some (.p (.bool (xs.any fun x=>av y x)),[]):=by
 have hi:evFn lay0.tab (n+1503) 218 [.p (.slice 1 (xs.map iE)),.p (.int .i64 y)] []=some (.p (.int .i64 (jR (xs.findIdx? fun x=>av y x))),[]):=by
  apply abS (n+1502) (xs.map iE) y;unfold Jw;rw[lβ];refine(aT xs (fun q i=>tV _ (n+1502) _ _ q (xs.map iE,y,(xs.length:Int),i)) (fun x=>av y x) (fun i=>some (.p (.int .i64 i),[])) (some (.p (.int .i64 (-1)),[])) (fun q i hi=>?_) (fun q=>?_) (by omega)).trans ?_
  ·rw[Er];simp only[pE,cG (show((i:Int)<(xs.length:Int)) by omega),aO,aE,aM,aI hi,bf,dI,wS (show i<bT by unfold bT;omega)];exact cU _ _ _
  ·rw[Er];simp only[pE,bX,aR]
  ·cases xs.findIdx? fun x=>av y x<;>rfl
 apply XV (n+1503) (xs.map iE) y;unfold DR;simp only[ab hi,ba,bz,aC];rw[←List.findIdx?_isSome];cases xs.findIdx? fun x=>av y x with
 |none=>rfl
 |some j=>simp[jR,bE,aO]
theorem XA {n:Nat}(xs:List (List Nat))(y:List Nat)(h:xs.length<1501):evFn lay0.tab (n+1504) 227 [.p (.slice 1 (xs.map .str)),.p (.str y)] []=some (.p (.bool (xs.any fun x=>aN y x)),[]):=by
 have hi:evFn lay0.tab (n+1503) 265 [.p (.slice 1 (xs.map .str)),.p (.str y)] []=some (.p (.int .i64 (jR (xs.findIdx? fun x=>aN y x))),[]):=by
  apply abT (n+1502) (xs.map .str) y;unfold Jx;rw[lβ];refine(aT xs (fun q i=>tW _ (n+1502) _ _ q (xs.map .str,y,(xs.length:Int),i)) (fun x=>aN y x) (fun i=>some (.p (.int .i64 i),[])) (some (.p (.int .i64 (-1)),[])) (fun q i hi=>?_) (fun q=>?_) (by omega)).trans ?_
  ·rw[Es];simp only[pF,cG (show((i:Int)<(xs.length:Int)) by omega),aO,aE,aM,aI hi,bf,EP,wS (show i<bT by unfold bT;omega)];exact cU _ _ _
  ·rw[Es];simp only[pF,bX,aR]
  ·cases xs.findIdx? fun x=>aN y x<;>rfl
 apply XX (n+1503) (xs.map .str) y;unfold DU;simp only[ab hi,ba,bz,aC];rw[←List.findIdx?_isSome];cases xs.findIdx? fun x=>aN y x with
 |none=>rfl
 |some j=>simp[jR,bE,aO]
end
end Go.Ab
end
section
namespace Go.Ab
open Go
set_option maxRecDepth 100000
noncomputable section
theorem Xj (c:CS)(i:Int)(a b:Bool):cj (cj c i a) i b=cj c i (a&&b):=by
 cases a
 ·cases b
  ·simp only[cj,Bool.false_and,Bool.false_eq_true,if_false,iR];by_cases h:c.er=0
   ·simp only[if_pos h];rfl
   ·simp only[if_neg h]
  ·rfl
 ·rfl
abbrev Sg:=List Int×Int
def sgE (g:Sg):Da:= .agg [.slice 1 (g.1.map iE),.int .i64 g.2]
def Qp (s:List Nat):Option (List Sg):=
 bif aN s [108,101,110]then some [([3],1),([4],1),([5],1)]else
 bif aN s [97,116]then some [([4,1],1),([5,1],3)]else
 bif aN s [97,112,112,101,110,100]then some [([4,1],4),([5,3],5)]else
 bif aN s [115,101,116]then some [([4,1,1],4),([5,1,3],5)]else
 bif aN s [115,116,114]then some [([1],3)]else none
def HO (ks:List Int)(o:Option (List Sg)):Int×Int:=match o with
 |none=>(0,14)
 |some l=>match l.find? fun g=>decide (g.1=ks)with
  |some g=>(g.2,0)
  |none=>(0,15)
def fX (s:List Nat)(ks:List Int):Int×Int:=
 bif aN s [105,110,116,115]then(4,if(ks.all fun k=>av k 1)=true then 0 else 15)else
 bif aN s [115,116,114,105,110,103,115]then(5,if(ks.all fun k=>av k 3)=true then 0 else 15)else HO ks (Qp s)
def Au (c:CS)(i e:Int):CS:=if e=0 then c else iR c i e
theorem Qx (c:CS)(i:Int)(b:Bool):Au c i (if b=true then 0 else 15)=cj c i b:=by cases b<;>rfl
theorem RC {n:Nat}(k0:j6→R)(i el kd:Int)(ks:List Int)(hl:ks.length<1501):∀(d q j:Nat) (c:CS),j+d=ks.length→d<q→iy (br lay0.tab (n+2)) (n+2) k0 q (i,el,kd,ks.map iE,(ks.length:Int),(j:Int),c.k)=k0 (i,el,kd,ks.map iE,(ks.length:Int),(ks.length:Int),(cj c i ((ks.drop j).all fun k=>av k el)).k)
 |0,q+1,j,c,h,_=>by
  obtain rfl:j=ks.length:=by omega
  rw[Bi];simp only[mQ,bX,aR,List.drop_length,List.all_nil];rfl
 |d+1,q+1,j,c,h,hq=>by
  have hj:j<ks.length:=by omega
  rw[Bi];have w:=fun b=>nM (n:=n) c i b
  simp only[mQ,cG (show((j:Int)<(ks.length:Int)) by omega),aO,aE,aM,aI hj,bf,dI,wS (show j<bT by unfold bT;omega),ab (w true),ab (w false),bH,aC,pd];rw[lξ hj,List.all_cons,←Xj];rw[RC k0 i el kd ks hl d q (j+1) _ (by omega) (by omega),RC k0 i el kd ks hl d q (j+1) _ (by omega) (by omega)];cases av ks[j] el<;>rfl
theorem dSg (g:Sg)(K:aJ→R):dT (sgE g) K=K ⟨g.1.map iE,g.2⟩:=rfl
theorem afw {n:Nat}(c:CS)(i:Int)(ks:List Int)(gs:List Sg)(hg:∀g∈gs,g.1.length<1501)(hl:gs.length<1501)(k0:Int×eA×aJ→R)(k1:j7→R):dW (br lay0.tab (n+1503)) (n+1503) k0 k1 (n+1503) (i,ks.map iE,gs.map sgE,(gs.length:Int),0,c.k)=match gs.find? fun g=>decide (g.1=ks)with
  |some g=>k0 (g.2,c.k,⟨g.1.map iE,g.2⟩)
  |none=>k1 (i,ks.map iE,gs.map sgE,(gs.length:Int),(gs.length:Int),c.k):=by
 refine(aT gs (fun q j=>dW _ (n+1503) k0 k1 q (i,ks.map iE,gs.map sgE,(gs.length:Int),j,c.k)) (fun g=>decide (g.1=ks)) (fun j=>match gs[j]? with|some g=>k0 (g.2,c.k,⟨g.1.map iE,g.2⟩)|none=>none) (k1 (i,ks.map iE,gs.map sgE,(gs.length:Int),(gs.length:Int),c.k)) (fun q j hj=>?_) (fun q=>?_) (by omega)).trans ?_
 ·rw[Bj];simp only[mR,cG (show((j:Int)<(gs.length:Int)) by omega),aO,aE,aM,aI hj,bf,dSg,wS (show j<bT by unfold bT;omega)];have e:=wL (n:=n) gs[j].1 ks (hg _ (lι hj));simp only[ab e,ba,aD,bt,lγ hj];exact cU _ _ _
 ·rw[Bj];simp only[mR,bX,aR]
 ·rw[←jP];cases h:gs.findIdx? (fun g=>decide (g.1=ks))with
  |none=>rfl
  |some j=>
   have hj:j<gs.length:=(lτ.1 h).1;simp only[lγ hj]
theorem QK {n:Nat}:evFn lay0.tab (n+1) 269 [] []=some (acg,[]):=Rh n _ rfl
theorem Xr {n:Nat}(c:CS)(i:Int)(s:List Nat)(ks:List Int)(hl:ks.length<1501):evFn lay0.tab (n+1504) 235 [.box 0 0,.p (.int .i64 i),.p (.str s),.p (.slice 1 (ks.map iE))] c.k.hp=some (.p (.int .i64 (fX s ks).1),(Au c i (fX s ks).2).k.hp):=by
 apply XM (n+1503) c.k i s (ks.map iE);unfold DH fX;have a1:=fun(el kd:Int) (k0:j6→R)=>RC (n:=n+1501) k0 i el kd ks hl ks.length (n+1503) 0 c (by omega) (by omega)
 simp only[List.drop_zero,Int.ofNat_zero,show((0:Nat):Int)=0 from rfl]at a1;have f14:=qc (n:=n+1502) c i 14;have f15:=qc (n:=n+1502) c i 15;have a2:=fun(gs:List Sg) (hg:∀g∈gs,g.1.length<1501) (hl:gs.length<1501)=>afw (n:=n) c i ks gs hg hl
 have fin:∀(gs:List Sg) (hg:∀g∈gs,g.1.length<1501) (hl:gs.length<1501) (k1:j7→R),(∀x,k1 (i,ks.map iE,gs.map sgE,x,x,c.k)=some (.p (.int .i64 0),(iR c i 15).k.hp))→dW (br lay0.tab (n+1503)) (n+1503) (fun(i60,u61,u62)=>some ((.p (.int .i64 i60)),u61.hp)) k1 (n+1503) (i,ks.map iE,gs.map sgE,(gs.length:Int),0,c.k)=some (.p (.int .i64 (HO ks (some gs)).1),(Au c i (HO ks (some gs)).2).k.hp):=by
  intro gs hg hl k1 hk;rw[a2 gs hg hl];unfold HO;simp only;cases gs.find? (fun g=>decide (g.1=ks))with
  |some g=>rfl
  |none=>exact hk _
 rw[lβ];cases h1:aN s [105,110,116,115]
 ·simp only[aR,cond_false];cases h2:aN s [115,116,114,105,110,103,115]
  ·simp only[aR,cond_false,ab (QK (n:=n+1502)),acg,ZL,bt];unfold Qp;cases aN s [108,101,110];rotate_left
   ·exact fin [([3],1),([4],1),([5],1)] (by decide) (by decide) _ fun x=>by simp only[ab f15,bH,aC,pd]
   cases aN s [97,116];rotate_left
   ·exact fin [([4,1],1),([5,1],3)] (by decide) (by decide) _ fun x=>by simp only[ab f15,bH,aC,pd]
   cases aN s [97,112,112,101,110,100];rotate_left
   ·exact fin [([4,1],4),([5,3],5)] (by decide) (by decide) _ fun x=>by simp only[ab f15,bH,aC,pd]
   cases aN s [115,101,116];rotate_left
   ·exact fin [([4,1,1],4),([5,1,3],5)] (by decide) (by decide) _ fun x=>by simp only[ab f15,bH,aC,pd]
   cases aN s [115,116,114];rotate_left
   ·exact fin [([1],3)] (by decide) (by decide) _ fun x=>by simp only[ab f15,bH,aC,pd]
   simp only[aR,cond_false,ab f14,bH,aC,pd];rfl
  ·simp only[aO,cond_true,a1,Qx]
 ·have hs:s=[105,110,116,115]:=by rw[de]at h1;exact of_decide_eq_true h1
  subst hs;have h2:aN [105,110,116,115] [115,116,114,105,110,103,115]=false:=rfl;simp only[aO,cond_true,h2,aR,a1,Qx]
def E0 (c:CS)(i:Int)(x:No)(ks:List Int):Option (Int×CS):=
 if x.op=1 then some (x.v.k,c)else
 if x.op=3 then some (3,c)else
 if x.op=2 then some ((my c i x.name).1.kind,(my c i x.name).2)else
 if x.op=4 then(match ks with
  |[]=>none
  |k::_=>some (bif aN x.name [33]then 2 else 1,cj c i (av k (bif aN x.name [33]then 2 else 1))))else
 if x.op=5 then(match ks with
  |k::k'::_=>some ((EH x.name k k').1,cj c i (EH x.name k k').2)
  |_=>none)else
 some ((fX x.name ks).1,Au c i (fX x.name ks).2)
theorem Gz {n:Nat}(c c':CS)(i k:Int)(x:No)(ks:List Int)(h:E0 c i x ks=some (k,c'))(hl:ks.length<1501):evFn lay0.tab (n+1505) 182 [.box 0 0,.p (.int .i64 i),.p x.e,.p (.slice 1 (ks.map iE))] c.k.hp=some (.p (.int .i64 k),c'.k.hp):=by
 apply GN (n+1504) c.k i x.r (ks.map iE);unfold E0 at h;unfold oS;have hop:x.r.Op=x.op:=rfl;have hnm:x.r.Name=x.name:=rfl;simp only[aW,ep,hop,hnm];by_cases h1:x.op=1
 ·rw[if_pos h1]at h ⊢
  simp only[lα,lε]at h;obtain⟨rfl,rfl⟩:=h;rfl
 rw[if_neg h1]at h ⊢
 by_cases h3:x.op=3
 ·rw[if_pos h3]at h ⊢
  simp only[lα,lε]at h;obtain⟨rfl,rfl⟩:=h;rfl
 rw[if_neg h3]at h ⊢
 by_cases h2:x.op=2
 ·rw[if_pos h2]at h ⊢
  simp only[lα,lε]at h;obtain⟨rfl,rfl⟩:=h;have u:=QL (n:=n+1502) c i x.name;simp only[ab u,ba,dVr,pd];rfl
 rw[if_neg h2]at h ⊢
 by_cases h4:x.op=4
 ·rw[if_pos h4]at h ⊢
  cases ks with
  |nil=>cases h
  |cons k0 r=>
   simp only[lα,lε]at h;obtain⟨rfl,rfl⟩:=h;have at0:bx ((k0::r).map iE) 0=some (iE k0):=rfl;have w:=fun b=>nM (n:=n+1502) c i b
   simp only[at0,bf,dI,ab (w true),ab (w false),bH,aC,pd,aW];cases aN x.name [33]
   ·simp only[aR,cond_false];by_cases hk:k0=1
    ·rw[if_pos hk,mη hk]
    ·rw[if_neg hk,mβ hk]
   ·simp only[aO,cond_true];by_cases hk:k0=2
    ·rw[if_pos hk,mη hk]
    ·rw[if_neg hk,mβ hk]
 rw[if_neg h4]at h ⊢
 by_cases h5:x.op=5
 ·rw[if_pos h5]at h ⊢
  match ks,h with
  |k0::k1::r,h=>
   simp only[lα,lε]at h;obtain⟨rfl,rfl⟩:=h;have at0:bx ((k0::k1::r).map iE) 0=some (iE k0):=rfl;have at1:bx ((k0::k1::r).map iE) 1=some (iE k1):=rfl;have b:=UX (n:=n+1501) c i x.name k0 k1;simp only[at0,at1,bf,dI,ab b,ba,bz,pd]
 rw[if_neg h5]at h ⊢
 simp only[lα,lε]at h;obtain⟨rfl,rfl⟩:=h;have a:=Xr (n:=n) c i x.name ks hl;simp only[ab a,ba,bz,pd]
end
end Go.Ab
end
section
namespace Go.Ab
open Go
set_option maxRecDepth 100000
noncomputable section
def yP (c:CS)(i:Int)(x:No)(ks:List Int):Option CS:=
 if x.op=8 then(match ks with
  |[]=>none
  |k::_=>yh c i x k)else
 if x.op=9 then(match ks with
  |[]=>none
  |k::_=>some (cj (my c i x.name).2 i (decide ((my c i x.name).1.kind=k))))else
 if x.op=11∨x.op=12 then(match ks with
  |[]=>none
  |k::_=>some (cj c i (decide (k=2))))else
 if x.op=13 then(match ks with
  |[]=>some (cj c i (false==!decide (c.re=0)))
  |k::_=>some (cj (cj c i (true==!decide (c.re=0))) i (decide (k=c.re))))else
 if x.op=15 then some (cj c i (decide (ks=[3,1])))else
 if x.op=16 then some (cj c i (decide (ks=[3,1,1])))else
 if x.op=17 then(match ks with
  |[]=>none
  |k::_=>some (cj c i (decide (k=3))))else some c
theorem aeg (c:CS)(i:Int)(b:Bool):(cj c i b).re=c.re:=by
 unfold cj iR;split<;>(try rfl);split<;>rfl
theorem I9 {n:Nat}(c c':CS)(i:Int)(x:No)(ks:List Int)(h:yP c i x ks=some c')(hl:ks.length<1501):evFn lay0.tab (n+1505) 183 [.box 0 0,.p (.int .i64 i),.p x.e,.p (.slice 1 (ks.map iE))] c.k.hp=some (.tup [],c'.k.hp):=by
 apply JS (n+1504) c.k i x.r (ks.map iE);unfold yP at h;unfold qe;have hop:x.r.Op=x.op:=rfl;have hnm:x.r.Name=x.name:=rfl;have w:=fun(c:CS) b=>nM (n:=n+1502) c i b
 have at0:∀k r,bx ((k::r:List Int).map iE) 0=some (iE k):=fun k r=>rfl
 have hre:c.k.re=c.re:=rfl;simp only[aW,ep,hop,hnm];by_cases h8:x.op=8
 ·rw[if_pos h8]at h ⊢
  cases ks with
  |nil=>cases h
  |cons k r=>
   have e:=aff (n:=n+1501) c c' i x k h;simp only[No.e]at e;simp only[at0,bf,dI,ab e,bH,aC,pd]
 rw[if_neg h8]at h ⊢
 by_cases h9:x.op=9
 ·rw[if_pos h9]at h ⊢
  cases ks with
  |nil=>cases h
  |cons k r=>
   simp only[lα]at h;subst h;have u:=QL (n:=n+1502) c i x.name;simp only[at0,bf,dI,ab u,ba,dVr,pd,ab (w _ _),bH,aC,Vr.r];rfl
 rw[if_neg h9]at h ⊢
 have t48:∀ys:List Int,evFn lay0.tab (n+1504) 48 [.p (.slice 1 (ks.map iE)),.p (.slice 1 (ys.map iE))] []=some (.p (.bool (decide (ks=ys))),[]):=fun ys=>wL (n:=n+1) ks ys hl
 have t2:=t48 [3,1];have t3:=t48 [3,1,1];simp only[List.map_cons,List.map_nil,iE]at t2 t3;by_cases h11:x.op=11
 ·rw[if_pos (.inl h11)]at h;rw[if_pos h11,if_pos h11];cases ks with
  |nil=>cases h
  |cons k r=>
   simp only[lα]at h;subst h;simp only[at0,bf,dI,ab (w _ _),bH,aC,pd]
 rw[if_neg h11];by_cases h12:x.op=12
 ·rw[if_pos (.inr h12)]at h;rw[if_pos h12];cases ks with
  |nil=>cases h
  |cons k r=>
   simp only[lα]at h;subst h;simp only[at0,bf,dI,ab (w _ _),bH,aC,pd]
 rw[if_neg (by rintro(h|h)<;>contradiction)]at h;rw[if_neg h12];by_cases h13:x.op=13
 ·rw[if_pos h13]at h ⊢
  cases ks with
  |nil=>
   simp only[lα]at h;subst h;have e0:(aX 0 (↑(List.map iE ([]:List Int)).length)==!decide (c.k.re=0))=(false==!decide (c.re=0)):=rfl;simp only[e0,ab (w _ _),bH,aC,pd];rw[if_pos (by simp)];rfl
  |cons k r=>
   simp only[lα]at h;subst h;have e0:aX 0 (↑(List.map iE (k::r)).length)=true:=by rw[lQ];simp
   simp only[e0,hre,ab (w _ _),bH,aC,pd];rw[if_neg (by simp;omega)];simp only[at0,bf,dI];have e1:(cj c i (true==!decide (c.re=0))).k.re=c.re:=aeg c i _;rw[e1]
 rw[if_neg h13]at h ⊢
 by_cases h15:x.op=15
 ·rw[if_pos h15]at h ⊢
  simp only[lα]at h;subst h;simp only[ab t2,ba,aD,bt,ab (w _ _),bH,aC,pd]
 rw[if_neg h15]at h ⊢
 by_cases h16:x.op=16
 ·rw[if_pos h16]at h ⊢
  simp only[lα]at h;subst h;simp only[ab t3,ba,aD,bt,ab (w _ _),bH,aC,pd]
 rw[if_neg h16]at h ⊢
 by_cases h17:x.op=17
 ·rw[if_pos h17]at h ⊢
  cases ks with
  |nil=>cases h
  |cons k r=>
   simp only[lα]at h;subst h;simp only[at0,bf,dI,ab (w _ _),bH,aC,pd]
 rw[if_neg h17]at h ⊢
 simp only[lα]at h;subst h;rfl
def jL:Nat→List No→Int→Bool
 |0,_,_=>false
 |f+1,ns,i=>match jY ns i with
  |none=>false
  |some x=>
   if x.op=13 then true else if x.op=14 then true else
   if x.op=11 then(decide (x.kids.length=3)&&((match x.kids[1]? with|some k=>decide (k<i)&&jL f ns k|none=>false)&&(match x.kids[2]? with|some k=>decide (k<i)&&jL f ns k|none=>false)))else
   if x.op=18 then(match x.kids.getLast? with|some k=>decide (k<i)&&jL f ns k|none=>false)else false
theorem m6 {α:Type}{l:List α}{i:Int}(h:i<0∨(l.length:Int)≤i):jY l i=none:=by
 unfold jY;by_cases h0:0≤i
 ·rw[if_pos h0,lθ (by omega)]
 ·rw[if_neg h0]
theorem NU {α:Type}{l:List α}{i:Int}{x:α}(h:jY l i=some x):∃j:Nat,∃hj:j<l.length,i=(j:Int)∧l[j]=x:=by
 unfold jY at h;by_cases h0:0≤i
 ·rw[if_pos h0]at h;have hj:i.toNat<l.length:=by
   rcases lπ i.toNat l.length with h1|h1
   ·exact h1
   ·rw[lθ h1]at h;cases h
  rw[lγ hj]at h;exact⟨i.toNat,hj,by omega,by simpa using h⟩
 ·rw[if_neg h0]at h;cases h
theorem Ij {f:Nat}{ns:List No}{i:Int}(h:jY ns i=none):jL f ns i=false:=by
 cases f with
 |zero=>rfl
 |succ f=>simp only[jL,h]
theorem XH {n:Nat}{f:Nat}{ns:List No}(he:∀k:Int,k<f→evFn lay0.tab n 229 [.p (.slice 8 (ns.map No.e)),.p (.int .i64 k)] []=some (.p (.bool (jL f ns k)),[]))(x:No)(j:Int)(i:Int){k:Int}(hk:jY x.kids j=some k)(hi:i≤f):evFn lay0.tab (n+1) 267 [.p (.int .i64 j),.box 0 0,.box 1 0,.box 2 0] [x.r.b,.box [.p (.int .i64 i)],.box [.p (.slice 8 (ns.map No.e))]]=some (.p (.bool (decide (k<i)&&jL f ns k)),[x.r.b,.box [.p (.int .i64 i)],.box [.p (.slice 8 (ns.map No.e))]]):=by
 apply X6 n x.r j i (ns.map No.e);unfold D2;have hk':bx x.r.Kids j=some (iE k):=by
  show bx (x.kids.map iE) j=_;rw[aE,hk];rfl
 simp only[hk',bf,dI,lQ,ep];by_cases hlt:k<i
 ·rw[if_pos hlt,mη hlt];simp only[ab (he k (by omega)),ba,aD,aC,Bool.true_and];cases jL f ns k<;>rfl
 ·rw[if_neg hlt,mβ hlt];rfl
theorem adv (l:List Int){a:Int}{r:List Int}(h:l=a::r):jY l (((l.length:Int)) - 1)=l.getLast?∧ag .i64 ((l.length:Int) - 1)=(l.length:Int) - 1∨1000000000≤l.length:=by
 by_cases hb:1000000000≤l.length
 ·exact .inr hb
 ·left;have hl:0<l.length:=by rw[h];simp
  refine⟨?_,ig (by omega) (by omega)⟩;have:((l.length:Int) - 1)=((l.length - 1:Nat):Int):=by omega
  rw[this,oA,List.getLast?_eq_getElem?]
theorem Jm:∀(f:Nat) (n:Nat) (ns:List No) (i:Int),i<f→(∀x∈ns,x.kids.length<1501)→evFn lay0.tab (n+2*f+1) 229 [.p (.slice 8 (ns.map No.e)),.p (.int .i64 i)] []=some (.p (.bool (jL f ns i)),[])
 |0,n,ns,i,hi,hb=>by
  apply J5 _ (ns.map No.e) i;unfold wO;rw[cG (by omega:i<0)];rfl
 |f+1,n,ns,i,hi,hb=>by
  have he:=fun k hk=>Jm f n ns k hk hb
  have key:=fun x j k hk=>XH he x j i (k:=k) hk (by omega)
  rw[show n+2*(f+1)+1=n+2*f+1+1+1 by omega];apply J5 _ (ns.map No.e) i;unfold wO;cases ha:jY ns i with
  |none=>
   rw[Ij ha,lQ,ep,bE,ep];by_cases h0:i<0
   ·rw[if_pos h0]
   ·rw[if_neg h0];by_cases h1:(((ns.map No.e).length:Int))≤i
    ·rw[if_pos h1]
    ·exfalso;rw[lβ]at h1;have hj:i.toNat<ns.length:=by omega
     have:i=(i.toNat:Int):=by omega
     rw[this,aI hj]at ha;cases ha
  |some x=>
   obtain⟨j,hj,rfl,hx⟩:=NU ha;rw[u0 (by omega),aR,bE,lβ,mβ (by omega),aR,aE,ha];have hxb:x.kids.length<1501:=hb x (hx▸lι hj);simp only[Option.map_some,bf,vZ,jL,ha,aW,ep];have hop:x.r.Op=x.op:=rfl;simp only[hop];by_cases h13:x.op=13
   ·rw[if_pos h13,if_pos h13]
   rw[if_neg h13,if_neg h13];by_cases h14:x.op=14
   ·rw[if_pos h14,if_pos h14]
   rw[if_neg h14,if_neg h14];by_cases h11:x.op=11
   ·rw[if_pos h11,if_pos h11];have hlk:(x.r.Kids.length:Int)=(x.kids.length:Int):=by
     show((x.kids.map iE).length:Int)=_;rw[lβ]
    rw[hlk];by_cases h3:x.kids.length=3
    ·rw[if_pos (by omega),mη h3,Bool.true_and];have e1:x.kids[1]?=some x.kids[1]:=lγ (by omega);have e2:x.kids[2]?=some x.kids[2]:=lγ (by omega);have k1:=key x 1 x.kids[1] (aI (j:=1) (by omega));have k2:=key x 2 x.kids[2] (aI (j:=2) (by omega));simp only[ab k1,ab k2,ba,aD,bt,e1,e2];cases(decide (x.kids[1]<(j:Int))&&jL f ns x.kids[1])<;>cases(decide (x.kids[2]<(j:Int))&&jL f ns x.kids[2])<;>rfl
    ·rw[if_neg (by omega),mβ h3,Bool.false_and]
   rw[if_neg h11,if_neg h11];by_cases h18:x.op=18
   ·rw[if_pos h18,if_pos h18];have hlk:(x.r.Kids.length:Int)=(x.kids.length:Int):=by
     show((x.kids.map iE).length:Int)=_;rw[lβ]
    rw[hlk];cases hk:x.kids with
    |nil=>rw[u0 (by simp)];rfl
    |cons a r=>
     rw[←hk];rcases adv x.kids hk with⟨l1,l2⟩|l3
     ·rw[cG (by rw[hk];simp),aO,l2];cases hg:x.kids.getLast? with
      |none=>rw[hk]at hg;simp at hg
      |some k=>
       have k1:=key x ((x.kids.length:Int) - 1) k (by rw[l1,hg]);simp only[ab k1,ba,aD,bt];cases(decide (k<(j:Int))&&jL f ns k)<;>rfl
     ·omega
   rw[if_neg h18,if_neg h18]
end
end Go.Ab
end
section
namespace Go.Ab
open Go
set_option maxRecDepth 100000
noncomputable section
def jM (ns:List No)(i:Int):Bool:=jL 1501 ns i
def ib (v:CS→Int→Option (Int×CS)):CS→List Int→Option (List Int×CS)
 |c,[]=>some ([],c)
 |c,k::r=>match v c k with
  |none=>none
  |some (x,c1)=>match ib v c1 r with
   |none=>none
   |some (xs,c2)=>some (x::xs,c2)
def sG (v:CS→Int→Bool→Option (Int×CS)):CS→List Int→Bool→Option CS
 |c,[],_=>some c
 |c,k::r,d=>match v c k d with
  |none=>none
  |some (_,c1)=>sG v c1 r (d||jM c1.ns k)
def opT (c:CS)(i:Int)(x:No)(ks:List Int):Option (Int×CS):=
 if x.op=7 then RI c i x ks else if x.op≤6 then E0 c i x ks else match yP c i x ks with
  |some c=>some (0,c)
  |none=>none
def iT (c:CS)(i:Int)(x:No)(k:Int):CS:=if x.op≤7 then {c with ki:=tv c.ki i k}else c
def qM (v:CS→Int→Bool→Option (Int×CS))(c:CS)(i:Int)(x:No):Option CS:=match sG v c x.kids false with
 |none=>none
 |some c1=>some (if i=(c1.ns.length:Int) - 1 then cj {c1 with sc:=c.sc} i (decide (c1.re=0)||jM c1.ns i)else {c1 with sc:=c.sc})
def kz:Nat→CS→Int→Bool→Option (Int×CS)
 |0,_,_,_=>none
 |f+1,c,i,d=>match jY c.ns i with
  |none=>none
  |some x=>
   if x.op=18 then(match qM (kz f) c i x with
    |none=>none
    |some c1=>some (0,c1))
   else match ib (fun c k=>kz f c k false) c x.kids with
    |none=>none
    |some (ks,c1)=>if c1.er=0 then(match opT c1 i x ks with
     |none=>none
     |some (k,c2)=>some (k,iT (cj c2 i (!d)) i x k))else some (0,c1)
structure fd (c c':CS):Prop where
 pr:c'.pr=c.pr
 ns:c'.ns=c.ns
 re:c'.re=c.re
 fs:c'.fs=c.fs
theorem fd.refl (c:CS):fd c c:=⟨rfl,rfl,rfl,rfl⟩
theorem fd.trans {a b c:CS}(h:fd a b)(k:fd b c):fd a c:=⟨k.pr.trans h.pr,k.ns.trans h.ns,k.re.trans h.re,k.fs.trans h.fs⟩
theorem mB (c:CS)(i e:Int):fd c (iR c i e):=by unfold iR;split<;>exact⟨rfl,rfl,rfl,rfl⟩
theorem gy (c:CS)(i:Int)(b:Bool):fd c (cj c i b):=by
 unfold cj;split
 ·exact fd.refl c
 ·exact mB _ _ _
theorem Gx (c:CS)(i:Int)(s:List Nat):fd c (my c i s).2:=by
 unfold my;split
 ·exact⟨rfl,rfl,rfl,rfl⟩
 ·exact mB _ _ _
theorem Ao {c c':CS}{s:List Nat}{k:Int}(h:nf c s k=some c'):fd c c':=by
 unfold nf at h;split at h
 ·simp only[lα]at h;subst h;exact⟨rfl,rfl,rfl,rfl⟩
 ·cases h
theorem WD (c:CS)(i:Int)(x:No):fd c (qS c i x):=by
 unfold qS;split
 ·exact mB _ _ _
 split
 ·exact mB _ _ _
 ·exact fd.refl _
theorem aaH {c c':CS}{i k:Int}{x:No}(h:yh c i x k=some c'):fd c c':=by
 unfold yh at h;split at h
 ·rename_i c3 h3;simp only[lα]at h;subst h;exact(WD _ _ _).trans ((gy _ _ _).trans ((Ao h3).trans (Gx _ _ _)))
 ·cases h
theorem aab (c:CS)(i e:Int):fd c (Au c i e):=by
 unfold Au;split
 ·exact fd.refl c
 ·exact mB _ _ _
theorem adV {c c':CS}{i k:Int}{x:No}{ks:List Int}(h:opT c i x ks=some (k,c')):fd c c':=by
 unfold opT at h;split at h
 ·unfold RI at h;split at h
  ·simp only[lα,lε]at h;rw[←h.2];exact mB _ _ _
  ·split at h
   ·cases h
   ·simp only[lα,lε]at h;rw[←h.2];exact gy _ _ _
 ·split at h
  ·unfold E0 at h;repeat' split at h
   all_goals first
    |(cases h;done)
    |(
      simp only[lα,lε]at h;rw[←h.2];first|exact fd.refl _|exact Gx _ _ _|exact gy _ _ _|exact aab _ _ _)
  ·split at h
   ·rename_i c1 hs;simp only[lα,lε]at h;rw[←h.2];unfold yP at hs;repeat' split at hs
    all_goals first
     |(cases hs;done)
     |exact aaH hs
     |(
       simp only[lα]at hs;rw[←hs];first|exact fd.refl _|exact gy _ _ _|exact(Gx _ _ _).trans (gy _ _ _)|exact(gy _ _ _).trans (gy _ _ _))
   ·cases h
theorem IG (c:CS)(i:Int)(x:No)(k:Int):fd c (iT c i x k):=by unfold iT;split<;>exact⟨rfl,rfl,rfl,rfl⟩
theorem AF {v:CS→Int→Option (Int×CS)}(hv:∀c k r,v c k=some r→fd c r.2):∀(l:List Int) (c:CS) {r:List Int×CS},ib v c l=some r→fd c r.2
 |[],c,r,h=>by simp only[ib,lα]at h;rw[←h];exact fd.refl _
 |k::l,c,r,h=>by
  simp only[ib]at h;split at h
  ·cases h
  ·rename_i x c1 h1;split at h
   ·cases h
   ·rename_i xs c2 h2;simp only[lα]at h;rw[←h];have a:=hv _ _ _ h1;have b:=AF hv l c1 h2;exact a.trans b
theorem EJ {v:CS→Int→Bool→Option (Int×CS)}(hv:∀c k d r,v c k d=some r→fd c r.2):∀(l:List Int) (c:CS) (d:Bool) {r:CS},sG v c l d=some r→fd c r
 |[],c,d,r,h=>by simp only[sG,lα]at h;rw[←h];exact fd.refl _
 |k::l,c,d,r,h=>by
  simp only[sG]at h;split at h
  ·cases h
  ·rename_i x c1 h1;exact(hv _ _ _ _ h1).trans (EJ hv l c1 _ h)
theorem RG {v:CS→Int→Bool→Option (Int×CS)}(hv:∀c k d r,v c k d=some r→fd c r.2){c:CS}{i:Int}{x:No}{r:CS}(h:qM v c i x=some r):fd c r:=by
 unfold qM at h;split at h
 ·cases h
 ·rename_i c1 h1;simp only[lα]at h;have h2:=EJ hv _ _ _ h1;have h3:fd c {c1 with sc:=c.sc}:=⟨h2.pr,h2.ns,h2.re,h2.fs⟩;rw[←h];split
  ·exact h3.trans (gy _ _ _)
  ·exact h3
theorem nD:∀(f:Nat) (c:CS) (i:Int) (d:Bool) (r:Int×CS),kz f c i d=some r→fd c r.2
 |0,c,i,d,r,h=>by simp only[kz]at h;cases h
 |f+1,c,i,d,r,h=>by
  simp only[kz]at h;split at h
  ·cases h
  ·split at h
   ·split at h
    ·cases h
    ·rename_i c1 h1;simp only[lα]at h;rw[←h];exact RG (nD f) h1
   ·split at h
    ·cases h
    ·rename_i ks c1 h1;have s1:=AF (fun c k r=>nD f c k false r) _ _ h1;split at h
     ·split at h
      ·cases h
      ·rename_i k c2 h2;simp only[lα]at h;rw[←h];exact s1.trans ((adV h2).trans ((gy _ _ _).trans (IG _ _ _ _)))
     ·simp only[lα]at h;rw[←h];exact s1
structure Sz (c:CS):Prop where
 pr:c.pr.length<1501
 me:∀a∈c.pr,a.methods.length<1501
 ns:c.ns.length<1501
 ks:∀x∈c.ns,x.kids.length<1501
theorem Sz.of {c c':CS}(h:Sz c)(s:fd c c'):Sz c':=⟨s.pr▸h.pr,s.pr▸h.me,s.ns▸h.ns,s.ns▸h.ks⟩
def Td (v:CS→Int→Bool→Option (Int×CS))(m:Nat):Prop:=∀(c:CS) (i:Int) (d:Bool) (k:Int) (c':CS),v c i d=some (k,c')→Sz c→evFn lay0.tab m 128 [.box 0 0,.p (.int .i64 i),.p (.bool d)] c.k.hp=some (.p (.int .i64 k),c'.k.hp)
theorem Iv {v:CS→Int→Bool→Option (Int×CS)}{m:Nat}(hs:∀c k d r,v c k d=some r→fd c r.2)(hv:Td v m)(k0:Int×Bool×Nat×LD×Int×Int×Bool×eA×aG×LD→R)(i:Int)(d:Bool)(l:List Int)(x:aG)(hl:l.length<1501):∀(e q j:Nat) (c:CS) (acc ks:List Int) (c':CS),j+e=l.length→e<q→acc.length=j→ib (fun c k=>v c k false) c (l.drop j)=some (ks,c')→Sz c→
  L_cvisit_1 (br lay0.tab m) m k0 q (i,d,acc.length,l.map iE,(l.length:Int),(j:Int),c.k,x,acc.map iE)=k0 (i,d,(acc++ks).length,l.map iE,(l.length:Int),(l.length:Int),false,c'.k,x,(acc++ks).map iE)
 |0,q+1,j,c,acc,ks,c',h,_,ha,hk,hz=>by
  obtain rfl:j=l.length:=by omega
  rw[List.drop_length]at hk;simp only[ib,lα,lε]at hk;obtain⟨rfl,rfl⟩:=hk;rw[Bl];simp only[mT,bX,aR,mε]
 |e+1,q+1,j,c,acc,ks,c',h,hq,ha,hk,hz=>by
  have hj:j<l.length:=by omega
  rw[lξ hj]at hk;simp only[ib]at hk;split at hk
  ·cases hk
  ·rename_i y c1 h1;split at hk
   ·cases hk
   ·rename_i ys c2 h2;simp only[lα,lε]at hk;obtain⟨rfl,rfl⟩:=hk;rw[Bl];have hc:=hv _ _ _ _ _ h1 hz;have hlen:Nat.beq acc.length (acc.map iE).length=true:=by simp
    have hbig:cR ((acc.map iE).length+[Da.int .i64 y].length) 8=true:=jK (by simp;omega) (by decide);simp only[mT,cG (show((j:Int)<(l.length:Int)) by omega),aO,aE,aM,aI hj,bf,dI,wS (show j<bT by unfold bT;omega),ab hc,ba,bz,pd,hlen,hbig];have e1:acc.map iE++[Da.int .i64 y]=(acc++[y]).map iE:=by simp[iE]
    rw[e1,lβ];have:=Iv hs hv k0 i d l x hl e q (j+1) c1 (acc++[y]) ys c2 (by omega) (by omega) (by simp;omega) h2 (hz.of (hs _ _ _ _ h1));rw[this];simp only[mκ,List.cons_append,List.nil_append]
theorem NW {v:CS→Int→Bool→Option (Int×CS)}{m:Nat}(hs:∀c k d r,v c k d=some r→fd c r.2)(hv:Td v m)(hm:3003≤m)(i:Int)(l:List Int)(sk sv:LD)(hl:l.length<1501):∀(e q j:Nat) (c:CS) (d:Bool) (c':CS),j+e=l.length→e<q→sG v c (l.drop j) d=some c'→Sz c→
  ∃d',∀k0:j8→R,mN (br lay0.tab m) m k0 q (i,d,l.map iE,(l.length:Int),(j:Int),c.k,sk,sv)=k0 (i,d',l.map iE,(l.length:Int),(l.length:Int),c'.k,sk,sv)
 |0,q+1,j,c,d,c',h,_,hk,hz=>by
  obtain rfl:j=l.length:=by omega
  rw[List.drop_length]at hk;simp only[sG,lα]at hk;subst hk;refine⟨d,fun k0=>?_⟩
  rw[Bk];simp only[mS,bX,aR]
 |e+1,q+1,j,c,d,c',h,hq,hk,hz=>by
  have hj:j<l.length:=by omega
  rw[lξ hj]at hk;simp only[sG]at hk;split at hk
  ·cases hk
  ·rename_i y c1 h1;have hc:=hv _ _ _ _ _ h1 hz;have hz1:Sz c1:=hz.of (hs _ _ _ _ h1);obtain⟨d',ih⟩:=NW hs hv hm i l sk sv hl e q (j+1) c1 _ c' (by omega) (by omega) hk hz1;refine⟨d',fun k0=>?_⟩
   rw[←ih k0,Bk];have hen:evFn lay0.tab m 229 [.p (.slice 8 c1.k.ns),.p (.int .i64 l[j])] []=some (.p (.bool (jM c1.ns l[j])),[]):=by
    by_cases hlt:l[j]<(1501:Nat)
    ·obtain⟨m',rfl⟩:∃m',m=m'+2*1501+1:=⟨m - 3003,by omega⟩
     exact Jm 1501 m' c1.ns l[j] hlt hz1.ks
    ·have hn:jY c1.ns l[j]=none:=m6 (.inr (by have:=hz1.ns;omega));obtain⟨m',rfl⟩:∃m',m=m'+1:=⟨m - 1,by omega⟩
     unfold jM;rw[Ij hn];apply J5 m' (c1.ns.map No.e) l[j];unfold wO;rw[u0 (by omega),aR,bE,lβ,mη (by have:=hz1.ns;omega),aO]
   simp only[mS,cG (show((j:Int)<(l.length:Int)) by omega),aO,aE,aM,aI hj,bf,dI,wS (show j<bT by unfold bT;omega)];cases d
   ·simp only[aR,ab hc,ba,bz,pd,ab hen,aD,aC,Bool.false_or];cases jM c1.ns l[j]<;>rfl
   ·simp only[aO,ab hc,ba,bz,pd,Bool.true_or]
theorem Xs {v:CS→Int→Bool→Option (Int×CS)}{m:Nat}(hs:∀c k d r,v c k d=some r→fd c r.2)(hv:Td v m)(hm:3012≤m)(c c':CS)(i:Int)(x:No)(hl:x.kids.length<1501)(h:qM v c i x=some c')(hz:Sz c)(hi:i<1501):evFn lay0.tab (m+1) 180 [.box 0 0,.p (.int .i64 i),.p x.e] c.k.hp=some (.tup [],c'.k.hp):=by
 apply XN m c.k i x.r;unfold DI;unfold qM at h;split at h
 ·cases h
 ·rename_i c1 h1;simp only[lα]at h;obtain⟨m1,rfl⟩:∃m1,m=m1+1:=⟨m - 1,by omega⟩
  have hcl:evFn lay0.tab (m1+1) 228 [.map 0] [.map c.k.sk c.k.sv]=some (.map 1,[.map c.k.sk c.k.sv,.map c.k.sk c.k.sv]):=XS m1 _ _ _ rfl;simp only[ab hcl];have hz1:=hz.of (EJ hs _ _ _ h1);obtain⟨d',hloop⟩:=NW hs hv (by omega) i x.kids c.k.sk c.k.sv hl x.kids.length (m1+1) 0 c false c1 (by omega) (by omega) (by rw[List.drop_zero];exact h1) hz;have hlk:(List.length x.r.Kids:Int)=x.kids.length:=by show((x.kids.map iE).length:Int)=_;rw[lβ]
  have hgen:∀k0:j8→R,(dMp 1 (.map 1)<|bj [(.map c.k.sk c.k.sv),(.map c.k.sk c.k.sv)] [(.map c.k.sk c.k.sv),(.map c.k.sk c.k.sv)]<|mN (br lay0.tab (m1+1)) (m1+1) k0 (m1+1) (i,false,x.r.Kids,(x.r.Kids.length:Int),0,c.k,c.k.sk,c.k.sv))=k0 (i,d',x.kids.map iE,(x.kids.length:Int),(x.kids.length:Int),c1.k,c.k.sk,c.k.sv):=fun k0=>by
   rw[bt,hlk];exact hloop k0
  rw[hgen]
  ·show(iL (av i (ag .i64 (↑(List.length c1.k.ns) - 1)))
    (iL (av c1.k.re 0)
     (br lay0.tab (m1+1) 184 [.box 0 0,.p (.int .i64 i),.p (.bool true)] ({c1 with sc:=c.sc}:CS).k.hp fun d o=>bd d fun r=>aw r<|aQ o fun u=>some (.tup [],u.hp))
     (br lay0.tab (m1+1) 229 [.p (.slice 8 c1.k.ns),.p (.int .i64 i)] [] fun d o=>dP d fun x=>az x fun b=>aw o<|iL b
      (br lay0.tab (m1+1) 184 [.box 0 0,.p (.int .i64 i),.p (.bool true)] ({c1 with sc:=c.sc}:CS).k.hp fun d o=>bd d fun r=>aw r<|aQ o fun u=>some (.tup [],u.hp))
      (br lay0.tab (m1+1) 184 [.box 0 0,.p (.int .i64 i),.p (.bool false)] ({c1 with sc:=c.sc}:CS).k.hp fun d o=>bd d fun r=>aw r<|aQ o fun u=>some (.tup [],u.hp))))
    (some (.tup [],({c1 with sc:=c.sc}:CS).k.hp)))=_
   have e2:ag .i64 (↑(List.length c1.k.ns) - 1)=(c1.ns.length:Int) - 1:=by
    have:(List.length c1.k.ns:Int)=c1.ns.length:=by show((c1.ns.map No.e).length:Int)=_;rw[lβ]
    rw[this];have:=hz1.ns;exact ig (by omega) (by omega)
   have e3:c1.k.re=c1.re:=rfl;simp only[e2,e3,aW,ep];subst h;by_cases hr:i=(c1.ns.length:Int) - 1
   ·rw[if_pos hr,if_pos hr];obtain⟨m2,rfl⟩:∃m2,m1=m2+1:=⟨m1 - 1,by omega⟩
    have w:=fun b=>nM (n:=m2) ({c1 with sc:=c.sc}:CS) i b
    simp only[ab (w true),ab (w false),bH,aC,pd];have hen:evFn lay0.tab (m2+1+1) 229 [.p (.slice 8 c1.k.ns),.p (.int .i64 i)] []=some (.p (.bool (jM c1.ns i)),[]):=by
     obtain⟨m',hm'⟩:∃m',m2+1+1=m'+2*1501+1:=⟨m2+2 - 3003,by omega⟩
     rw[hm'];exact Jm 1501 m' c1.ns i (by omega) hz1.ks
    simp only[ab hen,ba,aD,aC];by_cases h0:c1.re=0
    ·rw[if_pos h0,mη h0];rfl
    ·rw[if_neg h0,mβ h0];cases jM c1.ns i<;>rfl
   ·rw[if_neg hr,if_neg hr]
end
end Go.Ab
end
section
namespace Go.Ab
open Go
set_option maxRecDepth 100000
noncomputable section
theorem Fk {v:CS→Int→Option (Int×CS)}:∀(l:List Int) (c:CS) {ks:List Int} {c':CS},ib v c l=some (ks,c')→ks.length=l.length
 |[],c,ks,c',h=>by simp only[ib,lα,lε]at h;rw[←h.1]
 |k::l,c,ks,c',h=>by
  simp only[ib]at h;split at h
  ·cases h
  ·split at h
   ·cases h
   ·rename_i xs c2 h2;simp only[lα,lε]at h;rw[←h.1];have:=Fk l _ h2;simp[this]
theorem aby {m:Nat}(c:CS)(i k:Int)(d:Bool)(x:No):(br lay0.tab (m+2) 184 [.box 0 0,.p (.int .i64 i),.p (.bool (!d))] c.k.hp fun d1 o=>bd d1 fun r=>aw r<|aQ o fun u=>
  iL (bm x.r.Op 7)
   (cL (bU (TypeDesc.int .i64) (Da.int .i64 i) u.kk 0) fun y=>iV y
    (some ((.p (.int .i64 k)),({u with kk:=(u.kk++[Da.int .i64 i]),kv:=(u.kv++[Da.int .i64 k])}:eA).hp)) fun n=>
    some ((.p (.int .i64 k)),({u with kv:=(List.set u.kv n (Da.int .i64 k))}:eA).hp))
   (some ((.p (.int .i64 k)),u.hp)))=some (.p (.int .i64 k),(iT (cj c i (!d)) i x k).k.hp):=by
 simp only[ab (nM (n:=m) c i (!d)),bH,aC,pd,bE,ep];unfold iT;have hop:x.r.Op=x.op:=rfl;rw[hop];by_cases h:x.op≤7
 ·rw[if_pos h,if_pos h];generalize cj c i (!d)=c1;exact upI c1.ki i (fun k=>Da.int .i64 k) k fun a b=>some (.p (.int .i64 k),eA.hp {c1.k with kk:=a,kv:=b})
 ·rw[if_neg h,if_neg h]
theorem S7:∀(f n:Nat),Td (kz f) (n+3*f+4503)
 |0,n,c,i,d,k,c',h,hz=>by simp only[kz]at h;cases h
 |f+1,n,c,i,d,k,c',h,hz=>by
  rw[show n+3*(f+1)+4503=(n+3*f+4505)+1 by omega];apply XP _ c.k i d;unfold DK;simp only[kz]at h;split at h
  ·cases h
  ·rename_i x hx;obtain⟨j,hj,rfl,hxj⟩:=NU hx;have hxb:x.kids.length<1501:=hz.ks x (hxj▸lι hj);have hat:bx c.k.ns (j:Int)=some x.e:=by
    show bx (c.ns.map No.e) (j:Int)=_;rw[aE,hx];rfl
   rw[hat];have hop:x.r.Op=x.op:=rfl;simp only[bf,vZ,hop,aW,ep];split at h
   ·rename_i h18;rw[if_pos h18];split at h
    ·cases h
    ·rename_i c1 h1;simp only[lα,lε]at h;obtain⟨rfl,rfl⟩:=h;have hv:=S7 f (n+1);rw[show n+1+3*f+4503=n+3*f+4504 by omega]at hv;have hb:=Xs (nD f) hv (by omega) c c1 (j:Int) x hxb h1 hz (by have:=hz.ns;omega);simp only[No.e]at hb;simp only[ab hb,bH,aC,pd]
   ·rename_i h18;rw[if_neg h18];split at h
    ·cases h
    ·rename_i ks c1 h1;have hv:=S7 f (n+2);rw[show n+2+3*f+4503=n+3*f+4505 by omega]at hv;have hl:=fun k0=>Iv (nD f) hv k0 (j:Int) d x.kids x.r hxb x.kids.length (n+3*f+4505) 0 c [] ks c1 (by omega) (by omega) rfl (by rw[List.drop_zero];exact h1) hz
     have hlk:(List.length x.r.Kids:Int)=x.kids.length:=by show((x.kids.map iE).length:Int)=_;rw[lβ]
     simp only[List.length_nil,List.nil_append,List.map_nil,show((0:Nat):Int)=0 from rfl]at hl;rw[hlk];have hl':∀k0,L_cvisit_1 (br lay0.tab (n+3*f+4505)) (n+3*f+4505) k0 (n+3*f+4505) ((j:Int),d,0,x.r.Kids,(x.kids.length:Int),0,c.k,x.r,[])=_:=hl;rw[hl'];have hkl:ks.length<1501:=by rw[Fk _ _ h1];exact hxb
     have hz1:Sz c1:=hz.of (AF (fun c k r=>nD f c k false r) _ _ h1);have htk:List.take ks.length (List.drop 0 (ks.map iE))=ks.map iE:=by
      rw[List.drop_zero];have:=List.take_length (l:=ks.map iE);rwa [lβ]at this
     have her:c1.k.er=c1.er:=rfl;simp only[htk,hop,her];split at h
     ·rename_i h0;split at h
      ·cases h
      ·rename_i k1 c2 h2;simp only[lα,lε]at h;obtain⟨rfl,rfl⟩:=h;rw[co,if_pos h0];have tail:=fun k=>aby (m:=n+3*f+4503) c2 (j:Int) k d x
       simp only[hop]at tail;unfold opT at h2;by_cases h7:x.op=7
       ·rw[if_pos h7]at h2 ⊢
        obtain⟨m0,hm0⟩:∃m0,n+3*f+4505=m0+1505:=⟨n+3*f+3000,by omega⟩
        have e:=abD (n:=m0) c1 c2 (j:Int) k1 x ks h2 hkl hz1.pr hz1.me;rw[←hm0]at e;simp only[No.e]at e;rw[ab e];simp only[ba,bz,pd];exact tail k1
       ·rw[if_neg h7]at h2 ⊢
        rw[bE,ep];by_cases h6:x.op≤6
        ·rw[if_pos h6]at h2 ⊢
         obtain⟨m0,hm0⟩:∃m0,n+3*f+4505=m0+1505:=⟨n+3*f+3000,by omega⟩
         have e:=Gz (n:=m0) c1 c2 (j:Int) k1 x ks h2 hkl;rw[←hm0]at e;simp only[No.e]at e;rw[ab e];simp only[ba,bz,pd];exact tail k1
        ·rw[if_neg h6]at h2 ⊢
         split at h2
         ·rename_i c3 h3;simp only[lα,lε]at h2;obtain⟨rfl,rfl⟩:=h2;obtain⟨m0,hm0⟩:∃m0,n+3*f+4505=m0+1505:=⟨n+3*f+3000,by omega⟩
          have e:=I9 (n:=m0) c1 c3 (j:Int) x ks h3 hkl;rw[←hm0]at e;simp only[No.e]at e;rw[ab e];simp only[bH,aC,pd];exact tail 0
         ·cases h2
     ·rename_i h0;simp only[lα,lε]at h;obtain⟨rfl,rfl⟩:=h;rw[co,if_neg h0]
def yB:CS→List Pa→Option (Option CS)
 |c,[]=>some (some c)
 |c,p::r=>if Ap c p.name=true then some none else match nf c p.name p.kind with
  |none=>none
  |some c1=>yB c1 r
def CS.init (pr:List Ac)(fs:List (List Nat×Vr))(m:Me):CS:=⟨pr,fs,m.nodes,m.result,-1,0,[],[],[],[],[]⟩
def pb (f:Nat)(pr:List Ac)(fs:List (List Nat×Vr))(m:Me):Option (Option CS):=match yB (CS.init pr fs m) m.params with
 |none=>none
 |some none=>some none
 |some (some c1)=>match kz f c1 ((m.nodes.length:Int) - 1) false with
  |none=>none
  |some (_,c2)=>some (some c2)
def fe (c:CS):Da:= .agg [.slice 2 (c.lo.map Pa.e),.map (c.ki.map fun p=> .int .i64 p.1) (c.ki.map fun p=> .int .i64 p.2),.map (c.va.map fun p=> .int .i64 p.1) (c.va.map fun p=>p.2.e)]
def V8:Option CS→D
 |none=> .tup [.p (.agg [.slice 2 [],.nilmap,.nilmap]),.p (.int .i64 (-1)),.p (.int .i64 7)]
 |some c=> .tup [.p (fe c),.p (.int .i64 c.nd),.p (.int .i64 c.er)]
theorem FV:∀(l:List Pa) (c:CS) {r:CS},yB c l=some (some r)→fd c r
 |[],c,r,h=>by simp only[yB,lα]at h;rw[←h];exact fd.refl _
 |p::l,c,r,h=>by
  simp only[yB]at h;split at h
  ·cases h
  ·split at h
   ·cases h
   ·rename_i c1 h1;exact(Ao h1).trans (FV l c1 h)
theorem PJ {m:Nat}(k0:ah×eA×cQ×bA→R)(k1:LD×LD×LD×Int×Int×ah×eA→R)(ps:List Pa)(mm:ah)(hk0:∀x,k0 x=some (V8 none,[]))(hl:ps.length<1501):∀(e q j:Nat) (c:CS) (o:Option CS),j+e=ps.length→e<q→yB c (ps.drop j)=some o→
  L_check_1 (br lay0.tab (m+1)) (m+1) k0 k1 q (c.fs.map (fun p=> .str p.1),c.fs.map (fun p=>p.2.e),ps.map Pa.e,(ps.length:Int),(j:Int),mm,c.k)=match o with
   |none=>some (V8 none,[])
   |some c'=>k1 (c.fs.map (fun p=> .str p.1),c.fs.map (fun p=>p.2.e),ps.map Pa.e,(ps.length:Int),(ps.length:Int),mm,c'.k)
 |0,q+1,j,c,o,h,_,hp=>by
  obtain rfl:j=ps.length:=by omega
  rw[List.drop_length]at hp;simp only[yB,lα]at hp;subst hp;rw[Eo];simp only[pB,bX,aR]
 |e+1,q+1,j,c,o,h,hq,hp=>by
  have hj:j<ps.length:=by omega
  rw[lξ hj]at hp;simp only[yB]at hp;rw[Eo];simp only[pB,cG (show((j:Int)<(ps.length:Int)) by omega),aO,aE,aM,aI hj,bf,dPa,wS (show j<bT by unfold bT;omega)];have hn:ps[j].r.Name=ps[j].name:=rfl;have hkd:ps[j].r.Kind=ps[j].kind:=rfl;have hle:∀(E:R) (K:Da→R),(cL (bU TypeDesc.string (Da.str ps[j].name) c.k.lk 0) fun y=>iV y E fun n=>cL c.k.lv[n]? K)=mO (c8 c.le ps[j].name) E fun v=>K (.bool v):=fun E K=>lkS c.le ps[j].name Da.bool E K
  simp only[hn,hkd];rw[hle,lkS];unfold Ap at hp;have step:∀(hd:Ap c ps[j].name=false),(br lay0.tab (m+1) 127 [.box 0 0,.p (.str ps[j].name),.p (.int .i64 ps[j].kind)] c.k.hp fun d o=>bd d fun r=>aw r<|aQ o fun u=>L_check_1 (br lay0.tab (m+1)) (m+1) k0 k1 q (c.fs.map (fun p=> .str p.1),c.fs.map (fun p=>p.2.e),ps.map Pa.e,(ps.length:Int),((j+1:Nat):Int),mm,u))=match o with
   |none=>some (V8 none,[])
   |some c'=>k1 (c.fs.map (fun p=> .str p.1),c.fs.map (fun p=>p.2.e),ps.map Pa.e,(ps.length:Int),(ps.length:Int),mm,c'.k):=by
   intro hd;unfold Ap at hd;rw[hd]at hp;simp only[Bool.false_eq_true,if_false]at hp;split at hp
   ·cases hp
   ·rename_i c1 h1;have e1:=Dw (n:=m) c c1 ps[j].name ps[j].kind h1;rw[ab e1];simp only[bH,aC,pd];have hfs:c1.fs=c.fs:=(Ao h1).fs;have:=PJ (m:=m) k0 k1 ps mm hk0 hl e q (j+1) c1 o (by omega) (by omega) hp;rw[hfs]at this;exact this
  unfold Ap at step;cases hg:c8 c.fs ps[j].name with
  |some v=>
   simp only[hg,if_true,lα]at hp;subst hp;simp only[WH,dVr,hk0]
  |none=>
   simp only[hg]at hp step;simp only[aaR];cases hh:c8 c.le ps[j].name with
   |some b=>
    simp only[hh]at hp step;simp only[WH,aD];cases b
    ·rw[aR];exact step rfl
    ·simp only[if_true,lα]at hp;subst hp;rw[aO,hk0]
   |none=>
    simp only[hh]at step;simp only[aaR];exact step trivial
theorem abF {f n:Nat}(pr:List Ac)(fs:List (List Nat×Vr))(m:Me)(o:Option CS)(h:pb f pr fs m=some o)(h1:pr.length<1501)(h2:∀a∈pr,a.methods.length<1501)(h3:m.nodes.length<1501)(h4:∀x∈m.nodes,x.kids.length<1501)(h5:m.params.length<1501):
  evFn lay0.tab (n+3*f+4504) 88 [.p (.agg [.slice 3 (pr.map Ac.e)]),.p (.map (fs.map fun p=> .str p.1) (fs.map fun p=>p.2.e)),.p m.e] []=some (V8 o,[]):=by
 apply abN (n+3*f+4503) (pr.map Ac.e) (fs.map fun p=> .str p.1) (fs.map fun p=>p.2.e) m.r;unfold Jr;unfold pb at h;have hz:Sz (CS.init pr fs m):=⟨h1,h2,h3,h4⟩;cases hp:yB (CS.init pr fs m) m.params with
 |none=>rw[hp]at h;cases h
 |some o1=>
  rw[hp]at h;have hl:=fun k0 k1 (hk:∀x,k0 x=some (V8 none,[]))=>PJ (m:=n+3*f+4502) k0 k1 m.params m.r hk h5 m.params.length (n+3*f+4503) 0 (CS.init pr fs m) o1 (by omega) (by omega) (by rw[List.drop_zero];exact hp)
  have hlk:(List.length m.r.Params:Int)=m.params.length:=by show((m.params.map Pa.e).length:Int)=_;rw[lβ]
  rw[hlk];refine Eq.trans (hl _ _ fun x=>rfl) ?_;cases o1 with
  |none=>simp only[lα]at h;rw[←h]
  |some c1=>
   simp only at h;split at h
   ·cases h
   ·rename_i k c2 h2';simp only[lα]at h;rw[←h];have hz1:Sz c1:=hz.of (FV _ _ hp);have e:=S7 f n c1 ((m.nodes.length:Int) - 1) false k c2 h2' hz1;have hln:ag .i64 (↑(List.length m.r.Nodes) - 1)=(m.nodes.length:Int) - 1:=by
     have:(List.length m.r.Nodes:Int)=m.nodes.length:=by show((m.nodes.map No.e).length:Int)=_;rw[lβ]
     rw[this];exact ig (by omega) (by omega)
    simp only[hln];rw[ab e];have htk:List.take c2.k.ln (List.drop 0 c2.k.lo)=c2.lo.map Pa.e:=by
     rw[List.drop_zero];show List.take c2.lo.length (c2.lo.map Pa.e)=_;have:=List.take_length (l:=c2.lo.map Pa.e);rwa [lβ]at this
    simp only[ba,bz,pd,htk];rfl
end
end Go.Ab
end
section
namespace Go.Ab
open Go
noncomputable section
mutual
inductive H0 (ns:List No):Nat→Nat→Prop
 |mk {lo i:Nat} {x:No}:ns[i]?=some x→Ch ns lo x.kids i→H0 ns lo i
inductive Ch (ns:List No):Nat→List Int→Nat→Prop
 |nil {lo:Nat}:Ch ns lo [] lo
 |cons {lo k hi:Nat} {r:List Int}:H0 ns lo k→Ch ns (k+1) r hi→Ch ns lo ((k:Int)::r) hi
end
mutual
theorem H0.le {ns:List No}{lo i:Nat}:H0 ns lo i→lo≤i
 | .mk _ h=>h.le
theorem Ch.le {ns:List No}{lo hi:Nat}{l:List Int}:Ch ns lo l hi→lo≤hi
 | .nil=>Nat.le_refl _
 | .cons h g=>by have:=h.le;have:=g.le;omega
end
theorem H0.lt {ns:List No}{lo i:Nat}(h:H0 ns lo i):i<ns.length:=by
 cases h with
 |mk hx _=>
  rcases lπ i ns.length with h1|h1
  ·exact h1
  ·rw[lθ h1]at hx;cases hx
theorem N5 {ns:List No}:∀(a b:List Int) {lo hi:Nat},Ch ns lo (a++b) hi→∃mid,Ch ns lo a mid∧Ch ns mid b hi
 |[],b,lo,hi,h=>⟨lo,.nil,h⟩
 |x::a,b,lo,hi,h=>by
  cases h with
  |cons h1 h2=>
   obtain⟨mid,h3,h4⟩:=N5 a b h2;exact⟨mid,.cons h1 h3,h4⟩
theorem Tx {ns:List No}:∀(a b:List Int) {lo mid hi:Nat},Ch ns lo a mid→Ch ns mid b hi→Ch ns lo (a++b) hi
 |[],b,lo,mid,hi,h,g=>by cases h;exact g
 |x::a,b,lo,mid,hi,h,g=>by
  cases h with
  |cons h1 h2=>exact .cons h1 (Tx a b h2 g)
def ea:List No→Nat→List Int→Bool
 |[],_,roots=>decide (roots.length=1)
 |x::r,i,roots=>if roots.length<x.kids.length then false else if roots.drop (roots.length - x.kids.length)=x.kids then ea r (i+1) (roots.take (roots.length - x.kids.length)++[(i:Int)])else false
theorem uh {ns:List No}:∀(r:List No) (i:Nat) (roots:List Int),ns.drop i=r→i≤ns.length→Ch ns 0 roots i→ea r i roots=true→∃k:Nat,H0 ns 0 k∧k+1=ns.length
 |[],i,roots,hr,hi,hc,h=>by
  simp only[ea,lη]at h;have hl:i=ns.length:=by
   have:=congrArg List.length hr;simp at this;omega
  match roots,h,hc with
  |[k],_,hc=>
   cases hc with
   |cons h1 h2=>cases h2;exact⟨_,h1,hl⟩
 |x::r,i,roots,hr,hi,hc,h=>by
  simp only[ea]at h;split at h
  ·cases h
  ·split at h
   ·rename_i hlen hdrop;have hlt:i<ns.length:=by
     rcases lπ i ns.length with h1|h1
     ·exact h1
     ·rw[qβ h1]at hr;cases hr
    have hx:ns[i]?=some x:=by
     rw[lξ hlt]at hr;rw[lγ hlt];simp only[lμ]at hr;rw[hr.1]
    have hr':ns.drop (i+1)=r:=by
     rw[lξ hlt]at hr;simp only[lμ]at hr;exact hr.2
    rw[←List.take_append_drop (roots.length - x.kids.length) roots,hdrop]at hc;obtain⟨mid,h1,h2⟩:=N5 _ _ hc;exact uh r (i+1) _ hr' hlt (Tx _ _ h1 (.cons (.mk hx h2) .nil)) h
   ·cases h
structure afd (x:No):Prop where
 one:x.op=4∨x.op=7∨x.op=8∨x.op=9∨x.op=11∨x.op=12∨x.op=17→1≤x.kids.length
 two:x.op=5→2≤x.kids.length
theorem t6 (c:CS)(i e:Int):(iR c i e).lo=c.lo:=by unfold iR;split<;>rfl
theorem eV (c:CS)(i:Int)(b:Bool):(cj c i b).lo=c.lo:=by
 unfold cj;split
 ·rfl
 ·exact t6 _ _ _
theorem S6 (c:CS)(i:Int)(s:List Nat):(my c i s).2.lo=c.lo:=by
 unfold my;split
 ·rfl
 ·exact t6 _ _ _
theorem T3 (c:CS)(i:Int)(x:No):(qS c i x).lo=c.lo:=by
 unfold qS;split
 ·exact t6 _ _ _
 split
 ·exact t6 _ _ _
 ·rfl
theorem agn (c:CS)(i e:Int):(Au c i e).lo=c.lo:=by
 unfold Au;split
 ·rfl
 ·exact t6 _ _ _
theorem Oc (c:CS)(s:List Nat)(k:Int)(h:c.lo.length<1000000000):∃c',nf c s k=some c'∧c'.lo=c.lo++[⟨s,k⟩]:=by
 unfold nf;rw[if_pos h];exact⟨_,rfl,rfl⟩
theorem adB (c:CS)(i:Int)(x:No)(k:Int)(h:c.lo.length<1000000000):∃c',yh c i x k=some c'∧c'.lo.length=c.lo.length+1:=by
 unfold yh;obtain⟨c1,h1,h2⟩:=Oc (cj (qS c i x) i (decide (k=x.v.k))) x.name x.v.k (by rw[eV,T3];exact h);rw[h1];exact⟨_,rfl,by rw[S6,h2,eV,T3];simp⟩
theorem ag2 (c:CS)(i:Int)(x:No)(ks:List Int)(har:afd x)(hk:ks.length=x.kids.length)(hl:c.lo.length<1000000000):∃k c',opT c i x ks=some (k,c')∧c'.lo.length≤c.lo.length+1:=by
 unfold opT;by_cases h7:x.op=7
 ·rw[if_pos h7];unfold RI;have:=har.one (by omega);cases j2 c.pr x.name x.v.s with
  |none=>exact⟨_,_,rfl,by rw[t6];omega⟩
  |some m=>match ks,hk with
   |[],hk=>simp at hk;omega
   |k::r,_=>exact⟨_,_,rfl,by rw[eV];omega⟩
 rw[if_neg h7];by_cases h6:x.op≤6
 ·rw[if_pos h6];unfold E0;by_cases h1:x.op=1
  ·rw[if_pos h1];exact⟨_,_,rfl,by omega⟩
  rw[if_neg h1];by_cases h3:x.op=3
  ·rw[if_pos h3];exact⟨_,_,rfl,by omega⟩
  rw[if_neg h3];by_cases h2:x.op=2
  ·rw[if_pos h2];exact⟨_,_,rfl,by rw[S6];omega⟩
  rw[if_neg h2];by_cases h4:x.op=4
  ·rw[if_pos h4];have:=har.one (by omega);match ks,hk with
   |[],hk=>simp at hk;omega
   |k::r,_=>exact⟨_,_,rfl,by rw[eV];omega⟩
  rw[if_neg h4];by_cases h5:x.op=5
  ·rw[if_pos h5];have:=har.two h5;match ks,hk with
   |[],hk=>simp at hk;omega
   |[k],hk=>simp at hk;omega
   |k::k'::r,_=>exact⟨_,_,rfl,by rw[eV];omega⟩
  rw[if_neg h5];exact⟨_,_,rfl,by rw[agn];omega⟩
 rw[if_neg h6];have key:∃c',yP c i x ks=some c'∧c'.lo.length≤c.lo.length+1:=by
  unfold yP;by_cases h8:x.op=8
  ·rw[if_pos h8];have:=har.one (by omega);match ks,hk with
   |[],hk=>simp at hk;omega
   |k::r,_=>
    obtain⟨c1,h1,h2⟩:=adB c i x k hl;exact⟨c1,h1,by omega⟩
  rw[if_neg h8];by_cases h9:x.op=9
  ·rw[if_pos h9];have:=har.one (by omega);match ks,hk with
   |[],hk=>simp at hk;omega
   |k::r,_=>exact⟨_,rfl,by rw[eV,S6];omega⟩
  rw[if_neg h9];by_cases h11:x.op=11∨x.op=12
  ·rw[if_pos h11];have:=har.one (by omega);match ks,hk with
   |[],hk=>simp at hk;omega
   |k::r,_=>exact⟨_,rfl,by rw[eV];omega⟩
  rw[if_neg h11];by_cases h13:x.op=13
  ·rw[if_pos h13];match ks with
   |[]=>exact⟨_,rfl,by rw[eV];omega⟩
   |k::r=>exact⟨_,rfl,by rw[eV,eV];omega⟩
  rw[if_neg h13];by_cases h15:x.op=15
  ·rw[if_pos h15];exact⟨_,rfl,by rw[eV];omega⟩
  rw[if_neg h15];by_cases h16:x.op=16
  ·rw[if_pos h16];exact⟨_,rfl,by rw[eV];omega⟩
  rw[if_neg h16];by_cases h17:x.op=17
  ·rw[if_pos h17];have:=har.one (by omega);match ks,hk with
   |[],hk=>simp at hk;omega
   |k::r,_=>exact⟨_,rfl,by rw[eV];omega⟩
  rw[if_neg h17];exact⟨_,rfl,by omega⟩
 obtain⟨c1,h1,h2⟩:=key;rw[h1];exact⟨_,_,rfl,h2⟩
theorem adS (c:CS)(i:Int)(x:No)(k:Int):(iT c i x k).lo=c.lo:=by unfold iT;split<;>rfl
def Xq (ns:List No)(f:Nat):Prop:=∀(lo i:Nat),H0 ns lo i→i<f→∀(c:CS) (d:Bool),c.ns=ns→c.lo.length+(i+1 - lo)≤150100→∃k c',kz f c (i:Int) d=some (k,c')∧c'.lo.length≤c.lo.length+(i+1 - lo)
theorem OJ {ns:List No}{f:Nat}(hv:Xq ns f):∀(l:List Int) (lo hi:Nat),Ch ns lo l hi→hi≤f→∀c:CS,c.ns=ns→c.lo.length+(hi - lo)≤150100→∃ks c',ib (fun c k=>kz f c k false) c l=some (ks,c')∧c'.lo.length≤c.lo.length+(hi - lo)
 |[],lo,hi,h,_,c,_,_=>by cases h;exact⟨[],c,rfl,by omega⟩
 |_::l,lo,hi,h,hf,c,hc,hb=>by
  cases h with
  | @cons _ k _ _ h1 h2=>
   have l1:=h1.le;have l2:=h2.le;obtain⟨x,c1,e1,b1⟩:=hv lo k h1 (by omega) c false hc (by omega);have s1:=nD f c k false _ e1;obtain⟨xs,c2,e2,b2⟩:=OJ hv l (k+1) hi h2 hf c1 (s1.ns.trans hc) (by omega);refine⟨x::xs,c2,?_,by omega⟩
   simp only[ib,e1,e2]
theorem Tp {ns:List No}{f:Nat}(hv:Xq ns f):∀(l:List Int) (lo hi:Nat),Ch ns lo l hi→hi≤f→∀(c:CS) (d:Bool),c.ns=ns→c.lo.length+(hi - lo)≤150100→∃c',sG (kz f) c l d=some c'∧c'.lo.length≤c.lo.length+(hi - lo)
 |[],lo,hi,h,_,c,d,_,_=>by cases h;exact⟨c,rfl,by omega⟩
 |_::l,lo,hi,h,hf,c,d,hc,hb=>by
  cases h with
  | @cons _ k _ _ h1 h2=>
   have l1:=h1.le;have l2:=h2.le;obtain⟨x,c1,e1,b1⟩:=hv lo k h1 (by omega) c d hc (by omega);have s1:=nD f c k d _ e1;obtain⟨c2,e2,b2⟩:=Tp hv l (k+1) hi h2 hf c1 (d||jM c1.ns k) (s1.ns.trans hc) (by omega);refine⟨c2,?_,by omega⟩
   simp only[sG,e1];exact e2
theorem MC {ns:List No}(har:∀x∈ns,afd x):∀f,Xq ns f
 |0,lo,i,hs,hi,c,d,hc,hb=>by omega
 |f+1,lo,i,hs,hi,c,d,hc,hb=>by
  have hlt:=hs.lt;have hle:=hs.le;cases hs with
  | @mk _ _ x hx hch=>
   have hx':jY c.ns (i:Int)=some x:=by rw[hc,oA];exact hx
   have hxm:x∈ns:=mι hx;simp only[kz,hx'];by_cases h18:x.op=18
   ·rw[if_pos h18];obtain⟨c1,e1,b1⟩:=Tp (MC har f) x.kids lo i hch (by omega) c false hc (by omega);unfold qM;rw[e1];refine⟨0,_,rfl,?_⟩;split
    ·rw[eV];show c1.lo.length≤_;omega
    ·show c1.lo.length≤_;omega
   ·rw[if_neg h18];obtain⟨ks,c1,e1,b1⟩:=OJ (MC har f) x.kids lo i hch (by omega) c hc (by omega);rw[e1];simp only;split
    ·obtain⟨k,c2,e2,b2⟩:=ag2 c1 (i:Int) x ks (har x hxm) (Fk _ _ e1) (by omega);rw[e2];refine⟨_,_,rfl,?_⟩;rw[adS,eV];omega
    ·exact⟨_,_,rfl,by omega⟩
structure Dv (ns:List No):Prop where
 tree:∃k:Nat,H0 ns 0 k∧k+1=ns.length
 ar:∀x∈ns,afd x
 lets:∀x∈ns,x.op=8∨x.op=9→∀k∈x.kids,∀y,jY ns k=some y→y.op≤7
theorem Uo:∀(l:List Pa) (c:CS),c.lo.length+l.length<1501→∃o,yB c l=some o∧∀c',o=some c'→c'.lo.length=c.lo.length+l.length
 |[],c,h=>⟨some c,rfl,fun c' e=>by simp only[lα]at e;subst e;simp⟩
 |p::l,c,h=>by
  simp only[yB];split
  ·exact⟨none,rfl,fun c' e=>by cases e⟩
  ·obtain⟨c1,h1,h2⟩:=Oc c p.name p.kind (by omega);rw[h1];have hl:c1.lo.length=c.lo.length+1:=by rw[h2];simp
   simp only[List.length_cons]at h;obtain⟨o,h3,h4⟩:=Uo l c1 (by omega);exact⟨o,h3,fun c' e=>by rw[h4 c' e];simp;omega⟩
theorem V6 (pr:List Ac)(fs:List (List Nat×Vr))(m:Me)(hb:Dv m.nodes)(hn:m.nodes.length<1501)(hp:m.params.length<1501):∃o,pb 1501 pr fs m=some o:=by
 unfold pb;obtain⟨o,h1,h2⟩:=Uo m.params (CS.init pr fs m) (by simp[CS.init];exact hp);rw[h1];cases o with
 |none=>exact⟨_,rfl⟩
 |some c1=>
  obtain⟨k,hs,hk⟩:=hb.tree;have hst:=FV _ _ h1;have hl:=h2 c1 rfl;simp[CS.init]at hl;obtain⟨k',c2,e,_⟩:=MC hb.ar 1501 0 k hs (by omega) c1 false (hst.ns) (by omega);have:((m.nodes.length:Int) - 1)=(k:Int):=by omega
  simp only[this,e];exact⟨_,rfl⟩
end
end Go.Ab
end
section
namespace Go.Ab
open Go
set_option maxRecDepth 100000
noncomputable section
theorem uc (x:No):x.r.Op=x.op:=rfl
theorem Gy (x:No):x.r.Name=x.name:=rfl
theorem IH (x:No):x.r.Value_Kind=x.v.k:=rfl
theorem MI (x:No):x.r.Value_N=x.v.n:=rfl
theorem Lm (x:No):x.r.Value_S=x.v.s:=rfl
theorem MJ (x:No):x.r.Value_I=x.v.I.map iE:=rfl
theorem MK (x:No):x.r.Value_L=x.v.L.map .str:=rfl
theorem qb (x:No):x.r.Kids=x.kids.map iE:=rfl
theorem dQ {α:Type}(l:List α)(p:α→Bool):l.all p=(l.findIdx? fun x=>!p x).isNone:=by
 rw[←sF];simp
def dY (o:Int):Bool:=bm 1 o&&bm o 6
def CY (o:Int):Bool:=bm 8 o&&bm o 17
def Ag (o:Int):Bool:=av o 7
def td (o:Int):Bool:=dY o||Ag o
def EI (o:Int):Bool:=av o 18
def cE (ns:List No)(k:Int):Int:=((jY ns k).map fun y=>y.op).getD 0
def ej (x:No)(a b:Int):Bool:=bm a (x.kids.length:Int)&&bm (x.kids.length:Int) b
def dJ (ns:List No)(x:No)(j:Nat)(f:Int→Bool):Bool:=(x.kids.drop j).all fun k=>f (cE ns k)
theorem oR {n:Nat}(k:Int):evFn lay0.tab (n+1) 221 [.p (.int .i64 k)] []=some (.p (.bool (dY k)),[]):=by
 apply GT n k;simp only[oW,bw,dL,gD,dY,Bool.and_true]
theorem Jk {n:Nat}(k:Int):evFn lay0.tab (n+1) 225 [.p (.int .i64 k)] []=some (.p (.bool (CY k)),[]):=by
 apply J3 n k;simp only[qp,bw,dL,gD,CY,Bool.and_true]
theorem XE {n:Nat}(k:Int):evFn lay0.tab (n+1) 223 [.p (.int .i64 k)] []=some (.p (.bool (Ag k)),[]):=by
 apply X3 n k;simp only[D0,bw,dL,Ag]
theorem XF {n:Nat}(k:Int):evFn lay0.tab (n+1) 224 [.p (.int .i64 k)] []=some (.p (.bool (EI k)),[]):=by
 apply X4 n k;simp only[D1,bw,dL,EI]
theorem XD {n:Nat}(k:Int):evFn lay0.tab (n+2) 222 [.p (.int .i64 k)] []=some (.p (.bool (td k)),[]):=by
 apply X2 (n+1) k;simp only[DZ,ab (oR (n:=n) k),ba,aD,aC,bw,dL,V0,Bool.or_false,td,Ag]
theorem XC {n:Nat}(x:No)(a b:Int):evFn lay0.tab (n+1) 219 [.p (.int .i64 a),.p (.int .i64 b),.box 0 0] [x.r.b]=some (.p (.bool (ej x a b)),[x.r.b]):=by
 apply X1 n x.r a b;simp only[DY,qb,lβ,ej];cases bm a (x.kids.length:Int)<;>cases bm (x.kids.length:Int) b<;>rfl
theorem Vc {n:Nat}(ns:List No)(x:No)(j:Nat)(hj:j≤x.kids.length)(hk:∀k∈x.kids,∃y,jY ns k=some y)(h:x.kids.length<1501):evFn lay0.tab (n+1504) 220 [.p (.int .i64 j),.p (.fn 221 []),.box 0 0,.box 1 0] [x.r.b,.box [.p (.slice 8 (ns.map No.e))]]=some (.p (.bool (dJ ns x j dY)),[x.r.b,.box [.p (.slice 8 (ns.map No.e))]]):=by
 apply VE (n+1503) x.r (ns.map No.e) j;unfold zQ dJ;have hd:List.take ((x.kids.map iE).length - Int.toNat (j:Int)) (List.drop (Int.toNat (j:Int)) (x.kids.map iE))=(x.kids.drop j).map iE:=by
  rw[Int.toNat_natCast,mθ (by simp),List.map_drop]
 simp only[qb,hd,bE,show(0:Int)≤(j:Int) by omega,show(j:Int)≤((x.kids.map iE).length:Int) by rw[lβ];omega,decide_true,aO];have hkd:∀k∈x.kids.drop j,∃y,jY ns k=some y:=fun k hm=>hk k (mξ hm)
 have hld:(x.kids.drop j).length<1501:=by simp;omega
 generalize x.kids.drop j=ks at hkd hld ⊢
 rw[lβ];refine(aT ks (fun q i=>ol _ (n+1503) _ _ q (ks.map iE,(ks.length:Int),i,x.r,ns.map No.e)) (fun k=>!dY (cE ns k)) (fun i=>some (.p (.bool false),[x.r.b,.box [.p (.slice 8 (ns.map No.e))]])) (some (.p (.bool true),[x.r.b,.box [.p (.slice 8 (ns.map No.e))]])) (fun q i hi=>?_) (fun q=>?_) (by omega)).trans ?_
 ·rw[xf];obtain⟨y,hy⟩:=hkd ks[i] (lι _);simp only[ls,cG (show((i:Int)<(ks.length:Int)) by omega),aO,aE,aM,aI hi,bf,dI,hy,vZ,uc,wS (show i<bT by unfold bT;omega),ab (oR (n:=n+1502) y.op),ba,aD,aC,bt,cE,Option.map_some,Option.getD_some];cases dY y.op<;>rfl
 ·rw[xf];simp only[ls,bX,aR]
 ·rw[dQ];cases ks.findIdx? fun k=>!dY (cE ns k)<;>rfl
theorem Vd {n:Nat}(ns:List No)(x:No)(j:Nat)(hj:j≤x.kids.length)(hk:∀k∈x.kids,∃y,jY ns k=some y)(h:x.kids.length<1501):evFn lay0.tab (n+1504) 220 [.p (.int .i64 j),.p (.fn 225 []),.box 0 0,.box 1 0] [x.r.b,.box [.p (.slice 8 (ns.map No.e))]]=some (.p (.bool (dJ ns x j CY)),[x.r.b,.box [.p (.slice 8 (ns.map No.e))]]):=by
 apply VF (n+1503) x.r (ns.map No.e) j;unfold zR dJ;have hd:List.take ((x.kids.map iE).length - Int.toNat (j:Int)) (List.drop (Int.toNat (j:Int)) (x.kids.map iE))=(x.kids.drop j).map iE:=by
  rw[Int.toNat_natCast,mθ (by simp),List.map_drop]
 simp only[qb,hd,bE,show(0:Int)≤(j:Int) by omega,show(j:Int)≤((x.kids.map iE).length:Int) by rw[lβ];omega,decide_true,aO];have hkd:∀k∈x.kids.drop j,∃y,jY ns k=some y:=fun k hm=>hk k (mξ hm)
 have hld:(x.kids.drop j).length<1501:=by simp;omega
 generalize x.kids.drop j=ks at hkd hld ⊢
 rw[lβ];refine(aT ks (fun q i=>oo _ (n+1503) _ _ q (ks.map iE,(ks.length:Int),i,x.r,ns.map No.e)) (fun k=>!CY (cE ns k)) (fun i=>some (.p (.bool false),[x.r.b,.box [.p (.slice 8 (ns.map No.e))]])) (some (.p (.bool true),[x.r.b,.box [.p (.slice 8 (ns.map No.e))]])) (fun q i hi=>?_) (fun q=>?_) (by omega)).trans ?_
 ·rw[xg];obtain⟨y,hy⟩:=hkd ks[i] (lι _);simp only[lu,cG (show((i:Int)<(ks.length:Int)) by omega),aO,aE,aM,aI hi,bf,dI,hy,vZ,uc,wS (show i<bT by unfold bT;omega),ab (Jk (n:=n+1502) y.op),ba,aD,aC,bt,cE,Option.map_some,Option.getD_some];cases CY y.op<;>rfl
 ·rw[xg];simp only[lu,bX,aR]
 ·rw[dQ];cases ks.findIdx? fun k=>!CY (cE ns k)<;>rfl
theorem U8 {n:Nat}(ns:List No)(x:No)(j:Nat)(hj:j≤x.kids.length)(hk:∀k∈x.kids,∃y,jY ns k=some y)(h:x.kids.length<1501):evFn lay0.tab (n+1504) 220 [.p (.int .i64 j),.p (.fn 222 []),.box 0 0,.box 1 0] [x.r.b,.box [.p (.slice 8 (ns.map No.e))]]=some (.p (.bool (dJ ns x j td)),[x.r.b,.box [.p (.slice 8 (ns.map No.e))]]):=by
 apply VB (n+1503) x.r (ns.map No.e) j;unfold zN dJ;have hd:List.take ((x.kids.map iE).length - Int.toNat (j:Int)) (List.drop (Int.toNat (j:Int)) (x.kids.map iE))=(x.kids.drop j).map iE:=by
  rw[Int.toNat_natCast,mθ (by simp),List.map_drop]
 simp only[qb,hd,bE,show(0:Int)≤(j:Int) by omega,show(j:Int)≤((x.kids.map iE).length:Int) by rw[lβ];omega,decide_true,aO];have hkd:∀k∈x.kids.drop j,∃y,jY ns k=some y:=fun k hm=>hk k (mξ hm)
 have hld:(x.kids.drop j).length<1501:=by simp;omega
 generalize x.kids.drop j=ks at hkd hld ⊢
 rw[lβ];refine(aT ks (fun q i=>og _ (n+1503) _ _ q (ks.map iE,(ks.length:Int),i,x.r,ns.map No.e)) (fun k=>!td (cE ns k)) (fun i=>some (.p (.bool false),[x.r.b,.box [.p (.slice 8 (ns.map No.e))]])) (some (.p (.bool true),[x.r.b,.box [.p (.slice 8 (ns.map No.e))]])) (fun q i hi=>?_) (fun q=>?_) (by omega)).trans ?_
 ·rw[xb];obtain⟨y,hy⟩:=hkd ks[i] (lι _);simp only[lm,cG (show((i:Int)<(ks.length:Int)) by omega),aO,aE,aM,aI hi,bf,dI,hy,vZ,uc,wS (show i<bT by unfold bT;omega),ab (XD (n:=n+1501) y.op),ba,aD,aC,bt,cE,Option.map_some,Option.getD_some];cases td y.op<;>rfl
 ·rw[xb];simp only[lm,bX,aR]
 ·rw[dQ];cases ks.findIdx? fun k=>!td (cE ns k)<;>rfl
theorem U9 {n:Nat}(ns:List No)(x:No)(j:Nat)(hj:j≤x.kids.length)(hk:∀k∈x.kids,∃y,jY ns k=some y)(h:x.kids.length<1501):evFn lay0.tab (n+1504) 220 [.p (.int .i64 j),.p (.fn 223 []),.box 0 0,.box 1 0] [x.r.b,.box [.p (.slice 8 (ns.map No.e))]]=some (.p (.bool (dJ ns x j Ag)),[x.r.b,.box [.p (.slice 8 (ns.map No.e))]]):=by
 apply VC (n+1503) x.r (ns.map No.e) j;unfold zO dJ;have hd:List.take ((x.kids.map iE).length - Int.toNat (j:Int)) (List.drop (Int.toNat (j:Int)) (x.kids.map iE))=(x.kids.drop j).map iE:=by
  rw[Int.toNat_natCast,mθ (by simp),List.map_drop]
 simp only[qb,hd,bE,show(0:Int)≤(j:Int) by omega,show(j:Int)≤((x.kids.map iE).length:Int) by rw[lβ];omega,decide_true,aO];have hkd:∀k∈x.kids.drop j,∃y,jY ns k=some y:=fun k hm=>hk k (mξ hm)
 have hld:(x.kids.drop j).length<1501:=by simp;omega
 generalize x.kids.drop j=ks at hkd hld ⊢
 rw[lβ];refine(aT ks (fun q i=>oh _ (n+1503) _ _ q (ks.map iE,(ks.length:Int),i,x.r,ns.map No.e)) (fun k=>!Ag (cE ns k)) (fun i=>some (.p (.bool false),[x.r.b,.box [.p (.slice 8 (ns.map No.e))]])) (some (.p (.bool true),[x.r.b,.box [.p (.slice 8 (ns.map No.e))]])) (fun q i hi=>?_) (fun q=>?_) (by omega)).trans ?_
 ·rw[xc];obtain⟨y,hy⟩:=hkd ks[i] (lι _);simp only[lq,cG (show((i:Int)<(ks.length:Int)) by omega),aO,aE,aM,aI hi,bf,dI,hy,vZ,uc,wS (show i<bT by unfold bT;omega),ab (XE (n:=n+1502) y.op),ba,aD,aC,bt,cE,Option.map_some,Option.getD_some];cases Ag y.op<;>rfl
 ·rw[xc];simp only[lq,bX,aR]
 ·rw[dQ];cases ks.findIdx? fun k=>!Ag (cE ns k)<;>rfl
theorem Vb {n:Nat}(ns:List No)(x:No)(j:Nat)(hj:j≤x.kids.length)(hk:∀k∈x.kids,∃y,jY ns k=some y)(h:x.kids.length<1501):evFn lay0.tab (n+1504) 220 [.p (.int .i64 j),.p (.fn 224 []),.box 0 0,.box 1 0] [x.r.b,.box [.p (.slice 8 (ns.map No.e))]]=some (.p (.bool (dJ ns x j EI)),[x.r.b,.box [.p (.slice 8 (ns.map No.e))]]):=by
 apply VD (n+1503) x.r (ns.map No.e) j;unfold zP dJ;have hd:List.take ((x.kids.map iE).length - Int.toNat (j:Int)) (List.drop (Int.toNat (j:Int)) (x.kids.map iE))=(x.kids.drop j).map iE:=by
  rw[Int.toNat_natCast,mθ (by simp),List.map_drop]
 simp only[qb,hd,bE,show(0:Int)≤(j:Int) by omega,show(j:Int)≤((x.kids.map iE).length:Int) by rw[lβ];omega,decide_true,aO];have hkd:∀k∈x.kids.drop j,∃y,jY ns k=some y:=fun k hm=>hk k (mξ hm)
 have hld:(x.kids.drop j).length<1501:=by simp;omega
 generalize x.kids.drop j=ks at hkd hld ⊢
 rw[lβ];refine(aT ks (fun q i=>oi _ (n+1503) _ _ q (ks.map iE,(ks.length:Int),i,x.r,ns.map No.e)) (fun k=>!EI (cE ns k)) (fun i=>some (.p (.bool false),[x.r.b,.box [.p (.slice 8 (ns.map No.e))]])) (some (.p (.bool true),[x.r.b,.box [.p (.slice 8 (ns.map No.e))]])) (fun q i hi=>?_) (fun q=>?_) (by omega)).trans ?_
 ·rw[xe];obtain⟨y,hy⟩:=hkd ks[i] (lι _);simp only[lr,cG (show((i:Int)<(ks.length:Int)) by omega),aO,aE,aM,aI hi,bf,dI,hy,vZ,uc,wS (show i<bT by unfold bT;omega),ab (XF (n:=n+1502) y.op),ba,aD,aC,bt,cE,Option.map_some,Option.getD_some];cases EI y.op<;>rfl
 ·rw[xe];simp only[lr,bX,aR]
 ·rw[dQ];cases ks.findIdx? fun k=>!EI (cE ns k)<;>rfl
def OG (ns:List No)(x:No)(m:Int):Bool:=ej x 2 m&&(dY (cE ns (x.kids.headD 0))&&dJ ns x 1 EI)
def ci (ns:List No)(x:No):Bool:=bif av x.op 1 then ej x 0 0 else bif av x.op 2 then ej x 0 0 else bif av x.op 3 then ej x 0 0 else bif av x.op 14 then ej x 0 0 else bif av x.op 4 then ej x 1 1&&dJ ns x 0 dY else bif av x.op 17 then ej x 1 1&&dJ ns x 0 dY else bif av x.op 5 then ej x 2 2&&dJ ns x 0 dY else bif av x.op 15 then ej x 2 2&&dJ ns x 0 dY else bif av x.op 16 then ej x 3 3&&dJ ns x 0 dY else bif av x.op 6 then ej x 0 16&&dJ ns x 0 dY else bif av x.op 7 then ej x 1 17&&dJ ns x 0 dY else bif av x.op 8 then ej x 1 1&&dJ ns x 0 td else bif av x.op 9 then ej x 1 1&&dJ ns x 0 td else bif av x.op 10 then ej x 1 1&&dJ ns x 0 Ag else bif av x.op 11 then(bif av x.op 12 then OG ns x 2 else OG ns x 3)else bif av x.op 12 then(bif av x.op 12 then OG ns x 2 else OG ns x 3)else bif av x.op 13 then ej x 0 1&&dJ ns x 0 dY else bif av x.op 18 then dJ ns x 0 CY else false
theorem abH {n:Nat}(ns:List No)(x:No)(hk:∀k∈x.kids,∃y,jY ns k=some y)(h:x.kids.length<1501):evFn lay0.tab (n+1505) 177 [.p (.slice 8 (ns.map No.e)),.p x.e] []=some (.p (.bool (ci ns x)),[]):=by
 apply abU (n+1504) (ns.map No.e) x.r;have h1:∀(a b:Int) (K:KV),br lay0.tab (n+1504) 219 [.p (.int .i64 a),.p (.int .i64 b),.box 0 0] [x.r.b] K=K (.p (.bool (ej x a b))) [x.r.b]:=fun a b=>ab (XC (n:=n+1503) x a b)
 have hE:=ab (Vc (n:=n) ns x 0 (Nat.zero_le _) hk h);have hS:=ab (Vd (n:=n) ns x 0 (Nat.zero_le _) hk h);have hA:=ab (U8 (n:=n) ns x 0 (Nat.zero_le _) hk h);have hB:=ab (U9 (n:=n) ns x 0 (Nat.zero_le _) hk h);simp only[show((0:Nat):Int)=0 from rfl]at hE hS hA hB;have hx:∀(o:Int) (K:KV),br lay0.tab (n+1504) 221 [.p (.int .i64 o)] [] K=K (.p (.bool (dY o))) []:=fun o=>ab (oR (n:=n+1503) o)
 have hif:∀m,(iL (ej x 2 m) (cL (bx x.r.Kids 0) fun x133=>aU .i64 x133 fun i134=>cL (bx (ns.map No.e) i134) fun x135=>aS x135 fun u136=>br lay0.tab (n+1504) 221 [(.p (.int .i64 u136.Op))] [] fun d137 o138=>dP d137 fun x139=>az x139 fun b140=>aw o138<|iL b140 (br lay0.tab (n+1504) 220 [(.p (.int .i64 1)),(.p (.fn 224 [])),(.box 0 0),(.box 1 0)] [x.r.b,(.box [(.p (.slice 8 (ns.map No.e)))])] fun d141 o142=>dP d141 fun x143=>az x143 fun b144=>bj [x.r.b,(.box [(.p (.slice 8 (ns.map No.e)))])] o142<|iL b144 (some ((.p (.bool true)),[])) (some ((.p (.bool false)),[]))) (some ((.p (.bool false)),[]))) (some ((.p (.bool false)),[])))=some (.p (.bool (OG ns x m)),[]):=by
  intro m;unfold OG;cases hks:x.kids with
  |nil=>
   have:ej x 2 m=false:=by unfold ej;rw[hks];rfl
   rw[this];rfl
  |cons k r=>
   obtain⟨y,hy⟩:=hk k (by rw[hks];exact lυ ..);have hC:=ab (Vb (n:=n) ns x 1 (by rw[hks];simp) hk h);simp only[show((1:Nat):Int)=1 from rfl]at hC;simp only[qb,hks,aE,aM,cM,bf,dI,hy,vZ,uc,hx,hC,ba,aD,aC,bt,bw,dL,gD,Bool.and_true,List.headD_cons,cE,Option.map_some,Option.getD_some]
 simp only[Jy,uc,h1,ba,aD,bt,hif];simp only[hE,hS,hA,hB,ba,aD,bt,bw,dL,gD,Bool.and_true,ci]
def binO:List (List Nat):=[[124,124],[38,38],[61,61],[33,61],[60],[60,61],[62],[62,61],[43],[45],[42],[47],[37]]
def v0:Va:=⟨0,0,[],[],[]⟩
def gA (x:No)(b:Bool):Bool:=bif av x.op 4 then(bif aN x.name [45]then b else bif aN x.name [33]then b else false)else bif av x.op 5 then(bif binO.any (fun t=>aN x.name t)then b else false)else bif av x.op 6 then(bif cK x.name then b else bif aN x.name [105,110,116,115]then b else bif aN x.name [115,116,114,105,110,103,115]then b else false)else bif av x.op 7 then(bif cK x.name then bif cK x.v.s then gb x.v ⟨0,0,x.v.s,[],[]⟩else false else false)else bif av x.op 8 then(bif cK x.name then bif gB x.v.k then gb x.v ⟨x.v.k,0,[],[],[]⟩else false else false)else bif aN x.name []then b else false
def TB (x:No):Bool:=bif aN x.name []then(bif uy x.v then(bif av x.v.k 1 then bif bm 0 x.v.n then true else bif av x.v.k 2 then true else av x.v.k 3 else bif av x.v.k 2 then true else av x.v.k 3)else false)else false
def dC (x:No):Bool:=bif av x.op 1 then TB x else bif av x.op 2 then(bif av x.op 2 then(bif cK x.name then gb x.v v0 else false)else gA x (gb x.v v0))else bif av x.op 9 then(bif cK x.name then gb x.v v0 else false)else gA x (gb x.v v0)
theorem MT {n:Nat}(x:No):evFn lay0.tab (n+1507) 178 [.p x.e] []=some (.p (.bool (dC x)),[]):=by
 apply ND (n+1506) x.r;have h1:=ab (Jj (n:=n+1) x.v v0 (.inr (by decide)) (.inr (by decide)));have h2:=ab (Jj (n:=n+1) x.v ⟨0,0,x.v.s,[],[]⟩ (.inr (by simp)) (.inr (by simp)));have h3:=ab (Jj (n:=n+1) x.v ⟨x.v.k,0,[],[],[]⟩ (.inr (by simp)) (.inr (by simp)));have h4:=ab (mz (n:=n) x.name);have h5:=ab (mz (n:=n) x.v.s);have h6:=ab (MV (n:=n+3) x.v);have h7:=ab (XA (n:=n+2) binO x.name (by decide));have h8:=ab (tO (n:=n+1505) x.v.k);simp only[Va.c,v0,List.map_nil]at h1 h2 h3 h6;simp only[binO,List.map_cons,List.map_nil]at h7;simp only[rT,uc,Gy,IH,MI,Lm,MJ,MK,h1,h2,h3,h4,h5,h6,h7,h8,ba,aD,aC,bw,dC,TB,gA,v0,binO]
def hK (op:Int)(hs:List Int):List Int→Nat→Int→Int
 |[],_,m=>m
 |k::r,j,m=>hK op hs r (j+1) (bif(av op 11||av op 12)&&av (j:Int) 0 then(bif aX m (ag .i64 (hs.getD k.toNat 0+1))then ag .i64 (hs.getD k.toNat 0+1)else m)else bif aX m (hs.getD k.toNat 0)then hs.getD k.toNat 0 else m)
def OE (op m:Int):Int:=bif av op 4 then ag .i64 (m+2)else bif av op 5||(av op 6||(av op 7||(av op 15||(av op 16||(av op 17||av op 18)))))then ag .i64 (m+1)else m
def hN:List No→Nat→List Int→List Int
 |[],_,hs=>hs
 |x::r,i,hs=>hN r (i+1) (hs.set i (OE x.op (hK x.op hs x.kids 0 0)))
def xW (ns:List No):Int:=(hN ns 0 (List.replicate ns.length 0)).getD (ns.length - 1) 0
def fp (b:Nat)(l:List Int):Prop:=∀k∈l,0≤k∧k<(b:Int)
theorem np (hs:List Int){i:Nat}(h:i<hs.length):(hs.map iE)[i]?=some (iE (hs.getD i 0)):=by
 simp[lγ h,lρ]
theorem agu {m:Nat}(k0:kU→R)(a b:LD)(N:Nat)(i5 i4 i6:Int)(x:No)(hs:List Int)(hN:N=hs.length)(hk:fp N x.kids)(hl:x.kids.length<1501):∀(e q j:Nat) (mx:Int),j+e=x.kids.length→e<q→
  L_sheight_2 (br lay0.tab m) m k0 q (a,N,i5,mx,b,i4,i6,x.kids.map iE,(x.kids.length:Int),(j:Int),hs.map iE,x.r)=k0 (a,N,i5,hK x.op hs (x.kids.drop j) j mx,b,i4,i6,x.kids.map iE,(x.kids.length:Int),(x.kids.length:Int),hs.map iE,x.r)
 |0,q+1,j,mx,h,_=>by
  obtain rfl:j=x.kids.length:=by omega
  rw[xa];simp only[lj,bX,aR,List.drop_length,hK]
 |e+1,q+1,j,mx,h,hq=>by
  have hj:j<x.kids.length:=by omega
  obtain⟨g1,g2⟩:=hk x.kids[j] (lι _);have g3:x.kids[j].toNat<hs.length:=by omega
  rw[xa,lξ hj];simp only[lj,cG (show((j:Int)<(x.kids.length:Int)) by omega),aO,aE,aM,aI hj,bf,dI,bE,g1,decide_true,cG g2,Nat.zero_add,np hs g3,uc,wS (show j<bT by unfold bT;omega),hK];cases av x.op 11<;>cases av x.op 12<;>cases av (j:Int) 0<;>exact agu k0 a b N i5 i4 i6 x hs hN hk hl e q (j+1) _ (by omega) (by omega)
theorem ah9 {m:Nat}(k0:kT→R)(ns:List No)(hm:1501<m)(hk:∀x∈ns,fp ns.length x.kids)(hkl:∀x∈ns,x.kids.length<1501)(hl:ns.length<1501):∀(e q i:Nat) (hs:List Int),i+e=ns.length→e<q→hs.length=ns.length→
  L_sheight_1 (br lay0.tab m) m k0 q (ns.map No.e,ns.length,ns.map No.e,(ns.length:Int),(i:Int),hs.map iE)=k0 (ns.map No.e,ns.length,ns.map No.e,(ns.length:Int),(ns.length:Int),(hN (ns.drop i) i hs).map iE)
 |0,q+1,i,hs,h,_,hhs=>by
  obtain rfl:i=ns.length:=by omega
  rw[w9];simp only[li,bX,aR,List.drop_length,hN]
 |e+1,q+1,i,hs,h,hq,hhs=>by
  have hi:i<ns.length:=by omega
  have hx:ns[i]∈ns:=lι _;rw[w9,lξ hi];simp only[li,cG (show((i:Int)<(ns.length:Int)) by omega),aO,aE,aM,aI hi,bf,vZ,qb,lβ];have g:=agu (m:=m) (fun(l25,n26,i27,i28,l29,i30,i31,l32,i33,i34,l35,u36)=>L_sheight_1 (br lay0.tab m) m k0 q (l25,n26,l29,i30,ag .i64 (i31+1),List.set l35 (0+Int.toNat i27) (iE (OE u36.Op i28)))) (ns.map No.e) (ns.map No.e) ns.length i ns.length i ns[i] hs hhs.symm (hk _ hx) (hkl _ hx) ns[i].kids.length m 0 0 (by omega) (by have:=hkl _ hx;omega)
  simp only[show((0:Nat):Int)=0 from rfl,List.drop_zero,uc,Int.toNat_natCast,Nat.zero_add,wS (show i<bT by unfold bT;omega)]at g;refine Eq.trans (Eq.trans ?_ g) ?_
  ·have g2:=fun k0'=>agu (m:=m) k0' (ns.map No.e) (ns.map No.e) ns.length i ns.length i ns[i] hs hhs.symm (hk _ hx) (hkl _ hx) ns[i].kids.length m 0 0 (by omega) (by have:=hkl _ hx;omega)
   simp only[show((0:Nat):Int)=0 from rfl,List.drop_zero]at g2;rw[g2,g2];simp only[uc,bE,show(0:Int)≤(i:Int) by omega,decide_true,aO,cG (show((i:Int)<(ns.length:Int)) by omega),Nat.zero_add,Int.toNat_natCast,np hs (show i<hs.length by omega),bf,show(cells (iE (hs.getD i 0))).length=1 from rfl,show Nat.beq 1 1=true from rfl,show ∀v,cX (iE (hs.getD i 0)) (cells (Da.int .i64 v))=some (iE v)from fun _=>rfl,wS (show i<bT by unfold bT;omega)];unfold OE;cases av ns[i].op 4<;>cases av ns[i].op 5<;>cases av ns[i].op 6<;>cases av ns[i].op 7<;>cases av ns[i].op 15<;>cases av ns[i].op 16<;>cases av ns[i].op 17<;>cases av ns[i].op 18<;>rfl
  ·simp only[hN];rw[←List.map_set];exact ah9 k0 ns hm hk hkl hl e q (i+1) _ (by omega) (by omega) (by simp[hhs])
theorem aap:∀(l:List No) (i:Nat) (hs:List Int),(hN l i hs).length=hs.length
 |[],_,_=>rfl
 |x::r,i,hs=>by simp only[hN];rw[aap];simp
theorem U7 {n:Nat}(ns:List No)(h0:0<ns.length)(hk:∀x∈ns,fp ns.length x.kids)(hkl:∀x∈ns,x.kids.length<1501)(hl:ns.length<1501):evFn lay0.tab (n+1503) 179 [.p (.slice 8 (ns.map No.e))] []=some (.p (.int .i64 (xW ns)),[]):=by
 apply VA (n+1502) (ns.map No.e);unfold zM xW;have hw:ag .i64 ((ns.length:Int) - 1)=((ns.length - 1:Nat):Int):=by rw[ig (by omega) (by omega)];omega
 have hr:List.replicate ns.length (Da.int .i64 0)=(List.replicate ns.length (0:Int)).map iE:=by simp[iE]
 have g:=fun k0=>ah9 (m:=n+1502) k0 ns (by omega) hk hkl hl ns.length (n+1502) 0 (List.replicate ns.length 0) (by omega) (by omega) (by simp)
 simp only[show((0:Nat):Int)=0 from rfl,List.drop_zero]at g;simp only[lβ,Int.toNat_natCast,hr,g,bE,show(0:Int)≤(ns.length:Int) by omega,Int.le_refl,decide_true,Bool.true_and,show Nat.ble (ns.length*8) 281474976710656=true by rw[Nat.ble_eq];omega,show(ns.length:Int)≤9223372036854775807 by omega,aO,aW,show ¬((ns.length:Int)=0) by omega,decide_false,aR,hw,show(0:Int)≤((ns.length - 1:Nat):Int) by omega,cG (show((ns.length - 1:Nat):Int)<(ns.length:Int) by omega),Nat.zero_add];rw[np _ (by rw[aap];simp;omega)];rfl
end
end Go.Ab
end
