import Derived.Test.YtlfhmmbmjkadiaaGreatDoorDcA
import Derived.Test.YtlfhmmbmjkadiaaGreatDoorAl
import Derived.Test.YtlfhmmbmjkadiaaGreatDoorAm5
import Derived.KernelRfl
import Derived.Test.YtlfhmmbmjkadiaaGreatDoorOg0
import Derived.Test.YtlfhmmbmjkadiaaGreatDoorOg1
set_option linter.all false
section
namespace Go.Ab
open Go
noncomputable section
structure Va where
 k:Int
 n:Int
 s:List Nat
 I:List Int
 L:List (List Nat)
structure No where
 op:Int
 name:List Nat
 v:Va
 kids:List Int
structure Pa where
 name:List Nat
 kind:Int
structure Fe where
 name:List Nat
 kind:Int
 init:Va
structure Me where
 name:List Nat
 params:List Pa
 result:Int
 nodes:List No
structure Ac where
 name:List Nat
 fields:List Fe
 methods:List Me
def iE (i:Int):Da:= .int .i64 i
def No.r (n:No):aF:=⟨n.op,n.name,n.v.k,n.v.n,n.v.s,n.v.I.map iE,n.v.L.map .str,n.kids.map iE⟩
def No.e (n:No):Da:=n.r.e
def Pa.r (p:Pa):cQ:=⟨p.name,p.kind⟩
def Pa.e (p:Pa):Da:=p.r.e
def Fe.r (f:Fe):bI:=⟨f.name,f.kind,f.init.k,f.init.n,f.init.s,f.init.I.map iE,f.init.L.map .str⟩
def Fe.e (f:Fe):Da:=f.r.e
def Me.r (m:Me):ah:=⟨m.name,m.params.map Pa.e,m.result,m.nodes.map No.e⟩
def Me.e (m:Me):Da:=m.r.e
def Ac.r (a:Ac):ae:=⟨a.name,a.fields.map Fe.e,a.methods.map Me.e⟩
def Ac.e (a:Ac):Da:=a.r.e
theorem u0 (n:No)(K:aF→R):aN n.e K=K n.r:=rfl
theorem dPa (n:Pa)(K:cQ→R):bT n.e K=K n.r:=rfl
theorem dFe (n:Fe)(K:bI→R):bg n.e K=K n.r:=rfl
theorem Yy (n:Me)(K:ah→R):bx n.e K=K n.r:=rfl
theorem QE (n:Ac)(K:ae→R):aR n.e K=K n.r:=rfl
theorem dI (i:Int)(K:Int→R):aU .i64 (iE i) K=K i:=rfl
def bZ:Nat:=1000000000000
theorem wS {i:Nat}(h:i<bZ):ag .i64 ((i:Int)+1)=((i+1:Nat):Int):=by
 unfold bZ at h;rw[iD (by omega) (by omega)];omega
theorem cK {a b:Int}(h:a<b):aW a b=true:=by rw[mT];simpa using h
theorem vp {a b:Int}(h:¬a<b):aW a b=false:=by rw[mT];simpa using h
theorem cb (a:Int):aW a a=false:=vp (Int.lt_irrefl a)
structure Vr where
 kind:Int
 slot:Int
 field:Bool
def Vr.r (v:Vr):bv:=⟨v.kind,v.slot,v.field⟩
def Vr.e (v:Vr):Da:=v.r.e
theorem dVr (n:Vr)(K:bv→R):aY n.e K=K n.r:=rfl
def cY {β:Type}(l:List (List Nat×β))(s:List Nat):Option β:=(l.find? fun p=>decide (s=p.1)).map (·.2)
def ne {β:Type}(l:List (List Nat×β))(s:List Nat)(v:β):List (List Nat×β):=match l.findIdx? (fun p=>decide (s=p.1))with|some j=>l.set j (s,v)|none=>l++[(s,v)]
def rY {β:Type}(l:List (Int×β))(s:Int):Option β:=(l.find? fun p=>decide (s=p.1)).map (·.2)
def so {β:Type}(l:List (Int×β))(s:Int)(v:β):List (Int×β):=match l.findIdx? (fun p=>decide (s=p.1))with|some j=>l.set j (s,v)|none=>l++[(s,v)]
theorem vf {α:Type}(kt:TypeDesc)(k:Da)(f:α→Da)(p:α→Bool)(h:∀x,mR kt k (f x)=some (p x)):∀(l:List α) (i:Nat),bV kt k (l.map f) i=some ((l.findIdx? p).map (i+ ·))
 |[],i=>rfl
 |x::r,i=>by
  simp only[List.map_cons,bV,h,mσ];cases p x
  ·simp only[vf kt k f p h r (i+1),Bool.false_eq_true,if_false,Option.map_map];congr 1;cases r.findIdx? p with
   |none=>rfl
   |some j=>simp only[Option.map_some,Function.comp];congr 1;omega
  ·rfl
theorem Sx {β:Type}(l:List (List Nat×β))(s:List Nat):bV .string (.str s) (l.map fun p=> .str p.1) 0=some (l.findIdx? fun p=>decide (s=p.1)):=by
 rw[vf .string (.str s) (fun p:List Nat×β=> .str p.1) (fun p=>decide (s=p.1)) (fun x=>by simp only[mR,dn])];cases l.findIdx? (fun p=>decide (s=p.1))<;>simp
theorem ab4 {β:Type}(l:List (Int×β))(s:Int):bV (.int .i64) (.int .i64 s) (l.map fun p=> .int .i64 p.1) 0=some (l.findIdx? fun p=>decide (s=p.1)):=by
 rw[vf (.int .i64) (.int .i64 s) (fun p:Int×β=> .int .i64 p.1) (fun p=>decide (s=p.1)) (fun x=>by simp only[mR,if_true,aT])];cases l.findIdx? (fun p=>decide (s=p.1))<;>simp
theorem mI {α:Type}(p:α→Bool):∀(l:List α),(match l.findIdx? p with|some j=>l[j]?|none=>none)=l.find? p
 |[]=>rfl
 |x::r=>by
  simp only[mσ,List.find?_cons];cases p x
  ·simp only[Bool.false_eq_true,if_false];rw[←mI p r];cases r.findIdx? p<;>rfl
  ·rfl
def mO {β:Type}(o:Option β)(E:R)(K:β→R):R:=match o with|none=>E|some v=>K v
theorem ZH {β:Type}(E:R)(K:β→R):mO none E K=E:=rfl
theorem VC {β:Type}(v:β)(E:R)(K:β→R):mO (some v) E K=K v:=rfl
theorem lkS {β:Type}(l:List (List Nat×β))(s:List Nat)(e:β→Da)(E:R)(K:Da→R):(cL (bV .string (.str s) (l.map fun p=> .str p.1) 0) fun y=>iG y E fun n=>cL (l.map fun p=>e p.2)[n]? K)=mO (cY l s) E fun v=>K (e v):=by
 rw[Sx];unfold cY;rw[←mI];cases h:l.findIdx? (fun p=>decide (s=p.1))with
 |none=>rfl
 |some j=>
  have hj:j<l.length:=(lυ.1 h).1;simp only[bf,Rq,lψ,lγ hj,Option.map_some,VC]
theorem Pc {α β:Type}{l:List (α×β)}{j:Nat}{s:α}{v:β}{hj:j<l.length}(h:l[j].1=s):(l.set j (s,v)).map (·.1)=l.map (·.1):=by
 apply List.ext_getElem?;intro k;simp only[lψ,List.getElem?_set];by_cases hk:j=k
 ·subst hk;simp[hj,←h]
 ·simp[hk]
theorem upS {β:Type}(l:List (List Nat×β))(s:List Nat)(e:β→Da)(v:β)(G:List Da→List Da→R):(cL (bV .string (.str s) (l.map fun p=> .str p.1) 0) fun y=>iG y (G ((l.map fun p=> .str p.1)++[.str s]) ((l.map fun p=>e p.2)++[e v])) fun n=>G (l.map fun p=> .str p.1) ((l.map fun p=>e p.2).set n (e v)))=G ((ne l s v).map fun p=> .str p.1) ((ne l s v).map fun p=>e p.2):=by
 rw[Sx];unfold ne;cases h:l.findIdx? (fun p=>decide (s=p.1))with
 |none=>simp only[bf,Z1,List.map_append,List.map_cons,List.map_nil]
 |some j=>
  obtain⟨hj,hp,_⟩:=lυ.1 h;have hk:(l.set j (s,v)).map (·.1)=l.map (·.1):=Pc (hj:=hj) (by simpa using(of_decide_eq_true hp).symm);simp only[bf,Rq];congr 1
  ·have:=congrArg (List.map Da.str) hk;simp only[List.map_map]at this;exact this.symm
  ·rw[List.map_set]
theorem upI {β:Type}(l:List (Int×β))(s:Int)(e:β→Da)(v:β)(G:List Da→List Da→R):(cL (bV (.int .i64) (.int .i64 s) (l.map fun p=> .int .i64 p.1) 0) fun y=>iG y (G ((l.map fun p=> .int .i64 p.1)++[.int .i64 s]) ((l.map fun p=>e p.2)++[e v])) fun n=>G (l.map fun p=> .int .i64 p.1) ((l.map fun p=>e p.2).set n (e v)))=G ((so l s v).map fun p=> .int .i64 p.1) ((so l s v).map fun p=>e p.2):=by
 rw[ab4];unfold so;cases h:l.findIdx? (fun p=>decide (s=p.1))with
 |none=>simp only[bf,Z1,List.map_append,List.map_cons,List.map_nil]
 |some j=>
  obtain⟨hj,hp,_⟩:=lυ.1 h;have hk:(l.set j (s,v)).map (·.1)=l.map (·.1):=Pc (hj:=hj) (by simpa using(of_decide_eq_true hp).symm);simp only[bf,Rq];congr 1
  ·have:=congrArg (List.map (Da.int .i64)) hk;simp only[List.map_map]at this;exact this.symm
  ·rw[List.map_set]
structure CS where
 pr:List Ac
 fs:List (List Nat×Vr)
 ns:List No
 re:Int
 nd:Int
 er:Int
 sc:List (List Nat×Vr)
 le:List (List Nat×Bool)
 lo:List Pa
 ki:List (Int×Int)
 va:List (Int×Vr)
def CS.k (c:CS):et:=⟨c.pr.map Ac.e,c.fs.map fun p=> .str p.1,c.fs.map fun p=>p.2.e,c.ns.map No.e,c.re,c.lo.length,c.nd,c.er,c.sc.map fun p=> .str p.1,c.sc.map fun p=>p.2.e,c.le.map fun p=> .str p.1,c.le.map fun p=> .bool p.2,c.lo.map Pa.e,c.ki.map fun p=> .int .i64 p.1,c.ki.map fun p=> .int .i64 p.2,c.va.map fun p=> .int .i64 p.1,c.va.map fun p=>p.2.e⟩
theorem oA (c:CS)(K:et→R):aL c.k.hp K=K c.k:=rfl
def m8 (o:Option Nat):Int:=match o with|some j=>j|none=> -1
end
end Go.Ab
end
section
namespace Go.Ab
open Go
set_option maxRecDepth 100000
def abW:List Nat→List Nat→Bool
 |[],[]=>true
 |a::r,b::s=>Nat.beq a b&&abW r s
 |_,_=>false
theorem Sv:∀{a b:List Nat},abW a b=true→a=b
 |[],[],_=>rfl
 |[],_::_,h=>by cases h
 |_::_,[],h=>by cases h
 |a::r,b::s,h=>by
  simp only[abW,lδ]at h;rw[lζ h.1,Sv h.2]
def zF (P:Program)(k:IntKind)(t:TypeId):Bool:=match P.underlying t with|some (.int k')=>decide (k'=k)|_=>false
def vj (P:Program)(t:TypeId):Bool:=match P.underlying t with|some .string=>true|_=>false
def w6 (P:Program)(t:TypeId):Bool:=match P.underlying t with|some .bool=>true|_=>false
def w7 (P:Program)(t e z:Nat):Bool:=match P.underlying t with|some (.slice e')=>Nat.beq e' e&&Nat.beq (P.cellsOf e) z|_=>false
def sd (P:Program)(t:Nat)(ts:List Nat):Bool:=match P.underlying t with|some (.struct fs)=>abW (fs.toList.map (·.type)) ts|_=>false
def Ji (C:TypeId→List Da→Prop):List TypeId→List Da→Prop
 |[],xs=>xs=[]
 |t::r,xs=>∃ys zs,xs=ys++zs∧C t ys∧Ji C r zs
theorem D2 {C:TypeId→List Da→Prop}:∀{fs:List Field} {xs:List Da},wR C fs xs→Ji C (fs.map (·.type)) xs
 |[],_,h=>h
 |f::r,xs,⟨ys,zs,h1,h2,h3⟩=>⟨ys,zs,h1,h2,D2 h3⟩
section
variable {P:Program} {B:TypeId→Nat} {n t:Nat} {xs:List Da} {x:Da}
theorem sH {k:IntKind}(h:zF P k t=true)(hc:cf P B (n+1) t xs):∃i,xs=[.int k i]∧(Lit.int k i).wf=true:=by
 unfold zF at h;simp only[cf]at hc;split at h
 ·rename_i hu;rw[hu]at hc;have:=of_decide_eq_true h;subst this;exact hc
 ·cases h
theorem agx (h:vj P t=true)(hc:cf P B (n+1) t xs):∃s,xs=[.str s]:=by
 unfold vj at h;simp only[cf]at hc;split at h
 ·rename_i hu;rw[hu]at hc;obtain⟨s,rfl,_⟩:=hc;exact⟨s,rfl⟩
 ·cases h
theorem qw (h:vj P t=true)(hc:cf P B (n+1) t xs):∃s,xs=[.str s]∧s.length<9223372036854775808:=by
 unfold vj at h;simp only[cf]at hc;split at h
 ·rename_i hu;rw[hu]at hc;obtain⟨s,rfl,hl,_⟩:=hc;have:maxLen=9223372036854775807:=rfl;exact⟨s,rfl,by omega⟩
 ·cases h
theorem ac3 (h:w6 P t=true)(hc:cf P B (n+1) t xs):∃s,xs=[.bool s]:=by
 unfold w6 at h;simp only[cf]at hc;split at h
 ·rename_i hu;rw[hu]at hc;exact hc
 ·cases h
theorem Fl {e z:Nat}(h:w7 P t e z=true)(hc:cf P B (n+1) t xs):∃es,xs=[.slice z es]∧es.length≤B e∧∀x∈es,jJ P (cf P B n) e x:=by
 unfold w7 at h;simp only[cf]at hc;split at h
 ·rename_i hu;rw[hu]at hc;rw[lδ]at h;obtain⟨es,rfl,_,h2,h3⟩:=hc;have h4:=lζ h.1;subst h4;rw[lζ h.2];exact⟨es,rfl,h2,h3⟩
 ·cases h
theorem Fm {ts:List Nat}(h:sd P t ts=true)(hc:cf P B (n+1) t xs):Ji (cf P B n) ts xs:=by
 unfold sd at h;simp only[cf]at hc;split at h
 ·rename_i hu;rw[hu]at hc;rw[←Sv h];exact D2 hc
 ·cases h
theorem zn {ts:List Nat}{C:TypeId→List Da→Prop}(h:sd P t ts=true)(hc:jJ P C t x):∃cs,x= .agg cs∧C t cs:=by
 unfold sd at h;unfold jJ at hc;split at h
 ·rename_i hu;have:jZ P t=true:=by unfold jZ;rw[hu]
  rw[this]at hc;exact hc
 ·cases h
theorem Sj {k:IntKind}{C:TypeId→List Da→Prop}(h:zF P k t=true)(hc:jJ P C t x):C t [x]:=by
 unfold zF at h;unfold jJ at hc;split at h
 ·rename_i hu;have:jZ P t=false:=by unfold jZ;rw[hu]
  rw[this]at hc;exact hc
 ·cases h
theorem Sk {C:TypeId→List Da→Prop}(h:vj P t=true)(hc:jJ P C t x):C t [x]:=by
 unfold vj at h;unfold jJ at hc;split at h
 ·rename_i hu;have:jZ P t=false:=by unfold jZ;rw[hu]
  rw[this]at hc;exact hc
 ·cases h
end
theorem k7 {α:Type}{f:α→Da}{Q:α→Prop}:∀{es:List Da},(∀x∈es,∃a,x=f a∧Q a)→∃l:List α,es=l.map f∧∀a∈l,Q a
 |[],_=>⟨[],rfl,fun _ h=>by cases h⟩
 |x::es,h=>by
  obtain⟨a,rfl,ha⟩:=h x (lτ ..);obtain⟨l,rfl,hl⟩:=k7 (es:=es) fun y hy=>h y (lχ _ hy)
  refine⟨a::l,rfl,fun b hb=>?_⟩
  rcases mγ.1 hb with rfl|hb
  ·exact ha
  ·exact hl b hb
noncomputable section
abbrev Bn:TypeId→Nat:=fun _=>1048576
abbrev CT (n t:Nat)(xs:List Da):Prop:=cf prog0 Bn n t xs
abbrev DT (n t:Nat)(x:Da):Prop:=jJ prog0 (cf prog0 Bn n) t x
theorem isI:zF prog0 .i64 3=true:=by kernel_rfl
theorem isS:vj prog0 9=true:=by kernel_rfl
theorem aif:w7 prog0 51 3 1=true:=by kernel_rfl
theorem aih:w7 prog0 31 9 1=true:=by kernel_rfl
theorem ag5:sd prog0 67 [3,3,9,51,31]=true:=by kernel_rfl
theorem Zn:sd prog0 69 [3,9,67,51]=true:=by kernel_rfl
theorem adM:sd prog0 76 [9,3]=true:=by kernel_rfl
theorem adK:sd prog0 74 [9,3,67]=true:=by kernel_rfl
theorem ach:w7 prog0 70 69 8=true:=by kernel_rfl
theorem aft:w7 prog0 63 76 2=true:=by kernel_rfl
theorem afr:w7 prog0 32 74 7=true:=by kernel_rfl
theorem adL:sd prog0 72 [9,63,3,70]=true:=by kernel_rfl
theorem afs:w7 prog0 42 72 4=true:=by kernel_rfl
theorem ag0:sd prog0 44 [9,32,42]=true:=by kernel_rfl
theorem ag1:w7 prog0 22 44 3=true:=by kernel_rfl
theorem adN:sd prog0 24 [22]=true:=by kernel_rfl
theorem X0 {n:Nat}{xs:List Da}(h:CT (n+2) 51 xs):∃l:List Int,xs=[.slice 1 (l.map iE)]∧l.length≤1048576:=by
 obtain⟨es,rfl,h1,h2⟩:=Fl aif h;obtain⟨l,rfl,_⟩:=k7 (f:=iE) (Q:=fun _=>True) (es:=es) fun x hx=>by
  obtain⟨i,e,_⟩:=sH isI (Sj isI (h2 x hx));simp only[lκ,and_true]at e;exact⟨i,e,trivial⟩
 exact⟨l,rfl,by simpa using h1⟩
theorem aez {n:Nat}{xs:List Da}(h:CT (n+2) 31 xs):∃l:List (List Nat),xs=[.slice 1 (l.map .str)]∧l.length≤1048576:=by
 obtain⟨es,rfl,h1,h2⟩:=Fl aih h;obtain⟨l,rfl,_⟩:=k7 (f:=Da.str) (Q:=fun _=>True) (es:=es) fun x hx=>by
  obtain⟨i,e⟩:=agx isS (Sk isS (h2 x hx));simp only[lκ,and_true]at e;exact⟨i,e,trivial⟩
 exact⟨l,rfl,by simpa using h1⟩
def Va.cs (v:Va):List Da:=[.int .i64 v.k,.int .i64 v.n,.str v.s,.slice 1 (v.I.map iE),.slice 1 (v.L.map .str)]
end
end Go.Ab
end
section
namespace Go.Ab
open Go
noncomputable section
def iy (c:CS)(i e:Int):CS:=if c.er=0 then {c with nd:=i,er:=e}else c
def cj (c:CS)(i:Int)(b:Bool):CS:=if b=true then c else iy c i 15
def oZ (c:CS)(s:List Nat):Option Vr:=match cY c.fs s with
 |some v=>some v
 |none=>cY c.sc s
def lQ (c:CS)(i:Int)(s:List Nat):Vr×CS:=match oZ c s with
 |some v=>(v,{c with va:=so c.va i v})
 |none=>(⟨0,0,false⟩,iy c i 14)
def mF (c:CS)(s:List Nat)(k:Int):Option CS:=if c.lo.length<1000000000 then some {c with sc:=ne c.sc s ⟨k,c.lo.length,false⟩,le:=ne c.le s true,lo:=c.lo++[⟨s,k⟩]}else none
def zp (c:CS)(s:List Nat):Bool:=match cY c.fs s with
 |some _=>true
 |none=>match cY c.le s with
  |some b=>b
  |none=>false
def qp (c:CS)(i:Int)(n:No):CS:=if zp c n.name=true then iy c i 7 else if c.lo.length=8 then iy c i 5 else c
def xi (c:CS)(i:Int)(n:No)(k:Int):Option CS:=match mF (cj (qp c i n) i (decide (k=n.v.k))) n.name n.v.k with
 |some c=>some (lQ c i n.name).2
 |none=>none
theorem pG {n:Nat}(c:CS)(i e:Int):evFn lay0.tab (n+1) 230 [.box 0 0,.p (.int .i64 i),.p (.int .i64 e)] c.k.hp=some (.tup [],(iy c i e).k.hp):=by
 apply aaF n c.k i e;unfold Ic iy;rw[aT,eK];show(if c.er=0 then _ else _)=_;by_cases h:c.er=0
 ·rw[if_pos h,if_pos h];rfl
 ·rw[if_neg h,if_neg h]
theorem ng {n:Nat}(c:CS)(i:Int)(b:Bool):evFn lay0.tab (n+2) 184 [.box 0 0,.p (.int .i64 i),.p (.bool b)] c.k.hp=some (.tup [],(cj c i b).k.hp):=by
 apply aaI (n+1) c.k i b;unfold Ig cj;cases b
 ·simp only[aQ,aa (pG (n:=n) c i 15),bQ,aC,oA];rfl
 ·rfl
theorem aaw {n:Nat}(c:CS)(s:List Nat):evFn lay0.tab (n+1) 268 [.box 0 0,.p (.str s)] c.k.hp=some (.tup [.p ((oZ c s).getD ⟨0,0,false⟩).e,.p (.bool (oZ c s).isSome)],c.k.hp):=by
 apply aaG n c.k s;unfold Ie oZ;simp only[CS.k,lkS,dVr];cases cY c.fs s with
 |some v=>rfl
 |none=>cases cY c.sc s<;>rfl
theorem PB {n:Nat}(c:CS)(i:Int)(s:List Nat):evFn lay0.tab (n+2) 233 [.box 0 0,.p (.int .i64 i),.p (.str s)] c.k.hp=some (.p (lQ c i s).1.e,(lQ c i s).2.k.hp):=by
 apply aec (n+1) c.k i s;unfold PL lQ;simp only[aa (aaw (n:=n) c s),bQ,hH,aC,ba,dVr,aD,bG];cases oZ c s with
 |none=>simp only[Option.isSome_none,aQ,aa (pG (n:=n) c i 14),bQ,aC,oA];rfl
 |some v=>
  simp only[Option.isSome_some,aO,Option.getD_some];exact upI c.va i Vr.e v fun ks vs=>some (.p v.e,et.hp {c.k with vk:=ks,vv:=vs})
theorem qh {n b:Nat}(h:n<1000000001)(hb:b≤1000):dW n b=true:=by
 unfold dW;rw[lδ,Nat.ble_eq,Nat.ble_eq];constructor
 ·calc (2*n+192)*b≤(2*1000000001+192)*1000:=Nat.mul_le_mul (by omega) hb
   _≤281474976710656:=by decide
 ·omega
theorem aix {β γ:Type}(l:List (List Nat×β))(m:List (List Nat×γ))(s:List Nat)(e:β→Da)(v:β)(e':γ→Da)(w:γ)(G:List Da→List Da→List Da→List Da→R):
  (cL (bV .string (.str s) (l.map fun p=> .str p.1) 0) fun y=>iG y
   (cL (bV .string (.str s) (m.map fun p=> .str p.1) 0) fun y=>iG y
    (G ((l.map fun p=> .str p.1)++[.str s]) ((l.map fun p=>e p.2)++[e v]) ((m.map fun p=> .str p.1)++[.str s]) ((m.map fun p=>e' p.2)++[e' w])) fun n=>
    G ((l.map fun p=> .str p.1)++[.str s]) ((l.map fun p=>e p.2)++[e v]) (m.map fun p=> .str p.1) ((m.map fun p=>e' p.2).set n (e' w))) fun n=>
   (cL (bV .string (.str s) (m.map fun p=> .str p.1) 0) fun y=>iG y
    (G (l.map fun p=> .str p.1) ((l.map fun p=>e p.2).set n (e v)) ((m.map fun p=> .str p.1)++[.str s]) ((m.map fun p=>e' p.2)++[e' w])) fun n'=>
    G (l.map fun p=> .str p.1) ((l.map fun p=>e p.2).set n (e v)) (m.map fun p=> .str p.1) ((m.map fun p=>e' p.2).set n' (e' w))))=
  G ((ne l s v).map fun p=> .str p.1) ((ne l s v).map fun p=>e p.2) ((ne m s w).map fun p=> .str p.1) ((ne m s w).map fun p=>e' p.2):=by
 have h1:=fun a b=>upS m s e' w (G a b)
 simp only[h1];exact upS l s e v fun a b=>G a b _ _
theorem Cz {n:Nat}(c c':CS)(s:List Nat)(k:Int)(h:mF c s k=some c'):evFn lay0.tab (n+1) 127 [.box 0 0,.p (.str s),.p (.int .i64 k)] c.k.hp=some (.tup [],c'.k.hp):=by
 apply P8 n c.k s k;unfold mF at h;by_cases hl:c.lo.length<1000000000
 ·rw[if_pos hl]at h;simp only[lα]at h;subst h;unfold uD;have hb:dW (c.k.lo.length+List.length [Da.agg [Da.str s,Da.int .i64 k]]) 24=true:=qh (by simp[CS.k];omega) (by decide);have hn:Nat.beq c.k.ln c.k.lo.length=true:=by simp[CS.k]
  simp only[hb,hn,aO];refine(aix c.sc c.le s Vr.e ⟨k,c.lo.length,false⟩ Da.bool true fun a b d e=>some (.tup [],et.hp {c.k with ln:=(c.k.lo++[Da.agg [Da.str s,Da.int .i64 k]]).length,sk:=a,sv:=b,lk:=d,lv:=e,lo:=c.k.lo++[Da.agg [Da.str s,Da.int .i64 k]]})).trans ?_;simp only[CS.k,mξ,lβ,List.length_cons,List.length_nil,List.map_append,List.map_cons,List.map_nil];rfl
 ·rw[if_neg hl]at h;cases h
theorem ad7 {n:Nat}(c c':CS)(i:Int)(x:No)(k:Int)(h:xi c i x k=some c'):evFn lay0.tab (n+3) 236 [.box 0 0,.p (.int .i64 i),.p x.e,.p (.int .i64 k)] c.k.hp=some (.tup [],c'.k.hp):=by
 apply aeb (n+2) c.k i x.r k;unfold xi at h;split at h
 ·rename_i c3 h3;simp only[lα]at h;subst h;have tail:(bq lay0.tab (n+2) 184 [.box 0 0,.p (.int .i64 i),.p (.bool (aw k x.r.Value_Kind))] (qp c i x).k.hp fun d o=>bb d fun r=>av r<|aL o fun u=>bq lay0.tab (n+2) 127 [.box 0 0,.p (.str x.r.Name),.p (.int .i64 x.r.Value_Kind)] u.hp fun d o=>bb d fun r=>av r<|aL o fun u=>bq lay0.tab (n+2) 233 [.box 0 0,.p (.int .i64 i),.p (.str x.r.Name)] u.hp fun d o=>dP d fun y=>aY y fun v=>aL o fun u=>some (.tup [],u.hp))=some (.tup [],(lQ c3 i x.name).2.k.hp):=by
   have e1:aw k x.r.Value_Kind=decide (k=x.v.k):=aT _ _;rw[e1];simp only[aa (ng (n:=n) (qp c i x) i _),bQ,aC,oA];have e2:evFn lay0.tab (n+2) 127 [.box 0 0,.p (.str x.r.Name),.p (.int .i64 x.r.Value_Kind)] (cj (qp c i x) i (decide (k=x.v.k))).k.hp=some (.tup [],c3.k.hp):=Cz _ _ _ _ h3;simp only[aa e2,bQ,aC,oA];have e3:evFn lay0.tab (n+2) 233 [.box 0 0,.p (.int .i64 i),.p (.str x.r.Name)] c3.k.hp=some (.p (lQ c3 i x.name).1.e,(lQ c3 i x.name).2.k.hp):=PB (n:=n) _ _ _;simp only[aa e3,ba,dVr,oA]
  have f7:=pG (n:=n+1) c i 7;have f5:=pG (n:=n+1) c i 5;unfold qp at tail;have e0:aw (↑c.k.ln) 8=decide (c.lo.length=8):=by
   rw[aT];show decide ((c.lo.length:Int)=8)=_;rw[mδ,lη,lη];omega
  unfold PK;unfold zp at tail;rw[e0];have hfs:∀(E:R) (K:Da→R),(cL (bV TypeDesc.string (Da.str x.r.Name) c.k.fk 0) fun y=>iG y E fun n=>cL c.k.fv[n]? K)=mO (cY c.fs x.name) E fun v=>K v.e:=fun E K=>lkS c.fs x.name Vr.e E K
  have hle:∀(E:R) (K:Da→R),(cL (bV TypeDesc.string (Da.str x.r.Name) c.k.lk 0) fun y=>iG y E fun n=>cL c.k.lv[n]? K)=mO (cY c.le x.name) E fun v=>K (.bool v):=fun E K=>lkS c.le x.name Da.bool E K
  rw[hle,hfs];cases hg:cY c.fs x.name with
  |some v=>
   simp only[hg,if_true]at tail;simp only[VC,dVr,aa f7,bQ,aC,oA];exact tail
  |none=>
   simp only[hg]at tail;simp only[ZH];cases hh:cY c.le x.name with
   |some b=>
    simp only[hh]at tail;simp only[VC,aD];cases b
    ·simp only[Bool.false_eq_true,if_false]at tail;simp only[aQ,eK];by_cases h8:c.lo.length=8
     ·rw[if_pos h8]at tail ⊢
      simp only[aa f5,bQ,aC,oA];exact tail
     ·rw[if_neg h8]at tail ⊢
      exact tail
    ·simp only[if_true]at tail;simp only[aO,aa f7,bQ,aC,oA];exact tail
   |none=>
    simp only[hh,Bool.false_eq_true,if_false]at tail;simp only[ZH,eK];by_cases h8:c.lo.length=8
    ·rw[if_pos h8]at tail ⊢
     simp only[aa f5,bQ,aC,oA];exact tail
    ·rw[if_neg h8]at tail ⊢
     exact tail
 ·cases h
end
end Go.Ab
end
section
namespace Go.Ab
open Go
noncomputable section
def qN (pr:List Ac)(t m:List Nat):Option Me:=match pr.find? fun a=>decide (a.name=t)with
 |some a=>a.methods.find? fun x=>decide (x.name=m)
 |none=>none
theorem PI {n:Nat}(a:Ac)(s:List Nat):evFn lay0.tab (n+1) 89 [.p a.e,.box 0 0] [.box [.p (.str s)]]=some (.p (.bool (decide (a.name=s))),[.box [.p (.str s)]]):=by
 apply Qk n a.r s;unfold uN;show iL (aK a.name s) _ _=_;rw[dn];cases decide (a.name=s)<;>rfl
theorem PJ {n:Nat}(a:Me)(s:List Nat):evFn lay0.tab (n+1) 91 [.p a.e,.box 0 0] [.box [.p (.str s)]]=some (.p (.bool (decide (a.name=s))),[.box [.p (.str s)]]):=by
 apply Ql n a.r s;unfold uO;show iL (aK a.name s) _ _=_;rw[dn];cases decide (a.name=s)<;>rfl
theorem TY {n:Nat}(ts:List Ac)(s:List Nat)(h:ts.length<1501):evFn lay0.tab (n+1503) 81 [.p (.slice 3 (ts.map Ac.e)),.fn 89 [.box 0 0]] [.box [.p (.str s)]]=some (.p (.int .i64 (m8 (ts.findIdx? fun t=>decide (t.name=s)))),[.box [.p (.str s)]]):=by
 apply Ut (n+1502) (ts.map Ac.e) s;unfold yO;rw[lβ];refine(aV ts (fun q i=>nG _ (n+1502) _ _ q (ts.map Ac.e,(ts.length:Int),i,s)) (fun t=>decide (t.name=s)) (fun i=>some (.p (.int .i64 i),[.box [.p (.str s)]])) (some (.p (.int .i64 (-1)),[.box [.p (.str s)]])) (fun q i hi=>?_) (fun q=>?_) (by omega)).trans ?_
 ·rw[wd];simp only[kP,cK (show((i:Int)<(ts.length:Int)) by omega),aO,aE,aP,aM hi,bf,QE,wS (show i<bZ by unfold bZ;omega)];have:=PI (n:=n+1501) ts[i] s;simp only[Ac.e]at this;simp only[aa this,ba,aD,bG];exact dq _ _ _
 ·rw[wd];simp only[kP,cb,aQ]
 ·cases ts.findIdx? fun t=>decide (t.name=s)<;>rfl
theorem TX {n:Nat}(ts:List Me)(s:List Nat)(h:ts.length<1501):evFn lay0.tab (n+1503) 90 [.p (.slice 4 (ts.map Me.e)),.fn 91 [.box 0 0]] [.box [.p (.str s)]]=some (.p (.int .i64 (m8 (ts.findIdx? fun t=>decide (t.name=s)))),[.box [.p (.str s)]]):=by
 apply Us (n+1502) (ts.map Me.e) s;unfold yN;rw[lβ];refine(aV ts (fun q i=>nF _ (n+1502) _ _ q (ts.map Me.e,(ts.length:Int),i,s)) (fun t=>decide (t.name=s)) (fun i=>some (.p (.int .i64 i),[.box [.p (.str s)]])) (some (.p (.int .i64 (-1)),[.box [.p (.str s)]])) (fun q i hi=>?_) (fun q=>?_) (by omega)).trans ?_
 ·rw[wc];simp only[kO,cK (show((i:Int)<(ts.length:Int)) by omega),aO,aE,aP,aM hi,bf,Yy,wS (show i<bZ by unfold bZ;omega)];have:=PJ (n:=n+1501) ts[i] s;simp only[Me.e]at this;simp only[aa this,ba,aD,bG];exact dq _ _ _
 ·rw[wc];simp only[kO,cb,aQ]
 ·cases ts.findIdx? fun t=>decide (t.name=s)<;>rfl
theorem T7 {n:Nat}(pr:List Ac)(t m:List Nat)(h:pr.length<1501)(hm:∀a∈pr,a.methods.length<1501):evFn lay0.tab (n+1504) 54 [.p (.agg [.slice 3 (pr.map Ac.e)]),.p (.str t),.p (.str m)] []=some (.tup [.p ((qN pr t m).getD ⟨[],[],0,[]⟩).e,.p (.bool (qN pr t m).isSome)],[]):=by
 apply UD (n+1503) ⟨pr.map Ac.e⟩ t m;unfold yY qN;simp only[aa (TY (n:=n) pr t h),ba,dI,bG,bF];rw[←mI];cases ht:pr.findIdx? (fun a=>decide (a.name=t))with
 |none=>rfl
 |some j=>
  have hj:j<pr.length:=(lυ.1 ht).1;simp only[m8,lγ hj];rw[vp (by omega:¬(j:Int)<0),aQ];simp only[aE,aP,aM hj,bf,QE];have hml:=hm _ (lι hj);have h2:=TX (n:=n) pr[j].methods m hml;simp only[Ac.r];simp only[aa h2,ba,bF,bG];rw[←mI];cases hk:pr[j].methods.findIdx? (fun a=>decide (a.name=m))with
  |none=>rfl
  |some k=>
   have hk':k<pr[j].methods.length:=(lυ.1 hk).1;simp only[m8,lγ hk'];rw[vp (by omega:¬(k:Int)<0),aQ];simp only[aE,aP,aM hk',bf,Yy,Option.getD_some,Option.isSome_some];rfl
theorem pC {α:Type}[DecidableEq α](p:α→α→Bool){xs ys:List α}(hl:xs.length=ys.length)(hp:∀x y,p x y=decide (x=y)):(xs.zip ys).findIdx? (fun t=>!p t.1 t.2)=none↔xs=ys:=by
 induction xs generalizing ys with
 |nil=>cases ys with
  |nil=>simp
  |cons y ys=>simp at hl
 |cons x xs ih=>cases ys with
  |nil=>simp at hl
  |cons y ys=>
   simp only[List.length_cons,Nat.add_right_cancel_iff]at hl;simp only[List.zip_cons_cons,mσ,hp,lκ];by_cases hxy:x=y
   ·simp only[hxy,decide_true,Bool.not_true,Bool.false_eq_true,if_false,true_and,Option.map_eq_none_iff];have:=ih hl;simp only[hp]at this;exact this
   ·simp[hxy]
theorem CH {n:Nat}(xs ys:List Int)(h:xs.length<1501):evFn lay0.tab (n+1503) 48 [.p (.slice 1 (xs.map iE)),.p (.slice 1 (ys.map iE))] []=some (.p (.bool (decide (xs=ys))),[]):=by
 apply WR (n+1502) (xs.map iE) (ys.map iE);simp only[CZ,lβ,aT,cr];by_cases hl:xs.length=ys.length
 ·rw[if_pos (by omega)];refine(aV (xs.zip ys) (fun q i=>pZ _ (n+1502) _ _ q (xs.map iE,ys.map iE,(xs.length:Int),i)) (fun t=>!aw t.1 t.2) (fun i=>some (.p (.bool false),[])) (some (.p (.bool true),[])) (fun q i hi=>?_) (fun q=>?_) (by simp[mμ];omega)).trans ?_
  ·simp only[mμ]at hi;rw[Ax];simp only[mj,cK (show((i:Int)<(xs.length:Int)) by omega),aO,aE,aP,aM (show i<xs.length by omega),aM (show i<ys.length by omega),bf,dI,wS (show i<bZ by unfold bZ;omega),List.getElem_zip];exact dq _ _ _
  ·rw[Ax];simp only[mj,mμ,hl,Nat.min_self,cb,aQ]
  ·have key:=pC aw hl aT;cases hf:(xs.zip ys).findIdx? (fun t=>!aw t.1 t.2)with
   |none=>simp[key.1 hf]
   |some j=>
    have:¬xs=ys:=fun e=>by rw[key.2 e]at hf;cases hf
    simp[this]
 ·rw[if_neg (by omega)];have:¬xs=ys:=fun e=>hl (by rw[e])
  simp[this]
theorem Wn {n:Nat}(k:Int)(p:Pa):evFn lay0.tab (n+1) 232 [.p (.int .i64 k),.p p.e] []=some (.p (.bool (decide (k=p.kind))),[]):=by
 apply WH n k p.r;unfold CM;show iL (aw k p.kind) _ _=_;rw[aT];cases decide (k=p.kind)<;>rfl
theorem ac8 {xs:List Int}{ps:List Pa}{i:Nat}(hi:i<(xs.zip (ps.map (·.kind))).length)(h1:i<xs.length)(h2:i<ps.length):(xs.zip (ps.map (·.kind)))[i]=(xs[i],ps[i].kind):=by simp
theorem H4 {n:Nat}(xs:List Int)(ps:List Pa)(h:xs.length<1501):evFn lay0.tab (n+1503) 231 [.p (.slice 1 (xs.map iE)),.p (.slice 2 (ps.map Pa.e)),.p (.fn 232 [])] []=some (.p (.bool (decide (xs=ps.map (·.kind)))),[]):=by
 apply IP (n+1502) (xs.map iE) (ps.map Pa.e);simp only[pN,lβ,aT,cr];by_cases hl:xs.length=ps.length
 ·rw[if_pos (by omega)];refine(aV (xs.zip (ps.map (·.kind))) (fun q i=>ja _ (n+1502) _ _ q (ps.map Pa.e,xs.map iE,(xs.length:Int),i)) (fun t=>!aw t.1 t.2) (fun i=>some (.p (.bool false),[])) (some (.p (.bool true),[])) (fun q i hi=>?_) (fun q=>?_) (by simp[mμ];omega)).trans ?_
  ·have hi':=hi;simp only[mμ,lβ]at hi;rw[qH];have h1:i<xs.length:=by omega
   have h2:i<ps.length:=by omega
   simp only[fM,cK (show((i:Int)<(xs.length:Int)) by omega),aO,aE,aP,aM h1,aM h2,bf,dI,dPa,wS (show i<bZ by unfold bZ;omega)];have:=Wn (n:=n+1501) xs[i] ps[i];simp only[Pa.e]at this;simp only[aa this,ba,aD,bG,ac8 hi' h1 h2,aT];cases decide (xs[i]=ps[i].kind)<;>rfl
  ·rw[qH];simp only[fM,mμ,lβ,hl,Nat.min_self,cb,aQ]
  ·have key:=pC aw (ys:=ps.map (·.kind)) (by simpa using hl) aT;cases hf:(xs.zip (ps.map (·.kind))).findIdx? (fun t=>!aw t.1 t.2)with
   |none=>simp[key.1 hf]
   |some j=>
    have:¬xs=ps.map (·.kind):=fun e=>by rw[key.2 e]at hf;cases hf
    simp[this]
 ·rw[if_neg (by omega)];have:¬xs=ps.map (·.kind):=fun e=>hl (by rw[e];simp)
  simp[this]
def Qx (c:CS)(i:Int)(x:No)(ks:List Int):Option (Int×CS):=match qN c.pr x.name x.v.s with
 |none=>some (0,iy c i 14)
 |some m=>match ks with
  |[]=>none
  |k::r=>some (m.result,cj c i (decide (k=3)&&decide (r=m.params.map (·.kind))))
theorem aav {n:Nat}(c c':CS)(i k:Int)(x:No)(ks:List Int)(h:Qx c i x ks=some (k,c'))(hl:ks.length<1501)(h1:c.pr.length<1501)(h2:∀a∈c.pr,a.methods.length<1501):evFn lay0.tab (n+1505) 181 [.box 0 0,.p (.int .i64 i),.p x.e,.p (.slice 1 (ks.map iE))] c.k.hp=some (.p (.int .i64 k),c'.k.hp):=by
 apply aaE (n+1504) c.k i x.r (ks.map iE);unfold Ib;have h3:=T7 (n:=n) c.pr x.name x.v.s h1 h2;show(bq lay0.tab (n+1504) 54 [.p (.agg [.slice 3 (c.pr.map Ac.e)]),.p (.str x.name),.p (.str x.v.s)] [] _)=_;simp only[aa h3,bQ,hH,aC,ba,Yy,aD,bG];unfold Qx at h;cases hq:qN c.pr x.name x.v.s with
 |none=>
  rw[hq]at h;simp only[lα,lε]at h;obtain⟨rfl,rfl⟩:=h;have f:=pG (n:=n+1503) c i 14;simp only[Option.isSome_none,aQ,aa f,bQ,aC,oA]
 |some m=>
  rw[hq]at h;simp only[Option.isSome_some,aO,Option.getD_some];cases ks with
  |nil=>cases h
  |cons k0 r=>
   simp only[lα,lε]at h;obtain⟨rfl,rfl⟩:=h;have hle:bu 1 (((k0::r).map iE).length:Int)=true:=by rw[bJ];simp;omega
   have hsl:List.take (((k0::r).map iE).length - Int.toNat 1) (List.drop (Int.toNat 1) ((k0::r).map iE))=r.map iE:=by
    show List.take ((r.map iE).length+1 - 1) (r.map iE)=_;rw[Nat.add_sub_cancel,List.take_length]
   rw[hle,hsl,aO];have hr:r.length<1501:=by simp only[List.length_cons]at hl;omega
   have q:=H4 (n:=n+1) r m.params hr;have at0:bw ((k0::r).map iE) 0=some (iE k0):=rfl;rw[at0];simp only[bf,dI,Me.r];simp only[aa q,ba,aD,bG,aT];have w:=fun b=>ng (n:=n+1502) c i b
   simp only[aa (w _),bQ,aC,oA];cases decide (k0=3)<;>cases decide (r=m.params.map (·.kind))<;>rfl
def DH (s:List Nat)(x y:Int):Int×Bool:=
 bif aK s [38,38]then(2,aw x y&&aw x 2)else bif aK s [124,124]then(2,aw x y&&aw x 2)else
 bif aK s [60]then(2,aw x y&&(aw x 1||aw x 3))else bif aK s [60,61]then(2,aw x y&&(aw x 1||aw x 3))else
 bif aK s [62]then(2,aw x y&&(aw x 1||aw x 3))else bif aK s [62,61]then(2,aw x y&&(aw x 1||aw x 3))else
 bif aK s [43]then(x,aw x y&&(aw x 1||aw x 3))else
 bif aK s [45]then(1,aw x y&&aw x 1)else bif aK s [42]then(1,aw x y&&aw x 1)else bif aK s [47]then(1,aw x y&&aw x 1)else bif aK s [37]then(1,aw x y&&aw x 1)else(2,aw x y)
theorem TN {n:Nat}(c:CS)(i:Int)(s:List Nat)(x y:Int):evFn lay0.tab (n+3) 234 [.box 0 0,.p (.int .i64 i),.p (.str s),.p (.int .i64 x),.p (.int .i64 y)] c.k.hp=some (.p (.int .i64 (DH s x y).1),(cj c i (DH s x y).2).k.hp):=by
 apply Ud (n+2) c.k i s x y;unfold yC DH;have w:=fun(c:CS) (b:Bool)=>ng (n:=n) c i b
 have wt:=w c true;have wf:=w c false;simp only[ir,dh,nS,dj,aa wt,aa wf,bQ,aC,oA];cases aK s [38,38];rotate_left
 ·cases aw x y<;>cases aw x 2<;>rfl
 cases aK s [124,124];rotate_left
 ·cases aw x y<;>cases aw x 2<;>rfl
 cases aK s [60];rotate_left
 ·cases aw x y<;>cases aw x 1<;>cases aw x 3<;>rfl
 cases aK s [60,61];rotate_left
 ·cases aw x y<;>cases aw x 1<;>cases aw x 3<;>rfl
 cases aK s [62];rotate_left
 ·cases aw x y<;>cases aw x 1<;>cases aw x 3<;>rfl
 cases aK s [62,61];rotate_left
 ·cases aw x y<;>cases aw x 1<;>cases aw x 3<;>rfl
 cases aK s [43];rotate_left
 ·cases aw x y<;>cases aw x 1<;>cases aw x 3<;>rfl
 cases aK s [45];rotate_left
 ·cases aw x y<;>cases aw x 1<;>rfl
 cases aK s [42];rotate_left
 ·cases aw x y<;>cases aw x 1<;>rfl
 cases aK s [47];rotate_left
 ·cases aw x y<;>cases aw x 1<;>rfl
 cases aK s [37];rotate_left
 ·cases aw x y<;>cases aw x 1<;>rfl
 cases aw x y<;>rfl
end
end Go.Ab
end
section
namespace Go.Ab
open Go
set_option maxRecDepth 100000
noncomputable section
def zO (c:Int):Bool:=(bu 97 c&&bu c 122)||((bu 65 c&&bu c 90)||aw c 95)
def MW (c:Int):Bool:=bu 48 c&&bu c 57
def Po (c:Int):Bool:=zO c||MW c
def Vw (s:List Nat):Bool:=[[97,99,116,111,114],[115,116,97,116,101],[109,101,116,104,111,100],[108,101,116],[105,102],[101,108,115,101],[119,104,105,108,101],[114,101,116,117,114,110],[102,97,105,108],[99,97,108,108],[101,109,105,116],[114,101,109,105,110,100],[99,97,110,99,101,108],[115,101,108,102],[116,114,117,101],[102,97,108,115,101],[105,110,116],[98,111,111,108],[115,116,114,105,110,103],[105,110,116,115],[115,116,114,105,110,103,115]].any fun t=>aK s t
theorem bt (a x y:Bool):iL a (some ((.p (.bool x)),[])) (some ((.p (.bool y)),[]))=some ((.p (.bool (bif a then x else y))),[]):=by cases a<;>rfl
theorem dH (a:Bool):(bif a then true else false)=a:=by cases a<;>rfl
theorem XZ (a:Bool):(bif a then false else true)=!a:=by cases a<;>rfl
theorem gm (a b:Bool):(bif a then b else false)=(a&&b):=by cases a<;>rfl
theorem UT (a b:Bool):(bif a then true else b)=(a||b):=by cases a<;>rfl
theorem aey (a b:Bool):(bif a then false else b)=(!a&&b):=by cases a<;>rfl
theorem rG {α:Type}(l:List α)(p:α→Bool):(l.all fun x=>!p x)=(l.findIdx? p).isNone:=by
 rw[mδ,mη,Option.isNone_iff_eq_none,mτ];simp
theorem zl (s:List Nat)(K:List Nat→R):iF (Da.str s) K=K s:=rfl
theorem Wo {n:Nat}(c:Int):evFn lay0.tab (n+1) 165 [.p (.int .u8 c)] []=some (.p (.bool (MW c)),[]):=by
 apply WJ n c;simp only[CO,bt,dH,gm,Bool.and_true,MW]
theorem GH {n:Nat}(c:Int):evFn lay0.tab (n+1) 204 [.p (.int .u8 c)] []=some (.p (.bool (zO c)),[]):=by
 apply Uf n c;unfold yD zO;cases bu 97 c<;>cases bu c 122<;>cases bu 65 c<;>cases bu c 90<;>cases aw c 95<;>rfl
theorem Wp {n:Nat}(c:Int):evFn lay0.tab (n+2) 205 [.p (.int .u8 c)] []=some (.p (.bool (Po c)),[]):=by
 apply WK (n+1) c;simp only[CP,aa (GH (n:=n) c),aa (Wo (n:=n) c),ba,aD,aC,bt,dH,UT,Bool.or_false,Po]
theorem HZ {n:Nat}(s:List Nat):evFn lay0.tab (n+1) 164 [.p (.str s)] []=some (.p (.bool (Vw s)),[]):=by
 apply II n s;simp only[pI,bt,dH,UT,Vw,List.any_cons,List.any_nil,Bool.or_false]
def S6 (c:Nat):Bool:=!Po (c:Int)
def acT (s:List Nat):Nat:=(s.findIdx? S6).getD s.length
theorem ad8 {n:Nat}(s:List Nat)(h:s.length<1501):evFn lay0.tab (n+1504) 161 [.p (.str s),.p (.fn 205 [])] []=some (.p (.int .i64 (acT s)),[]):=by
 apply aed (n+1503) s;unfold PM acT;refine(aV s (fun q i=>vQ _ (n+1503) _ q (s,i)) S6 (fun i=>some (.p (.int .i64 i),[])) (some (.p (.int .i64 s.length),[])) (fun q i hi=>?_) (fun q=>?_) (by omega)).trans ?_
 ·rw[GO];simp only[rE,cK (show((i:Int)<(s.length:Int)) by omega),aO,bJ,show(0:Int)≤(i:Int) by omega,decide_true,cond_true,Int.toNat_natCast,lγ hi,bf,wS (show i<bZ by unfold bZ;omega),show ∀k:Nat,Int.ofNat k=(k:Int)from fun _=>rfl,aa (Wp (n:=n+1501) _),ba,aD,bG];unfold S6;cases Po (s[i]:Int)<;>rfl
 ·rw[GO];simp only[rE,cb,aQ]
 ·cases s.findIdx? S6<;>rfl
def TI (s:List Nat):Nat:=bif zO ((s.headD 0:Nat):Int)then acT s else 0
theorem aaz {n:Nat}(s:List Nat)(h:s.length<1501):evFn lay0.tab (n+1505) 163 [.p (.str s)] []=some (.p (.int .i64 (TI s)),[]):=by
 apply aaK (n+1504) s;unfold Ii TI;cases s with
 |nil=>rfl
 |cons c r=>
  simp only[show aK (c::r) []=false from rfl,aQ,show bu 0 0=true from rfl,cond_true,Int.toNat_zero,List.getElem?_cons_zero,bf,show ∀k:Nat,Int.ofNat k=(k:Int)from fun _=>rfl,aa (GH (n:=n+1503) _),aa (ad8 (n:=n) _ h),ba,aD,bF,aC,List.headD_cons];cases zO (c:Int)<;>rfl
def cH (s:List Nat):Bool:=!aK s []&&(bu s.length 32&&(aw (TI s) s.length&&!Vw s))
theorem lR {n:Nat}(s:List Nat):evFn lay0.tab (n+1506) 121 [.p (.str s)] []=some (.p (.bool (cH s)),[]):=by
 apply Ue (n+1505) s;by_cases h:s.length<1501
 ·simp only[sL,aa (aaz (n:=n) _ h),aa (HZ (n:=n+1504) s),ba,aD,bF,aC,bt,XZ,gm,cH]
 ·have:bu (s.length:Int) 32=false:=by rw[bJ];simp only[mβ];omega
  simp only[sL,cH,this,aQ,Bool.false_and,Bool.and_false];cases aK s []<;>rfl
def gj (k:Int):Bool:=bu 1 k&&bu k 5
theorem sK {n:Nat}(k:Int):evFn lay0.tab (n+1) 174 [.p (.int .i64 k)] []=some (.p (.bool (gj k)),[]):=by
 apply UC n k;simp only[yX,bt,dH,gm,gj,Bool.and_true]
theorem WB {n:Nat}(xs ys:List Int)(h:xs.length<1501∨ys.length<1501):evFn lay0.tab (n+1503) 292 [.p (.slice 1 (xs.map iE)),.p (.slice 1 (ys.map iE))] []=some (.p (.bool (decide (xs=ys))),[]):=by
 apply WZ (n+1502) (xs.map iE) (ys.map iE);unfold C6;simp only[lβ,aT,cr];by_cases hl:(xs.length:Int)=ys.length
 ·rw[if_pos hl];have hl':xs.length=ys.length:=by omega
  refine(aV (xs.zip ys) (fun q i=>p6 _ (n+1502) _ _ q (xs.map iE,ys.map iE,(xs.length:Int),i)) (fun p=>!decide (p.1=p.2)) (fun i=>some (.p (.bool false),[])) (some (.p (.bool true),[])) (fun q i hi=>?_) (fun q=>?_) (by simp;omega)).trans ?_
  ·have hx:i<xs.length:=by simp at hi;omega
   have hy:i<ys.length:=by omega
   rw[AB];simp only[mu,cK (show((i:Int)<(xs.length:Int)) by omega),aO,aE,aP,aM hx,aM hy,bf,dI,wS (show i<bZ by unfold bZ;omega),List.getElem_zip,aT];exact dq _ _ _
  ·rw[AB];simp only[mu,show((xs.zip ys).length:Int)=xs.length by simp;omega,cb,aQ]
  ·have:decide (xs=ys)=((xs.zip ys).all fun p=>!(!decide (p.1=p.2))):=by
    rw[mδ,mη,lη];constructor
    ·rintro rfl p hp
     obtain⟨i,hi,rfl⟩:=qε hp;simp
    ·intro ha;refine List.ext_getElem hl' fun i h1 h2=>?_
     have:=ha (xs[i],ys[i]) (by rw[←List.getElem_zip (h:=by simp;omega)];exact lι _);simpa using this
   rw[this,rG];cases(xs.zip ys).findIdx? fun p=>!decide (p.1=p.2)<;>rfl
 ·rw[if_neg hl];rw[mα (by rintro rfl;exact hl rfl)]
theorem WC {n:Nat}(xs ys:List (List Nat))(h:xs.length<1501∨ys.length<1501):evFn lay0.tab (n+1503) 293 [.p (.slice 1 (xs.map .str)),.p (.slice 1 (ys.map .str))] []=some (.p (.bool (decide (xs=ys))),[]):=by
 apply W0 (n+1502) (xs.map .str) (ys.map .str);unfold C7;simp only[lβ,aT,cr];by_cases hl:(xs.length:Int)=ys.length
 ·rw[if_pos hl];have hl':xs.length=ys.length:=by omega
  refine(aV (xs.zip ys) (fun q i=>p7 _ (n+1502) _ _ q (xs.map .str,ys.map .str,(xs.length:Int),i)) (fun p=>!decide (p.1=p.2)) (fun i=>some (.p (.bool false),[])) (some (.p (.bool true),[])) (fun q i hi=>?_) (fun q=>?_) (by simp;omega)).trans ?_
  ·have hx:i<xs.length:=by simp at hi;omega
   have hy:i<ys.length:=by omega
   rw[AC];simp only[mw,cK (show((i:Int)<(xs.length:Int)) by omega),aO,aE,aP,aM hx,aM hy,bf,zl,wS (show i<bZ by unfold bZ;omega),List.getElem_zip,dn];exact dq _ _ _
  ·rw[AC];simp only[mw,show((xs.zip ys).length:Int)=xs.length by simp;omega,cb,aQ]
  ·have:decide (xs=ys)=((xs.zip ys).all fun p=>!(!decide (p.1=p.2))):=by
    rw[mδ,mη,lη];constructor
    ·rintro rfl p hp
     obtain⟨i,hi,rfl⟩:=qε hp;simp
    ·intro ha;refine List.ext_getElem hl' fun i h1 h2=>?_
     have:=ha (xs[i],ys[i]) (by rw[←List.getElem_zip (h:=by simp;omega)];exact lι _);simpa using this
   rw[this,rG];cases(xs.zip ys).findIdx? fun p=>!decide (p.1=p.2)<;>rfl
 ·rw[if_neg hl];rw[mα (by rintro rfl;exact hl rfl)]
def fS {α:Type}(l:List α):Int:=(l.length:Int)
def GW (v:Va):Bool:=aW v.k 0||aW 5 v.k
def GX (v:Va):Bool:=!aw v.n 0&&(!aw v.k 1&&(!aw v.k 2||!aw v.n 1))
def R6 (v:Va):Bool:=(!aK v.s []&&!aw v.k 3)||((aW 0 (fS v.I)&&!aw v.k 4)||(aW 0 (fS v.L)&&!aw v.k 5))
def wx (v:Va):Bool:=aW 64 (fS v.s)||(aW 16 (fS v.I)||aW 16 (fS v.L))
def tK (v:Va):Bool:=!GW v&&(!GX v&&(!R6 v&&(!wx v&&v.L.all fun t=>!aW 64 (fS t))))
def Va.c (v:Va):List Da:=[.int .i64 v.k,.int .i64 v.n,.str v.s,.slice 1 (v.I.map iE),.slice 1 (v.L.map .str)]
def fU (a b:Va):Bool:=aw a.k b.k&&(aw a.n b.n&&(aK a.s b.s&&(decide (a.I=b.I)&&decide (a.L=b.L))))
def Va.r (v:Va):aG:=⟨v.k,v.n,v.s,v.I.map iE,v.L.map .str⟩
theorem aaC {n:Nat}(a b:Va)(hi:a.I.length<1501∨b.I.length<1501)(hl:a.L.length<1501∨b.L.length<1501):evFn lay0.tab (n+1504) 264 [.p (.agg a.c),.p (.agg b.c)] []=some (.p (.bool (fU a b)),[]):=by
 apply aaR (n+1503) a.r b.r;unfold Ip;show iL (aw a.k b.k) _ _=_;have h1:=aa (WB (n:=n) a.I b.I hi);have h2:=aa (WC (n:=n) a.L b.L hl);simp only[Va.r,h1,h2,ba,aD,aC,bt,dH,gm,fU,Bool.and_true]
theorem H6 {n:Nat}(a b:Va)(hi:a.I.length<1501∨b.I.length<1501)(hl:a.L.length<1501∨b.L.length<1501):evFn lay0.tab (n+1505) 226 [.p (.agg a.c),.p (.agg b.c)] []=some (.p (.bool (fU a b)),[]):=by
 apply aaQ (n+1504) a.r b.r;unfold Io;have h:=aa (aaC (n:=n) a b hi hl);simp only[Va.c]at h;show bq lay0.tab (n+1504) 264 [.p (.agg _),.p (.agg _)] [] _=_;simp only[Va.r]at h ⊢
 simp only[h,ba,aD,aC,bt,dH]
section
variable (cc:ab) (n:Nat) (k0:Bool×aG→R) (v:Va)
theorem vw1:p8 cc n k0 v.r=k0 (GW v,v.r):=by
 unfold p8 GW;show iL (aW v.k 0) _ (iL (aW 5 v.k) _ _)=_;cases aW v.k 0<;>cases aW 5 v.k<;>rfl
theorem vw2:p9 cc n k0 v.r=k0 (GX v,v.r):=by
 unfold p9 GX;show iL (!aw v.n 0) (iL (!aw v.k 1) (iL (!aw v.k 2) _ (iL (!aw v.n 1) _ _)) _) _=_;cases aw v.n 0<;>cases aw v.k 1<;>cases aw v.k 2<;>cases aw v.n 1<;>rfl
theorem vw3:qa cc n k0 v.r=k0 (!aK v.s []&&!aw v.k 3,v.r):=by
 unfold qa;show iL (!aK v.s []) (iL (!aw v.k 3) _ _) _=_;cases aK v.s []<;>cases aw v.k 3<;>rfl
theorem vw4:jS cc n k0 v.r=k0 (wx v,v.r):=by
 unfold jS wx fS;show iL (aW 64 (v.s.length:Int)) _ (iL (aW 16 ((v.I.map iE).length:Int)) _ (iL (aW 16 ((v.L.map Da.str).length:Int)) _ _))=_;simp only[lβ];cases aW 64 (v.s.length:Int)<;>cases aW 16 (v.I.length:Int)<;>cases aW 16 (v.L.length:Int)<;>rfl
theorem vw6:qb cc n k0 v.r=k0 (aW 0 (fS v.I)&&!aw v.k 4,v.r):=by
 unfold qb fS;show iL (aW 0 ((v.I.map iE).length:Int)) (iL (!aw v.k 4) _ _) _=_;simp only[lβ];cases aW 0 (v.I.length:Int)<;>cases aw v.k 4<;>rfl
theorem vw7:qc cc n k0 v.r=k0 (aW 0 (fS v.L)&&!aw v.k 5,v.r):=by
 unfold qc fS;show iL (aW 0 ((v.L.map Da.str).length:Int)) (iL (!aw v.k 5) _ _) _=_;simp only[lβ];cases aW 0 (v.L.length:Int)<;>cases aw v.k 5<;>rfl
end
theorem LI {n:Nat}(v:Va):evFn lay0.tab (n+1503) 71 [.p (.agg v.c)] []=some (.p (.bool (tK v)),[]):=by
 apply WY (n+1502) v.r;by_cases h:v.L.length<1501;case neg=>
  have h4:wx v=true:=by
   unfold wx fS;rw[mψ,mψ];exact .inr (.inr (cK (by omega)))
  unfold vO tK R6;simp only[vw1,vw2,vw3,vw4,vw6,vw7,h4];cases GW v<;>cases GX v<;>cases(!aK v.s []&&!aw v.k 3)<;>cases(aW 0 (fS v.I)&&!aw v.k 4)<;>cases(aW 0 (fS v.L)&&!aw v.k 5)<;>rfl
 have hl:dT (bq lay0.tab (n+1502)) (n+1502) (some (.p (.bool false),[])) (fun(l18,i19,i20)=>some (.p (.bool true),[])) (n+1502) (v.L.map .str,(v.L.length:Int),0)=some (.p (.bool (v.L.all fun t=>!aW 64 (fS t))),[]):=by
  refine(aV v.L (fun q i=>dT _ (n+1502) _ _ q (v.L.map .str,(v.L.length:Int),i)) (fun t=>aW 64 (fS t)) (fun i=>some (.p (.bool false),[])) (some (.p (.bool true),[])) (fun q i hi=>?_) (fun q=>?_) (by omega)).trans ?_
  ·rw[AA];simp only[mt,cK (show((i:Int)<(v.L.length:Int)) by omega),aO,aE,aP,aM hi,bf,zl,wS (show i<bZ by unfold bZ;omega)];exact dq _ _ _
  ·rw[AA];simp only[mt,cb,aQ]
  ·rw[rG];cases v.L.findIdx? fun t=>aW 64 (fS t)<;>rfl
 unfold vO tK R6;simp only[vw1,vw2,vw3,vw4,vw6,vw7];show iL _ _ (iL _ _ (iL _ (iL _ _ (iL _ _ (dT _ _ _ _ _ (v.L.map .str,((v.L.map Da.str).length:Int),0)))) (iL _ (iL _ _ (iL _ _ (dT _ _ _ _ _ (v.L.map .str,((v.L.map Da.str).length:Int),0)))) (iL _ _ (iL _ _ (dT _ _ _ _ _ (v.L.map .str,((v.L.map Da.str).length:Int),0)))))))=_;rw[lβ,hl];cases GW v<;>cases GX v<;>cases(!aK v.s []&&!aw v.k 3)<;>cases(aW 0 (fS v.I)&&!aw v.k 4)<;>cases(aW 0 (fS v.L)&&!aw v.k 5)<;>cases wx v<;>rfl
theorem Wr {n:Nat}(xs:List Int)(y:Int)(h:xs.length<1501):evFn lay0.tab (n+1504) 175 [.p (.slice 1 (xs.map iE)),.p (.int .i64 y)] []=some (.p (.bool (xs.any fun x=>aw y x)),[]):=by
 have hi:evFn lay0.tab (n+1503) 218 [.p (.slice 1 (xs.map iE)),.p (.int .i64 y)] []=some (.p (.int .i64 (m8 (xs.findIdx? fun x=>aw y x))),[]):=by
  apply aaN (n+1502) (xs.map iE) y;unfold Il;rw[lβ];refine(aV xs (fun q i=>sS _ (n+1502) _ _ q (xs.map iE,y,(xs.length:Int),i)) (fun x=>aw y x) (fun i=>some (.p (.int .i64 i),[])) (some (.p (.int .i64 (-1)),[])) (fun q i hi=>?_) (fun q=>?_) (by omega)).trans ?_
  ·rw[Dt];simp only[oU,cK (show((i:Int)<(xs.length:Int)) by omega),aO,aE,aP,aM hi,bf,dI,wS (show i<bZ by unfold bZ;omega)];exact dq _ _ _
  ·rw[Dt];simp only[oU,cb,aQ]
  ·cases xs.findIdx? fun x=>aw y x<;>rfl
 apply WN (n+1503) (xs.map iE) y;unfold CV;simp only[aa hi,ba,bF,aC];rw[←List.findIdx?_isSome];cases xs.findIdx? fun x=>aw y x with
 |none=>rfl
 |some j=>simp[m8,bJ,aO]
theorem Wt {n:Nat}(xs:List (List Nat))(y:List Nat)(h:xs.length<1501):evFn lay0.tab (n+1504) 227 [.p (.slice 1 (xs.map .str)),.p (.str y)] []=some (.p (.bool (xs.any fun x=>aK y x)),[]):=by
 have hi:evFn lay0.tab (n+1503) 265 [.p (.slice 1 (xs.map .str)),.p (.str y)] []=some (.p (.int .i64 (m8 (xs.findIdx? fun x=>aK y x))),[]):=by
  apply aaO (n+1502) (xs.map .str) y;unfold Im;rw[lβ];refine(aV xs (fun q i=>sT _ (n+1502) _ _ q (xs.map .str,y,(xs.length:Int),i)) (fun x=>aK y x) (fun i=>some (.p (.int .i64 i),[])) (some (.p (.int .i64 (-1)),[])) (fun q i hi=>?_) (fun q=>?_) (by omega)).trans ?_
  ·rw[Du];simp only[oV,cK (show((i:Int)<(xs.length:Int)) by omega),aO,aE,aP,aM hi,bf,zl,wS (show i<bZ by unfold bZ;omega)];exact dq _ _ _
  ·rw[Du];simp only[oV,cb,aQ]
  ·cases xs.findIdx? fun x=>aK y x<;>rfl
 apply WP (n+1503) (xs.map .str) y;unfold CX;simp only[aa hi,ba,bF,aC];rw[←List.findIdx?_isSome];cases xs.findIdx? fun x=>aK y x with
 |none=>rfl
 |some j=>simp[m8,bJ,aO]
end
end Go.Ab
end
section
namespace Go.Ab
open Go
set_option maxRecDepth 100000
noncomputable section
theorem Wc (c:CS)(i:Int)(a b:Bool):cj (cj c i a) i b=cj c i (a&&b):=by
 cases a
 ·cases b
  ·simp only[cj,Bool.false_and,Bool.false_eq_true,if_false,iy];by_cases h:c.er=0
   ·simp only[if_pos h];rfl
   ·simp only[if_neg h]
  ·rfl
 ·rfl
abbrev Sg:=List Int×Int
def sgE (g:Sg):Da:= .agg [.slice 1 (g.1.map iE),.int .i64 g.2]
def Ph (s:List Nat):Option (List Sg):=
 bif aK s [108,101,110]then some [([3],1),([4],1),([5],1)]else
 bif aK s [97,116]then some [([4,1],1),([5,1],3)]else
 bif aK s [97,112,112,101,110,100]then some [([4,1],4),([5,3],5)]else
 bif aK s [115,101,116]then some [([4,1,1],4),([5,1,3],5)]else
 bif aK s [115,116,114]then some [([1],3)]else none
def GF (ks:List Int)(o:Option (List Sg)):Int×Int:=match o with
 |none=>(0,14)
 |some l=>match l.find? fun g=>decide (g.1=ks)with
  |some g=>(g.2,0)
  |none=>(0,15)
def fQ (s:List Nat)(ks:List Int):Int×Int:=
 bif aK s [105,110,116,115]then(4,if(ks.all fun k=>aw k 1)=true then 0 else 15)else
 bif aK s [115,116,114,105,110,103,115]then(5,if(ks.all fun k=>aw k 3)=true then 0 else 15)else GF ks (Ph s)
def zu (c:CS)(i e:Int):CS:=if e=0 then c else iy c i e
theorem Pn (c:CS)(i:Int)(b:Bool):zu c i (if b=true then 0 else 15)=cj c i b:=by cases b<;>rfl
theorem Qr {n:Nat}(k0:jM→R)(i el kd:Int)(ks:List Int)(hl:ks.length<1501):∀(d q j:Nat) (c:CS),j+d=ks.length→d<q→hY (bq lay0.tab (n+2)) (n+2) k0 q (i,el,kd,ks.map iE,(ks.length:Int),(j:Int),c.k)=k0 (i,el,kd,ks.map iE,(ks.length:Int),(ks.length:Int),(cj c i ((ks.drop j).all fun k=>aw k el)).k)
 |0,q+1,j,c,h,_=>by
  obtain rfl:j=ks.length:=by omega
  rw[As];simp only[mf,cb,aQ,List.drop_length,List.all_nil];rfl
 |d+1,q+1,j,c,h,hq=>by
  have hj:j<ks.length:=by omega
  rw[As];have w:=fun b=>ng (n:=n) c i b
  simp only[mf,cK (show((j:Int)<(ks.length:Int)) by omega),aO,aE,aP,aM hj,bf,dI,wS (show j<bZ by unfold bZ;omega),aa (w true),aa (w false),bQ,aC,oA];rw[lξ hj,List.all_cons,←Wc];rw[Qr k0 i el kd ks hl d q (j+1) _ (by omega) (by omega),Qr k0 i el kd ks hl d q (j+1) _ (by omega) (by omega)];cases aw ks[j] el<;>rfl
theorem dSg (g:Sg)(K:ck→R):dQ (sgE g) K=K ⟨g.1.map iE,g.2⟩:=rfl
theorem aeo {n:Nat}(c:CS)(i:Int)(ks:List Int)(gs:List Sg)(hg:∀g∈gs,g.1.length<1501)(hl:gs.length<1501)(k0:Int×et×ck→R)(k1:jN→R):dS (bq lay0.tab (n+1503)) (n+1503) k0 k1 (n+1503) (i,ks.map iE,gs.map sgE,(gs.length:Int),0,c.k)=match gs.find? fun g=>decide (g.1=ks)with
  |some g=>k0 (g.2,c.k,⟨g.1.map iE,g.2⟩)
  |none=>k1 (i,ks.map iE,gs.map sgE,(gs.length:Int),(gs.length:Int),c.k):=by
 refine(aV gs (fun q j=>dS _ (n+1503) k0 k1 q (i,ks.map iE,gs.map sgE,(gs.length:Int),j,c.k)) (fun g=>decide (g.1=ks)) (fun j=>match gs[j]? with|some g=>k0 (g.2,c.k,⟨g.1.map iE,g.2⟩)|none=>none) (k1 (i,ks.map iE,gs.map sgE,(gs.length:Int),(gs.length:Int),c.k)) (fun q j hj=>?_) (fun q=>?_) (by omega)).trans ?_
 ·rw[At];simp only[mg,cK (show((j:Int)<(gs.length:Int)) by omega),aO,aE,aP,aM hj,bf,dSg,wS (show j<bZ by unfold bZ;omega)];have e:=CH (n:=n) gs[j].1 ks (hg _ (lι hj));simp only[aa e,ba,aD,bG,lγ hj];exact dq _ _ _
 ·rw[At];simp only[mg,cb,aQ]
 ·rw[←mI];cases h:gs.findIdx? (fun g=>decide (g.1=ks))with
  |none=>rfl
  |some j=>
   have hj:j<gs.length:=(lυ.1 h).1;simp only[lγ hj]
theorem PA {n:Nat}:evFn lay0.tab (n+1) 269 [] []=some (aa9,[]):=P7 n _ rfl
theorem Wl {n:Nat}(c:CS)(i:Int)(s:List Nat)(ks:List Int)(hl:ks.length<1501):evFn lay0.tab (n+1504) 235 [.box 0 0,.p (.int .i64 i),.p (.str s),.p (.slice 1 (ks.map iE))] c.k.hp=some (.p (.int .i64 (fQ s ks).1),(zu c i (fQ s ks).2).k.hp):=by
 apply WF (n+1503) c.k i s (ks.map iE);unfold CK fQ;have a1:=fun(el kd:Int) (k0:jM→R)=>Qr (n:=n+1501) k0 i el kd ks hl ks.length (n+1503) 0 c (by omega) (by omega)
 simp only[List.drop_zero,Int.ofNat_zero,show((0:Nat):Int)=0 from rfl]at a1;have f14:=pG (n:=n+1502) c i 14;have f15:=pG (n:=n+1502) c i 15;have a2:=fun(gs:List Sg) (hg:∀g∈gs,g.1.length<1501) (hl:gs.length<1501)=>aeo (n:=n) c i ks gs hg hl
 have fin:∀(gs:List Sg) (hg:∀g∈gs,g.1.length<1501) (hl:gs.length<1501) (k1:jN→R),(∀x,k1 (i,ks.map iE,gs.map sgE,x,x,c.k)=some (.p (.int .i64 0),(iy c i 15).k.hp))→dS (bq lay0.tab (n+1503)) (n+1503) (fun(i60,u61,u62)=>some ((.p (.int .i64 i60)),u61.hp)) k1 (n+1503) (i,ks.map iE,gs.map sgE,(gs.length:Int),0,c.k)=some (.p (.int .i64 (GF ks (some gs)).1),(zu c i (GF ks (some gs)).2).k.hp):=by
  intro gs hg hl k1 hk;rw[a2 gs hg hl];unfold GF;simp only;cases gs.find? (fun g=>decide (g.1=ks))with
  |some g=>rfl
  |none=>exact hk _
 rw[lβ];cases h1:aK s [105,110,116,115]
 ·simp only[aQ,cond_false];cases h2:aK s [115,116,114,105,110,103,115]
  ·simp only[aQ,cond_false,aa (PA (n:=n+1502)),aa9,YB,bG];unfold Ph;cases aK s [108,101,110];rotate_left
   ·exact fin [([3],1),([4],1),([5],1)] (by decide) (by decide) _ fun x=>by simp only[aa f15,bQ,aC,oA]
   cases aK s [97,116];rotate_left
   ·exact fin [([4,1],1),([5,1],3)] (by decide) (by decide) _ fun x=>by simp only[aa f15,bQ,aC,oA]
   cases aK s [97,112,112,101,110,100];rotate_left
   ·exact fin [([4,1],4),([5,3],5)] (by decide) (by decide) _ fun x=>by simp only[aa f15,bQ,aC,oA]
   cases aK s [115,101,116];rotate_left
   ·exact fin [([4,1,1],4),([5,1,3],5)] (by decide) (by decide) _ fun x=>by simp only[aa f15,bQ,aC,oA]
   cases aK s [115,116,114];rotate_left
   ·exact fin [([1],3)] (by decide) (by decide) _ fun x=>by simp only[aa f15,bQ,aC,oA]
   simp only[aQ,cond_false,aa f14,bQ,aC,oA];rfl
  ·simp only[aO,cond_true,a1,Pn]
 ·have hs:s=[105,110,116,115]:=by rw[dn]at h1;exact of_decide_eq_true h1
  subst hs;have h2:aK [105,110,116,115] [115,116,114,105,110,103,115]=false:=rfl;simp only[aO,cond_true,h2,aQ,a1,Pn]
def D0 (c:CS)(i:Int)(x:No)(ks:List Int):Option (Int×CS):=
 if x.op=1 then some (x.v.k,c)else
 if x.op=3 then some (3,c)else
 if x.op=2 then some ((lQ c i x.name).1.kind,(lQ c i x.name).2)else
 if x.op=4 then(match ks with
  |[]=>none
  |k::_=>some (bif aK x.name [33]then 2 else 1,cj c i (aw k (bif aK x.name [33]then 2 else 1))))else
 if x.op=5 then(match ks with
  |k::k'::_=>some ((DH x.name k k').1,cj c i (DH x.name k k').2)
  |_=>none)else
 some ((fQ x.name ks).1,zu c i (fQ x.name ks).2)
theorem Fs {n:Nat}(c c':CS)(i k:Int)(x:No)(ks:List Int)(h:D0 c i x ks=some (k,c'))(hl:ks.length<1501):evFn lay0.tab (n+1505) 182 [.box 0 0,.p (.int .i64 i),.p x.e,.p (.slice 1 (ks.map iE))] c.k.hp=some (.p (.int .i64 k),c'.k.hp):=by
 apply FF (n+1504) c.k i x.r (ks.map iE);unfold D0 at h;unfold ol;have hop:x.r.Op=x.op:=rfl;have hnm:x.r.Name=x.name:=rfl;simp only[aT,eK,hop,hnm];by_cases h1:x.op=1
 ·rw[if_pos h1]at h ⊢
  simp only[lα,lε]at h;obtain⟨rfl,rfl⟩:=h;rfl
 rw[if_neg h1]at h ⊢
 by_cases h3:x.op=3
 ·rw[if_pos h3]at h ⊢
  simp only[lα,lε]at h;obtain⟨rfl,rfl⟩:=h;rfl
 rw[if_neg h3]at h ⊢
 by_cases h2:x.op=2
 ·rw[if_pos h2]at h ⊢
  simp only[lα,lε]at h;obtain⟨rfl,rfl⟩:=h;have u:=PB (n:=n+1502) c i x.name;simp only[aa u,ba,dVr,oA];rfl
 rw[if_neg h2]at h ⊢
 by_cases h4:x.op=4
 ·rw[if_pos h4]at h ⊢
  cases ks with
  |nil=>cases h
  |cons k0 r=>
   simp only[lα,lε]at h;obtain⟨rfl,rfl⟩:=h;have at0:bw ((k0::r).map iE) 0=some (iE k0):=rfl;have w:=fun b=>ng (n:=n+1502) c i b
   simp only[at0,bf,dI,aa (w true),aa (w false),bQ,aC,oA,aT];cases aK x.name [33]
   ·simp only[aQ,cond_false];by_cases hk:k0=1
    ·rw[if_pos hk,mε hk]
    ·rw[if_neg hk,mα hk]
   ·simp only[aO,cond_true];by_cases hk:k0=2
    ·rw[if_pos hk,mε hk]
    ·rw[if_neg hk,mα hk]
 rw[if_neg h4]at h ⊢
 by_cases h5:x.op=5
 ·rw[if_pos h5]at h ⊢
  match ks,h with
  |k0::k1::r,h=>
   simp only[lα,lε]at h;obtain⟨rfl,rfl⟩:=h;have at0:bw ((k0::k1::r).map iE) 0=some (iE k0):=rfl;have at1:bw ((k0::k1::r).map iE) 1=some (iE k1):=rfl;have b:=TN (n:=n+1501) c i x.name k0 k1;simp only[at0,at1,bf,dI,aa b,ba,bF,oA]
 rw[if_neg h5]at h ⊢
 simp only[lα,lε]at h;obtain⟨rfl,rfl⟩:=h;have a:=Wl (n:=n) c i x.name ks hl;simp only[aa a,ba,bF,oA]
end
end Go.Ab
end
section
namespace Go.Ab
open Go
set_option maxRecDepth 100000
noncomputable section
def xR (c:CS)(i:Int)(x:No)(ks:List Int):Option CS:=
 if x.op=8 then(match ks with
  |[]=>none
  |k::_=>xi c i x k)else
 if x.op=9 then(match ks with
  |[]=>none
  |k::_=>some (cj (lQ c i x.name).2 i (decide ((lQ c i x.name).1.kind=k))))else
 if x.op=11∨x.op=12 then(match ks with
  |[]=>none
  |k::_=>some (cj c i (decide (k=2))))else
 if x.op=13 then(match ks with
  |[]=>some (cj c i (false==!decide (c.re=0)))
  |k::_=>some (cj (cj c i (true==!decide (c.re=0))) i (decide (k=c.re))))else
 if x.op=15 then some (cj c i (decide (ks=[3,1])))else
 if x.op=16 then some (cj c i (decide (ks=[3,1,1])))else
 if x.op=17 then(match ks with
  |[]=>none
  |k::_=>some (cj c i (decide (k=3))))else some c
theorem ac6 (c:CS)(i:Int)(b:Bool):(cj c i b).re=c.re:=by
 unfold cj iy;split<;>(try rfl);split<;>rfl
theorem HY {n:Nat}(c c':CS)(i:Int)(x:No)(ks:List Int)(h:xR c i x ks=some c')(hl:ks.length<1501):evFn lay0.tab (n+1505) 183 [.box 0 0,.p (.int .i64 i),.p x.e,.p (.slice 1 (ks.map iE))] c.k.hp=some (.tup [],c'.k.hp):=by
 apply IH (n+1504) c.k i x.r (ks.map iE);unfold xR at h;unfold pH;have hop:x.r.Op=x.op:=rfl;have hnm:x.r.Name=x.name:=rfl;have w:=fun(c:CS) b=>ng (n:=n+1502) c i b
 have at0:∀k r,bw ((k::r:List Int).map iE) 0=some (iE k):=fun k r=>rfl
 have hre:c.k.re=c.re:=rfl;simp only[aT,eK,hop,hnm];by_cases h8:x.op=8
 ·rw[if_pos h8]at h ⊢
  cases ks with
  |nil=>cases h
  |cons k r=>
   have e:=ad7 (n:=n+1501) c c' i x k h;simp only[No.e]at e;simp only[at0,bf,dI,aa e,bQ,aC,oA]
 rw[if_neg h8]at h ⊢
 by_cases h9:x.op=9
 ·rw[if_pos h9]at h ⊢
  cases ks with
  |nil=>cases h
  |cons k r=>
   simp only[lα]at h;subst h;have u:=PB (n:=n+1502) c i x.name;simp only[at0,bf,dI,aa u,ba,dVr,oA,aa (w _ _),bQ,aC,Vr.r];rfl
 rw[if_neg h9]at h ⊢
 have t48:∀ys:List Int,evFn lay0.tab (n+1504) 48 [.p (.slice 1 (ks.map iE)),.p (.slice 1 (ys.map iE))] []=some (.p (.bool (decide (ks=ys))),[]):=fun ys=>CH (n:=n+1) ks ys hl
 have t2:=t48 [3,1];have t3:=t48 [3,1,1];simp only[List.map_cons,List.map_nil,iE]at t2 t3;by_cases h11:x.op=11
 ·rw[if_pos (.inl h11)]at h;rw[if_pos h11,if_pos h11];cases ks with
  |nil=>cases h
  |cons k r=>
   simp only[lα]at h;subst h;simp only[at0,bf,dI,aa (w _ _),bQ,aC,oA]
 rw[if_neg h11];by_cases h12:x.op=12
 ·rw[if_pos (.inr h12)]at h;rw[if_pos h12];cases ks with
  |nil=>cases h
  |cons k r=>
   simp only[lα]at h;subst h;simp only[at0,bf,dI,aa (w _ _),bQ,aC,oA]
 rw[if_neg (by rintro(h|h)<;>contradiction)]at h;rw[if_neg h12];by_cases h13:x.op=13
 ·rw[if_pos h13]at h ⊢
  cases ks with
  |nil=>
   simp only[lα]at h;subst h;have e0:(aW 0 (↑(List.map iE ([]:List Int)).length)==!decide (c.k.re=0))=(false==!decide (c.re=0)):=rfl;simp only[e0,aa (w _ _),bQ,aC,oA];rw[if_pos (by simp)];rfl
  |cons k r=>
   simp only[lα]at h;subst h;have e0:aW 0 (↑(List.map iE (k::r)).length)=true:=by rw[mT];simp
   simp only[e0,hre,aa (w _ _),bQ,aC,oA];rw[if_neg (by simp;omega)];simp only[at0,bf,dI];have e1:(cj c i (true==!decide (c.re=0))).k.re=c.re:=ac6 c i _;rw[e1]
 rw[if_neg h13]at h ⊢
 by_cases h15:x.op=15
 ·rw[if_pos h15]at h ⊢
  simp only[lα]at h;subst h;simp only[aa t2,ba,aD,bG,aa (w _ _),bQ,aC,oA]
 rw[if_neg h15]at h ⊢
 by_cases h16:x.op=16
 ·rw[if_pos h16]at h ⊢
  simp only[lα]at h;subst h;simp only[aa t3,ba,aD,bG,aa (w _ _),bQ,aC,oA]
 rw[if_neg h16]at h ⊢
 by_cases h17:x.op=17
 ·rw[if_pos h17]at h ⊢
  cases ks with
  |nil=>cases h
  |cons k r=>
   simp only[lα]at h;subst h;simp only[at0,bf,dI,aa (w _ _),bQ,aC,oA]
 rw[if_neg h17]at h ⊢
 simp only[lα]at h;subst h;rfl
def ju:Nat→List No→Int→Bool
 |0,_,_=>false
 |f+1,ns,i=>match jI ns i with
  |none=>false
  |some x=>
   if x.op=13 then true else if x.op=14 then true else
   if x.op=11 then(decide (x.kids.length=3)&&((match x.kids[1]? with|some k=>decide (k<i)&&ju f ns k|none=>false)&&(match x.kids[2]? with|some k=>decide (k<i)&&ju f ns k|none=>false)))else
   if x.op=18 then(match x.kids.getLast? with|some k=>decide (k<i)&&ju f ns k|none=>false)else false
theorem XF {α:Type}{l:List α}{i:Int}(h:i<0∨(l.length:Int)≤i):jI l i=none:=by
 unfold jI;by_cases h0:0≤i
 ·rw[if_pos h0,lθ (by omega)]
 ·rw[if_neg h0]
theorem MD {α:Type}{l:List α}{i:Int}{x:α}(h:jI l i=some x):∃j:Nat,∃hj:j<l.length,i=(j:Int)∧l[j]=x:=by
 unfold jI at h;by_cases h0:0≤i
 ·rw[if_pos h0]at h;have hj:i.toNat<l.length:=by
   rcases lπ i.toNat l.length with h1|h1
   ·exact h1
   ·rw[lθ h1]at h;cases h
  rw[lγ hj]at h;exact⟨i.toNat,hj,by omega,by simpa using h⟩
 ·rw[if_neg h0]at h;cases h
theorem G8 {f:Nat}{ns:List No}{i:Int}(h:jI ns i=none):ju f ns i=false:=by
 cases f with
 |zero=>rfl
 |succ f=>simp only[ju,h]
theorem WA {n:Nat}{f:Nat}{ns:List No}(he:∀k:Int,k<f→evFn lay0.tab n 229 [.p (.slice 8 (ns.map No.e)),.p (.int .i64 k)] []=some (.p (.bool (ju f ns k)),[]))(x:No)(j:Int)(i:Int){k:Int}(hk:jI x.kids j=some k)(hi:i≤f):evFn lay0.tab (n+1) 267 [.p (.int .i64 j),.box 0 0,.box 1 0,.box 2 0] [x.r.b,.box [.p (.int .i64 i)],.box [.p (.slice 8 (ns.map No.e))]]=some (.p (.bool (decide (k<i)&&ju f ns k)),[x.r.b,.box [.p (.int .i64 i)],.box [.p (.slice 8 (ns.map No.e))]]):=by
 apply WX n x.r j i (ns.map No.e);unfold C5;have hk':bw x.r.Kids j=some (iE k):=by
  show bw (x.kids.map iE) j=_;rw[aE,hk];rfl
 simp only[hk',bf,dI,mT,eK];by_cases hlt:k<i
 ·rw[if_pos hlt,mε hlt];simp only[aa (he k (by omega)),ba,aD,aC,Bool.true_and];cases ju f ns k<;>rfl
 ·rw[if_neg hlt,mα hlt];rfl
theorem acl (l:List Int){a:Int}{r:List Int}(h:l=a::r):jI l (((l.length:Int)) - 1)=l.getLast?∧ag .i64 ((l.length:Int) - 1)=(l.length:Int) - 1∨1000000000≤l.length:=by
 by_cases hb:1000000000≤l.length
 ·exact .inr hb
 ·left;have hl:0<l.length:=by rw[h];simp
  refine⟨?_,iD (by omega) (by omega)⟩;have:((l.length:Int) - 1)=((l.length - 1:Nat):Int):=by omega
  rw[this,nU,List.getLast?_eq_getElem?]
theorem H9:∀(f:Nat) (n:Nat) (ns:List No) (i:Int),i<f→(∀x∈ns,x.kids.length<1501)→evFn lay0.tab (n+2*f+1) 229 [.p (.slice 8 (ns.map No.e)),.p (.int .i64 i)] []=some (.p (.bool (ju f ns i)),[])
 |0,n,ns,i,hi,hb=>by
  apply IT _ (ns.map No.e) i;unfold vN;rw[cK (by omega:i<0)];rfl
 |f+1,n,ns,i,hi,hb=>by
  have he:=fun k hk=>H9 f n ns k hk hb
  have key:=fun x j k hk=>WA he x j i (k:=k) hk (by omega)
  rw[show n+2*(f+1)+1=n+2*f+1+1+1 by omega];apply IT _ (ns.map No.e) i;unfold vN;cases ha:jI ns i with
  |none=>
   rw[G8 ha,mT,eK,bJ,eK];by_cases h0:i<0
   ·rw[if_pos h0]
   ·rw[if_neg h0];by_cases h1:(((ns.map No.e).length:Int))≤i
    ·rw[if_pos h1]
    ·exfalso;rw[lβ]at h1;have hj:i.toNat<ns.length:=by omega
     have:i=(i.toNat:Int):=by omega
     rw[this,aM hj]at ha;cases ha
  |some x=>
   obtain⟨j,hj,rfl,hx⟩:=MD ha;rw[vp (by omega),aQ,bJ,lβ,mα (by omega),aQ,aE,ha];have hxb:x.kids.length<1501:=hb x (hx▸lι hj);simp only[Option.map_some,bf,u0,ju,ha,aT,eK];have hop:x.r.Op=x.op:=rfl;simp only[hop];by_cases h13:x.op=13
   ·rw[if_pos h13,if_pos h13]
   rw[if_neg h13,if_neg h13];by_cases h14:x.op=14
   ·rw[if_pos h14,if_pos h14]
   rw[if_neg h14,if_neg h14];by_cases h11:x.op=11
   ·rw[if_pos h11,if_pos h11];have hlk:(x.r.Kids.length:Int)=(x.kids.length:Int):=by
     show((x.kids.map iE).length:Int)=_;rw[lβ]
    rw[hlk];by_cases h3:x.kids.length=3
    ·rw[if_pos (by omega),mε h3,Bool.true_and];have e1:x.kids[1]?=some x.kids[1]:=lγ (by omega);have e2:x.kids[2]?=some x.kids[2]:=lγ (by omega);have k1:=key x 1 x.kids[1] (aM (j:=1) (by omega));have k2:=key x 2 x.kids[2] (aM (j:=2) (by omega));simp only[aa k1,aa k2,ba,aD,bG,e1,e2];cases(decide (x.kids[1]<(j:Int))&&ju f ns x.kids[1])<;>cases(decide (x.kids[2]<(j:Int))&&ju f ns x.kids[2])<;>rfl
    ·rw[if_neg (by omega),mα h3,Bool.false_and]
   rw[if_neg h11,if_neg h11];by_cases h18:x.op=18
   ·rw[if_pos h18,if_pos h18];have hlk:(x.r.Kids.length:Int)=(x.kids.length:Int):=by
     show((x.kids.map iE).length:Int)=_;rw[lβ]
    rw[hlk];cases hk:x.kids with
    |nil=>rw[vp (by simp)];rfl
    |cons a r=>
     rw[←hk];rcases acl x.kids hk with⟨l1,l2⟩|l3
     ·rw[cK (by rw[hk];simp),aO,l2];cases hg:x.kids.getLast? with
      |none=>rw[hk]at hg;simp at hg
      |some k=>
       have k1:=key x ((x.kids.length:Int) - 1) k (by rw[l1,hg]);simp only[aa k1,ba,aD,bG];cases(decide (k<(j:Int))&&ju f ns k)<;>rfl
     ·omega
   rw[if_neg h18,if_neg h18]
end
end Go.Ab
end
section
namespace Go.Ab
open Go
set_option maxRecDepth 100000
noncomputable section
def jv (ns:List No)(i:Int):Bool:=ju 1501 ns i
def gR (v:CS→Int→Option (Int×CS)):CS→List Int→Option (List Int×CS)
 |c,[]=>some ([],c)
 |c,k::r=>match v c k with
  |none=>none
  |some (x,c1)=>match gR v c1 r with
   |none=>none
   |some (xs,c2)=>some (x::xs,c2)
def rH (v:CS→Int→Bool→Option (Int×CS)):CS→List Int→Bool→Option CS
 |c,[],_=>some c
 |c,k::r,d=>match v c k d with
  |none=>none
  |some (_,c1)=>rH v c1 r (d||jv c1.ns k)
def ZY (c:CS)(i:Int)(x:No)(ks:List Int):Option (Int×CS):=
 if x.op=7 then Qx c i x ks else if x.op≤6 then D0 c i x ks else match xR c i x ks with
  |some c=>some (0,c)
  |none=>none
def iA (c:CS)(i:Int)(x:No)(k:Int):CS:=if x.op≤7 then {c with ki:=so c.ki i k}else c
def qi (v:CS→Int→Bool→Option (Int×CS))(c:CS)(i:Int)(x:No):Option CS:=match rH v c x.kids false with
 |none=>none
 |some c1=>some (if i=(c1.ns.length:Int) - 1 then cj {c1 with sc:=c.sc} i (decide (c1.re=0)||jv c1.ns i)else {c1 with sc:=c.sc})
def j5:Nat→CS→Int→Bool→Option (Int×CS)
 |0,_,_,_=>none
 |f+1,c,i,d=>match jI c.ns i with
  |none=>none
  |some x=>
   if x.op=18 then(match qi (j5 f) c i x with
    |none=>none
    |some c1=>some (0,c1))
   else match gR (fun c k=>j5 f c k false) c x.kids with
    |none=>none
    |some (ks,c1)=>if c1.er=0 then(match ZY c1 i x ks with
     |none=>none
     |some (k,c2)=>some (k,iA (cj c2 i (!d)) i x k))else some (0,c1)
structure eX (c c':CS):Prop where
 pr:c'.pr=c.pr
 ns:c'.ns=c.ns
 re:c'.re=c.re
 fs:c'.fs=c.fs
theorem eX.refl (c:CS):eX c c:=⟨rfl,rfl,rfl,rfl⟩
theorem eX.trans {a b c:CS}(h:eX a b)(k:eX b c):eX a c:=⟨k.pr.trans h.pr,k.ns.trans h.ns,k.re.trans h.re,k.fs.trans h.fs⟩
theorem lT (c:CS)(i e:Int):eX c (iy c i e):=by unfold iy;split<;>exact⟨rfl,rfl,rfl,rfl⟩
theorem ge (c:CS)(i:Int)(b:Bool):eX c (cj c i b):=by
 unfold cj;split
 ·exact eX.refl c
 ·exact lT _ _ _
theorem Fo (c:CS)(i:Int)(s:List Nat):eX c (lQ c i s).2:=by
 unfold lQ;split
 ·exact⟨rfl,rfl,rfl,rfl⟩
 ·exact lT _ _ _
theorem zo {c c':CS}{s:List Nat}{k:Int}(h:mF c s k=some c'):eX c c':=by
 unfold mF at h;split at h
 ·simp only[lα]at h;subst h;exact⟨rfl,rfl,rfl,rfl⟩
 ·cases h
theorem Vy (c:CS)(i:Int)(x:No):eX c (qp c i x):=by
 unfold qp;split
 ·exact lT _ _ _
 split
 ·exact lT _ _ _
 ·exact eX.refl _
theorem Zx {c c':CS}{i k:Int}{x:No}(h:xi c i x k=some c'):eX c c':=by
 unfold xi at h;split at h
 ·rename_i c3 h3;simp only[lα]at h;subst h;exact(Vy _ _ _).trans ((ge _ _ _).trans ((zo h3).trans (Fo _ _ _)))
 ·cases h
theorem Y1 (c:CS)(i e:Int):eX c (zu c i e):=by
 unfold zu;split
 ·exact eX.refl c
 ·exact lT _ _ _
theorem acL {c c':CS}{i k:Int}{x:No}{ks:List Int}(h:ZY c i x ks=some (k,c')):eX c c':=by
 unfold ZY at h;split at h
 ·unfold Qx at h;split at h
  ·simp only[lα,lε]at h;rw[←h.2];exact lT _ _ _
  ·split at h
   ·cases h
   ·simp only[lα,lε]at h;rw[←h.2];exact ge _ _ _
 ·split at h
  ·unfold D0 at h;repeat' split at h
   all_goals first
    |(cases h;done)
    |(
      simp only[lα,lε]at h;rw[←h.2];first|exact eX.refl _|exact Fo _ _ _|exact ge _ _ _|exact Y1 _ _ _)
  ·split at h
   ·rename_i c1 hs;simp only[lα,lε]at h;rw[←h.2];unfold xR at hs;repeat' split at hs
    all_goals first
     |(cases hs;done)
     |exact Zx hs
     |(
       simp only[lα]at hs;rw[←hs];first|exact eX.refl _|exact ge _ _ _|exact(Fo _ _ _).trans (ge _ _ _)|exact(ge _ _ _).trans (ge _ _ _))
   ·cases h
theorem Hv (c:CS)(i:Int)(x:No)(k:Int):eX c (iA c i x k):=by unfold iA;split<;>exact⟨rfl,rfl,rfl,rfl⟩
theorem zI {v:CS→Int→Option (Int×CS)}(hv:∀c k r,v c k=some r→eX c r.2):∀(l:List Int) (c:CS) {r:List Int×CS},gR v c l=some r→eX c r.2
 |[],c,r,h=>by simp only[gR,lα]at h;rw[←h];exact eX.refl _
 |k::l,c,r,h=>by
  simp only[gR]at h;split at h
  ·cases h
  ·rename_i x c1 h1;split at h
   ·cases h
   ·rename_i xs c2 h2;simp only[lα]at h;rw[←h];have a:=hv _ _ _ h1;have b:=zI hv l c1 h2;exact a.trans b
theorem DJ {v:CS→Int→Bool→Option (Int×CS)}(hv:∀c k d r,v c k d=some r→eX c r.2):∀(l:List Int) (c:CS) (d:Bool) {r:CS},rH v c l d=some r→eX c r
 |[],c,d,r,h=>by simp only[rH,lα]at h;rw[←h];exact eX.refl _
 |k::l,c,d,r,h=>by
  simp only[rH]at h;split at h
  ·cases h
  ·rename_i x c1 h1;exact(hv _ _ _ _ h1).trans (DJ hv l c1 _ h)
theorem Qv {v:CS→Int→Bool→Option (Int×CS)}(hv:∀c k d r,v c k d=some r→eX c r.2){c:CS}{i:Int}{x:No}{r:CS}(h:qi v c i x=some r):eX c r:=by
 unfold qi at h;split at h
 ·cases h
 ·rename_i c1 h1;simp only[lα]at h;have h2:=DJ hv _ _ _ h1;have h3:eX c {c1 with sc:=c.sc}:=⟨h2.pr,h2.ns,h2.re,h2.fs⟩;rw[←h];split
  ·exact h3.trans (ge _ _ _)
  ·exact h3
theorem mY:∀(f:Nat) (c:CS) (i:Int) (d:Bool) (r:Int×CS),j5 f c i d=some r→eX c r.2
 |0,c,i,d,r,h=>by simp only[j5]at h;cases h
 |f+1,c,i,d,r,h=>by
  simp only[j5]at h;split at h
  ·cases h
  ·split at h
   ·split at h
    ·cases h
    ·rename_i c1 h1;simp only[lα]at h;rw[←h];exact Qv (mY f) h1
   ·split at h
    ·cases h
    ·rename_i ks c1 h1;have s1:=zI (fun c k r=>mY f c k false r) _ _ h1;split at h
     ·split at h
      ·cases h
      ·rename_i k c2 h2;simp only[lα]at h;rw[←h];exact s1.trans ((acL h2).trans ((ge _ _ _).trans (Hv _ _ _ _)))
     ·simp only[lα]at h;rw[←h];exact s1
structure Sz (c:CS):Prop where
 pr:c.pr.length<1501
 me:∀a∈c.pr,a.methods.length<1501
 ns:c.ns.length<1501
 ks:∀x∈c.ns,x.kids.length<1501
theorem Sz.of {c c':CS}(h:Sz c)(s:eX c c'):Sz c':=⟨s.pr▸h.pr,s.pr▸h.me,s.ns▸h.ns,s.ns▸h.ks⟩
def RW (v:CS→Int→Bool→Option (Int×CS))(m:Nat):Prop:=∀(c:CS) (i:Int) (d:Bool) (k:Int) (c':CS),v c i d=some (k,c')→Sz c→evFn lay0.tab m 128 [.box 0 0,.p (.int .i64 i),.p (.bool d)] c.k.hp=some (.p (.int .i64 k),c'.k.hp)
theorem Hk {v:CS→Int→Bool→Option (Int×CS)}{m:Nat}(hs:∀c k d r,v c k d=some r→eX c r.2)(hv:RW v m)(k0:Int×Bool×Nat×LD×Int×Int×Bool×et×aF×LD→R)(i:Int)(d:Bool)(l:List Int)(x:aF)(hl:l.length<1501):∀(e q j:Nat) (c:CS) (acc ks:List Int) (c':CS),j+e=l.length→e<q→acc.length=j→gR (fun c k=>v c k false) c (l.drop j)=some (ks,c')→Sz c→
  L_cvisit_1 (bq lay0.tab m) m k0 q (i,d,acc.length,l.map iE,(l.length:Int),(j:Int),c.k,x,acc.map iE)=k0 (i,d,(acc++ks).length,l.map iE,(l.length:Int),(l.length:Int),false,c'.k,x,(acc++ks).map iE)
 |0,q+1,j,c,acc,ks,c',h,_,ha,hk,hz=>by
  obtain rfl:j=l.length:=by omega
  rw[List.drop_length]at hk;simp only[gR,lα,lε]at hk;obtain⟨rfl,rfl⟩:=hk;rw[Aw];simp only[mi,cb,aQ,mθ]
 |e+1,q+1,j,c,acc,ks,c',h,hq,ha,hk,hz=>by
  have hj:j<l.length:=by omega
  rw[lξ hj]at hk;simp only[gR]at hk;split at hk
  ·cases hk
  ·rename_i y c1 h1;split at hk
   ·cases hk
   ·rename_i ys c2 h2;simp only[lα,lε]at hk;obtain⟨rfl,rfl⟩:=hk;rw[Aw];have hc:=hv _ _ _ _ _ h1 hz;have hlen:Nat.beq acc.length (acc.map iE).length=true:=by simp
    have hbig:dW ((acc.map iE).length+[Da.int .i64 y].length) 8=true:=qh (by simp;omega) (by decide);simp only[mi,cK (show((j:Int)<(l.length:Int)) by omega),aO,aE,aP,aM hj,bf,dI,wS (show j<bZ by unfold bZ;omega),aa hc,ba,bF,oA,hlen,hbig];have e1:acc.map iE++[Da.int .i64 y]=(acc++[y]).map iE:=by simp[iE]
    rw[e1,lβ];have:=Hk hs hv k0 i d l x hl e q (j+1) c1 (acc++[y]) ys c2 (by omega) (by omega) (by simp;omega) h2 (hz.of (hs _ _ _ _ h1));rw[this];simp only[mν,List.cons_append,List.nil_append]
theorem MF {v:CS→Int→Bool→Option (Int×CS)}{m:Nat}(hs:∀c k d r,v c k d=some r→eX c r.2)(hv:RW v m)(hm:3003≤m)(i:Int)(l:List Int)(sk sv:LD)(hl:l.length<1501):∀(e q j:Nat) (c:CS) (d:Bool) (c':CS),j+e=l.length→e<q→rH v c (l.drop j) d=some c'→Sz c→
  ∃d',∀k0:jO→R,mc (bq lay0.tab m) m k0 q (i,d,l.map iE,(l.length:Int),(j:Int),c.k,sk,sv)=k0 (i,d',l.map iE,(l.length:Int),(l.length:Int),c'.k,sk,sv)
 |0,q+1,j,c,d,c',h,_,hk,hz=>by
  obtain rfl:j=l.length:=by omega
  rw[List.drop_length]at hk;simp only[rH,lα]at hk;subst hk;refine⟨d,fun k0=>?_⟩
  rw[Au];simp only[mh,cb,aQ]
 |e+1,q+1,j,c,d,c',h,hq,hk,hz=>by
  have hj:j<l.length:=by omega
  rw[lξ hj]at hk;simp only[rH]at hk;split at hk
  ·cases hk
  ·rename_i y c1 h1;have hc:=hv _ _ _ _ _ h1 hz;have hz1:Sz c1:=hz.of (hs _ _ _ _ h1);obtain⟨d',ih⟩:=MF hs hv hm i l sk sv hl e q (j+1) c1 _ c' (by omega) (by omega) hk hz1;refine⟨d',fun k0=>?_⟩
   rw[←ih k0,Au];have hen:evFn lay0.tab m 229 [.p (.slice 8 c1.k.ns),.p (.int .i64 l[j])] []=some (.p (.bool (jv c1.ns l[j])),[]):=by
    by_cases hlt:l[j]<(1501:Nat)
    ·obtain⟨m',rfl⟩:∃m',m=m'+2*1501+1:=⟨m - 3003,by omega⟩
     exact H9 1501 m' c1.ns l[j] hlt hz1.ks
    ·have hn:jI c1.ns l[j]=none:=XF (.inr (by have:=hz1.ns;omega));obtain⟨m',rfl⟩:∃m',m=m'+1:=⟨m - 1,by omega⟩
     unfold jv;rw[G8 hn];apply IT m' (c1.ns.map No.e) l[j];unfold vN;rw[vp (by omega),aQ,bJ,lβ,mε (by have:=hz1.ns;omega),aO]
   simp only[mh,cK (show((j:Int)<(l.length:Int)) by omega),aO,aE,aP,aM hj,bf,dI,wS (show j<bZ by unfold bZ;omega)];cases d
   ·simp only[aQ,aa hc,ba,bF,oA,aa hen,aD,aC,Bool.false_or];cases jv c1.ns l[j]<;>rfl
   ·simp only[aO,aa hc,ba,bF,oA,Bool.true_or]
theorem Wm {v:CS→Int→Bool→Option (Int×CS)}{m:Nat}(hs:∀c k d r,v c k d=some r→eX c r.2)(hv:RW v m)(hm:3012≤m)(c c':CS)(i:Int)(x:No)(hl:x.kids.length<1501)(h:qi v c i x=some c')(hz:Sz c)(hi:i<1501):evFn lay0.tab (m+1) 180 [.box 0 0,.p (.int .i64 i),.p x.e] c.k.hp=some (.tup [],c'.k.hp):=by
 apply WG m c.k i x.r;unfold CL;unfold qi at h;split at h
 ·cases h
 ·rename_i c1 h1;simp only[lα]at h;obtain⟨m1,rfl⟩:∃m1,m=m1+1:=⟨m - 1,by omega⟩
  have hcl:evFn lay0.tab (m1+1) 228 [.map 0] [.map c.k.sk c.k.sv]=some (.map 1,[.map c.k.sk c.k.sv,.map c.k.sk c.k.sv]):=WL m1 _ _ _ rfl;simp only[aa hcl];have hz1:=hz.of (DJ hs _ _ _ h1);obtain⟨d',hloop⟩:=MF hs hv (by omega) i x.kids c.k.sk c.k.sv hl x.kids.length (m1+1) 0 c false c1 (by omega) (by omega) (by rw[List.drop_zero];exact h1) hz;have hlk:(List.length x.r.Kids:Int)=x.kids.length:=by show((x.kids.map iE).length:Int)=_;rw[lβ]
  have hgen:∀k0:jO→R,(dMp 1 (.map 1)<|bj [(.map c.k.sk c.k.sv),(.map c.k.sk c.k.sv)] [(.map c.k.sk c.k.sv),(.map c.k.sk c.k.sv)]<|mc (bq lay0.tab (m1+1)) (m1+1) k0 (m1+1) (i,false,x.r.Kids,(x.r.Kids.length:Int),0,c.k,c.k.sk,c.k.sv))=k0 (i,d',x.kids.map iE,(x.kids.length:Int),(x.kids.length:Int),c1.k,c.k.sk,c.k.sv):=fun k0=>by
   rw[bG,hlk];exact hloop k0
  rw[hgen]
  ·show(iL (aw i (ag .i64 (↑(List.length c1.k.ns) - 1)))
    (iL (aw c1.k.re 0)
     (bq lay0.tab (m1+1) 184 [.box 0 0,.p (.int .i64 i),.p (.bool true)] ({c1 with sc:=c.sc}:CS).k.hp fun d o=>bb d fun r=>av r<|aL o fun u=>some (.tup [],u.hp))
     (bq lay0.tab (m1+1) 229 [.p (.slice 8 c1.k.ns),.p (.int .i64 i)] [] fun d o=>dP d fun x=>aA x fun b=>av o<|iL b
      (bq lay0.tab (m1+1) 184 [.box 0 0,.p (.int .i64 i),.p (.bool true)] ({c1 with sc:=c.sc}:CS).k.hp fun d o=>bb d fun r=>av r<|aL o fun u=>some (.tup [],u.hp))
      (bq lay0.tab (m1+1) 184 [.box 0 0,.p (.int .i64 i),.p (.bool false)] ({c1 with sc:=c.sc}:CS).k.hp fun d o=>bb d fun r=>av r<|aL o fun u=>some (.tup [],u.hp))))
    (some (.tup [],({c1 with sc:=c.sc}:CS).k.hp)))=_
   have e2:ag .i64 (↑(List.length c1.k.ns) - 1)=(c1.ns.length:Int) - 1:=by
    have:(List.length c1.k.ns:Int)=c1.ns.length:=by show((c1.ns.map No.e).length:Int)=_;rw[lβ]
    rw[this];have:=hz1.ns;exact iD (by omega) (by omega)
   have e3:c1.k.re=c1.re:=rfl;simp only[e2,e3,aT,eK];subst h;by_cases hr:i=(c1.ns.length:Int) - 1
   ·rw[if_pos hr,if_pos hr];obtain⟨m2,rfl⟩:∃m2,m1=m2+1:=⟨m1 - 1,by omega⟩
    have w:=fun b=>ng (n:=m2) ({c1 with sc:=c.sc}:CS) i b
    simp only[aa (w true),aa (w false),bQ,aC,oA];have hen:evFn lay0.tab (m2+1+1) 229 [.p (.slice 8 c1.k.ns),.p (.int .i64 i)] []=some (.p (.bool (jv c1.ns i)),[]):=by
     obtain⟨m',hm'⟩:∃m',m2+1+1=m'+2*1501+1:=⟨m2+2 - 3003,by omega⟩
     rw[hm'];exact H9 1501 m' c1.ns i (by omega) hz1.ks
    simp only[aa hen,ba,aD,aC];by_cases h0:c1.re=0
    ·rw[if_pos h0,mε h0];rfl
    ·rw[if_neg h0,mα h0];cases jv c1.ns i<;>rfl
   ·rw[if_neg hr,if_neg hr]
end
end Go.Ab
end
section
namespace Go.Ab
open Go
set_option maxRecDepth 100000
noncomputable section
theorem Ei {v:CS→Int→Option (Int×CS)}:∀(l:List Int) (c:CS) {ks:List Int} {c':CS},gR v c l=some (ks,c')→ks.length=l.length
 |[],c,ks,c',h=>by simp only[gR,lα,lε]at h;rw[←h.1]
 |k::l,c,ks,c',h=>by
  simp only[gR]at h;split at h
  ·cases h
  ·split at h
   ·cases h
   ·rename_i xs c2 h2;simp only[lα,lε]at h;rw[←h.1];have:=Ei l _ h2;simp[this]
theorem aaq {m:Nat}(c:CS)(i k:Int)(d:Bool)(x:No):(bq lay0.tab (m+2) 184 [.box 0 0,.p (.int .i64 i),.p (.bool (!d))] c.k.hp fun d1 o=>bb d1 fun r=>av r<|aL o fun u=>
  iL (bu x.r.Op 7)
   (cL (bV (TypeDesc.int .i64) (Da.int .i64 i) u.kk 0) fun y=>iG y
    (some ((.p (.int .i64 k)),({u with kk:=(u.kk++[Da.int .i64 i]),kv:=(u.kv++[Da.int .i64 k])}:et).hp)) fun n=>
    some ((.p (.int .i64 k)),({u with kv:=(List.set u.kv n (Da.int .i64 k))}:et).hp))
   (some ((.p (.int .i64 k)),u.hp)))=some (.p (.int .i64 k),(iA (cj c i (!d)) i x k).k.hp):=by
 simp only[aa (ng (n:=m) c i (!d)),bQ,aC,oA,bJ,eK];unfold iA;have hop:x.r.Op=x.op:=rfl;rw[hop];by_cases h:x.op≤7
 ·rw[if_pos h,if_pos h];generalize cj c i (!d)=c1;exact upI c1.ki i (fun k=>Da.int .i64 k) k fun a b=>some (.p (.int .i64 k),et.hp {c1.k with kk:=a,kv:=b})
 ·rw[if_neg h,if_neg h]
theorem RR:∀(f n:Nat),RW (j5 f) (n+3*f+4503)
 |0,n,c,i,d,k,c',h,hz=>by simp only[j5]at h;cases h
 |f+1,n,c,i,d,k,c',h,hz=>by
  rw[show n+3*(f+1)+4503=(n+3*f+4505)+1 by omega];apply WI _ c.k i d;unfold CN;simp only[j5]at h;split at h
  ·cases h
  ·rename_i x hx;obtain⟨j,hj,rfl,hxj⟩:=MD hx;have hxb:x.kids.length<1501:=hz.ks x (hxj▸lι hj);have hat:bw c.k.ns (j:Int)=some x.e:=by
    show bw (c.ns.map No.e) (j:Int)=_;rw[aE,hx];rfl
   rw[hat];have hop:x.r.Op=x.op:=rfl;simp only[bf,u0,hop,aT,eK];split at h
   ·rename_i h18;rw[if_pos h18];split at h
    ·cases h
    ·rename_i c1 h1;simp only[lα,lε]at h;obtain⟨rfl,rfl⟩:=h;have hv:=RR f (n+1);rw[show n+1+3*f+4503=n+3*f+4504 by omega]at hv;have hb:=Wm (mY f) hv (by omega) c c1 (j:Int) x hxb h1 hz (by have:=hz.ns;omega);simp only[No.e]at hb;simp only[aa hb,bQ,aC,oA]
   ·rename_i h18;rw[if_neg h18];split at h
    ·cases h
    ·rename_i ks c1 h1;have hv:=RR f (n+2);rw[show n+2+3*f+4503=n+3*f+4505 by omega]at hv;have hl:=fun k0=>Hk (mY f) hv k0 (j:Int) d x.kids x.r hxb x.kids.length (n+3*f+4505) 0 c [] ks c1 (by omega) (by omega) rfl (by rw[List.drop_zero];exact h1) hz
     have hlk:(List.length x.r.Kids:Int)=x.kids.length:=by show((x.kids.map iE).length:Int)=_;rw[lβ]
     simp only[List.length_nil,List.nil_append,List.map_nil,show((0:Nat):Int)=0 from rfl]at hl;rw[hlk];have hl':∀k0,L_cvisit_1 (bq lay0.tab (n+3*f+4505)) (n+3*f+4505) k0 (n+3*f+4505) ((j:Int),d,0,x.r.Kids,(x.kids.length:Int),0,c.k,x.r,[])=_:=hl;rw[hl'];have hkl:ks.length<1501:=by rw[Ei _ _ h1];exact hxb
     have hz1:Sz c1:=hz.of (zI (fun c k r=>mY f c k false r) _ _ h1);have htk:List.take ks.length (List.drop 0 (ks.map iE))=ks.map iE:=by
      rw[List.drop_zero];have:=List.take_length (l:=ks.map iE);rwa [lβ]at this
     have her:c1.k.er=c1.er:=rfl;simp only[htk,hop,her];split at h
     ·rename_i h0;split at h
      ·cases h
      ·rename_i k1 c2 h2;simp only[lα,lε]at h;obtain⟨rfl,rfl⟩:=h;rw[cr,if_pos h0];have tail:=fun k=>aaq (m:=n+3*f+4503) c2 (j:Int) k d x
       simp only[hop]at tail;unfold ZY at h2;by_cases h7:x.op=7
       ·rw[if_pos h7]at h2 ⊢
        obtain⟨m0,hm0⟩:∃m0,n+3*f+4505=m0+1505:=⟨n+3*f+3000,by omega⟩
        have e:=aav (n:=m0) c1 c2 (j:Int) k1 x ks h2 hkl hz1.pr hz1.me;rw[←hm0]at e;simp only[No.e]at e;rw[aa e];simp only[ba,bF,oA];exact tail k1
       ·rw[if_neg h7]at h2 ⊢
        rw[bJ,eK];by_cases h6:x.op≤6
        ·rw[if_pos h6]at h2 ⊢
         obtain⟨m0,hm0⟩:∃m0,n+3*f+4505=m0+1505:=⟨n+3*f+3000,by omega⟩
         have e:=Fs (n:=m0) c1 c2 (j:Int) k1 x ks h2 hkl;rw[←hm0]at e;simp only[No.e]at e;rw[aa e];simp only[ba,bF,oA];exact tail k1
        ·rw[if_neg h6]at h2 ⊢
         split at h2
         ·rename_i c3 h3;simp only[lα,lε]at h2;obtain⟨rfl,rfl⟩:=h2;obtain⟨m0,hm0⟩:∃m0,n+3*f+4505=m0+1505:=⟨n+3*f+3000,by omega⟩
          have e:=HY (n:=m0) c1 c3 (j:Int) x ks h3 hkl;rw[←hm0]at e;simp only[No.e]at e;rw[aa e];simp only[bQ,aC,oA];exact tail 0
         ·cases h2
     ·rename_i h0;simp only[lα,lε]at h;obtain⟨rfl,rfl⟩:=h;rw[cr,if_neg h0]
def xE:CS→List Pa→Option (Option CS)
 |c,[]=>some (some c)
 |c,p::r=>if zp c p.name=true then some none else match mF c p.name p.kind with
  |none=>none
  |some c1=>xE c1 r
def CS.init (pr:List Ac)(fs:List (List Nat×Vr))(m:Me):CS:=⟨pr,fs,m.nodes,m.result,-1,0,[],[],[],[],[]⟩
def oy (f:Nat)(pr:List Ac)(fs:List (List Nat×Vr))(m:Me):Option (Option CS):=match xE (CS.init pr fs m) m.params with
 |none=>none
 |some none=>some none
 |some (some c1)=>match j5 f c1 ((m.nodes.length:Int) - 1) false with
  |none=>none
  |some (_,c2)=>some (some c2)
def eY (c:CS):Da:= .agg [.slice 2 (c.lo.map Pa.e),.map (c.ki.map fun p=> .int .i64 p.1) (c.ki.map fun p=> .int .i64 p.2),.map (c.va.map fun p=> .int .i64 p.1) (c.va.map fun p=>p.2.e)]
def U1:Option CS→D
 |none=> .tup [.p (.agg [.slice 2 [],.nilmap,.nilmap]),.p (.int .i64 (-1)),.p (.int .i64 7)]
 |some c=> .tup [.p (eY c),.p (.int .i64 c.nd),.p (.int .i64 c.er)]
theorem EO:∀(l:List Pa) (c:CS) {r:CS},xE c l=some (some r)→eX c r
 |[],c,r,h=>by simp only[xE,lα]at h;rw[←h];exact eX.refl _
 |p::l,c,r,h=>by
  simp only[xE]at h;split at h
  ·cases h
  ·split at h
   ·cases h
   ·rename_i c1 h1;exact(zo h1).trans (EO l c1 h)
theorem Ov {m:Nat}(k0:ah×et×cQ×bv→R)(k1:LD×LD×LD×Int×Int×ah×et→R)(ps:List Pa)(mm:ah)(hk0:∀x,k0 x=some (U1 none,[]))(hl:ps.length<1501):∀(e q j:Nat) (c:CS) (o:Option CS),j+e=ps.length→e<q→xE c (ps.drop j)=some o→
  L_check_1 (bq lay0.tab (m+1)) (m+1) k0 k1 q (c.fs.map (fun p=> .str p.1),c.fs.map (fun p=>p.2.e),ps.map Pa.e,(ps.length:Int),(j:Int),mm,c.k)=match o with
   |none=>some (U1 none,[])
   |some c'=>k1 (c.fs.map (fun p=> .str p.1),c.fs.map (fun p=>p.2.e),ps.map Pa.e,(ps.length:Int),(ps.length:Int),mm,c'.k)
 |0,q+1,j,c,o,h,_,hp=>by
  obtain rfl:j=ps.length:=by omega
  rw[List.drop_length]at hp;simp only[xE,lα]at hp;subst hp;rw[Dq];simp only[oR,cb,aQ]
 |e+1,q+1,j,c,o,h,hq,hp=>by
  have hj:j<ps.length:=by omega
  rw[lξ hj]at hp;simp only[xE]at hp;rw[Dq];simp only[oR,cK (show((j:Int)<(ps.length:Int)) by omega),aO,aE,aP,aM hj,bf,dPa,wS (show j<bZ by unfold bZ;omega)];have hn:ps[j].r.Name=ps[j].name:=rfl;have hkd:ps[j].r.Kind=ps[j].kind:=rfl;have hle:∀(E:R) (K:Da→R),(cL (bV TypeDesc.string (Da.str ps[j].name) c.k.lk 0) fun y=>iG y E fun n=>cL c.k.lv[n]? K)=mO (cY c.le ps[j].name) E fun v=>K (.bool v):=fun E K=>lkS c.le ps[j].name Da.bool E K
  simp only[hn,hkd];rw[hle,lkS];unfold zp at hp;have step:∀(hd:zp c ps[j].name=false),(bq lay0.tab (m+1) 127 [.box 0 0,.p (.str ps[j].name),.p (.int .i64 ps[j].kind)] c.k.hp fun d o=>bb d fun r=>av r<|aL o fun u=>L_check_1 (bq lay0.tab (m+1)) (m+1) k0 k1 q (c.fs.map (fun p=> .str p.1),c.fs.map (fun p=>p.2.e),ps.map Pa.e,(ps.length:Int),((j+1:Nat):Int),mm,u))=match o with
   |none=>some (U1 none,[])
   |some c'=>k1 (c.fs.map (fun p=> .str p.1),c.fs.map (fun p=>p.2.e),ps.map Pa.e,(ps.length:Int),(ps.length:Int),mm,c'.k):=by
   intro hd;unfold zp at hd;rw[hd]at hp;simp only[Bool.false_eq_true,if_false]at hp;split at hp
   ·cases hp
   ·rename_i c1 h1;have e1:=Cz (n:=m) c c1 ps[j].name ps[j].kind h1;rw[aa e1];simp only[bQ,aC,oA];have hfs:c1.fs=c.fs:=(zo h1).fs;have:=Ov (m:=m) k0 k1 ps mm hk0 hl e q (j+1) c1 o (by omega) (by omega) hp;rw[hfs]at this;exact this
  unfold zp at step;cases hg:cY c.fs ps[j].name with
  |some v=>
   simp only[hg,if_true,lα]at hp;subst hp;simp only[VC,dVr,hk0]
  |none=>
   simp only[hg]at hp step;simp only[ZH];cases hh:cY c.le ps[j].name with
   |some b=>
    simp only[hh]at hp step;simp only[VC,aD];cases b
    ·rw[aQ];exact step rfl
    ·simp only[if_true,lα]at hp;subst hp;rw[aO,hk0]
   |none=>
    simp only[hh]at step;simp only[ZH];exact step trivial
theorem aax {f n:Nat}(pr:List Ac)(fs:List (List Nat×Vr))(m:Me)(o:Option CS)(h:oy f pr fs m=some o)(h1:pr.length<1501)(h2:∀a∈pr,a.methods.length<1501)(h3:m.nodes.length<1501)(h4:∀x∈m.nodes,x.kids.length<1501)(h5:m.params.length<1501):
  evFn lay0.tab (n+3*f+4504) 88 [.p (.agg [.slice 3 (pr.map Ac.e)]),.p (.map (fs.map fun p=> .str p.1) (fs.map fun p=>p.2.e)),.p m.e] []=some (U1 o,[]):=by
 apply aaH (n+3*f+4503) (pr.map Ac.e) (fs.map fun p=> .str p.1) (fs.map fun p=>p.2.e) m.r;unfold If;unfold oy at h;have hz:Sz (CS.init pr fs m):=⟨h1,h2,h3,h4⟩;cases hp:xE (CS.init pr fs m) m.params with
 |none=>rw[hp]at h;cases h
 |some o1=>
  rw[hp]at h;have hl:=fun k0 k1 (hk:∀x,k0 x=some (U1 none,[]))=>Ov (m:=n+3*f+4502) k0 k1 m.params m.r hk h5 m.params.length (n+3*f+4503) 0 (CS.init pr fs m) o1 (by omega) (by omega) (by rw[List.drop_zero];exact hp)
  have hlk:(List.length m.r.Params:Int)=m.params.length:=by show((m.params.map Pa.e).length:Int)=_;rw[lβ]
  rw[hlk];refine Eq.trans (hl _ _ fun x=>rfl) ?_;cases o1 with
  |none=>simp only[lα]at h;rw[←h]
  |some c1=>
   simp only at h;split at h
   ·cases h
   ·rename_i k c2 h2';simp only[lα]at h;rw[←h];have hz1:Sz c1:=hz.of (EO _ _ hp);have e:=RR f n c1 ((m.nodes.length:Int) - 1) false k c2 h2' hz1;have hln:ag .i64 (↑(List.length m.r.Nodes) - 1)=(m.nodes.length:Int) - 1:=by
     have:(List.length m.r.Nodes:Int)=m.nodes.length:=by show((m.nodes.map No.e).length:Int)=_;rw[lβ]
     rw[this];exact iD (by omega) (by omega)
    simp only[hln];rw[aa e];have htk:List.take c2.k.ln (List.drop 0 c2.k.lo)=c2.lo.map Pa.e:=by
     rw[List.drop_zero];show List.take c2.lo.length (c2.lo.map Pa.e)=_;have:=List.take_length (l:=c2.lo.map Pa.e);rwa [lβ]at this
    simp only[ba,bF,oA,htk];rfl
end
end Go.Ab
end
section
namespace Go.Ab
open Go
noncomputable section
mutual
inductive GP (ns:List No):Nat→Nat→Prop
 |mk {lo i:Nat} {x:No}:ns[i]?=some x→Ch ns lo x.kids i→GP ns lo i
inductive Ch (ns:List No):Nat→List Int→Nat→Prop
 |nil {lo:Nat}:Ch ns lo [] lo
 |cons {lo k hi:Nat} {r:List Int}:GP ns lo k→Ch ns (k+1) r hi→Ch ns lo ((k:Int)::r) hi
end
mutual
theorem GP.le {ns:List No}{lo i:Nat}:GP ns lo i→lo≤i
 | .mk _ h=>h.le
theorem Ch.le {ns:List No}{lo hi:Nat}{l:List Int}:Ch ns lo l hi→lo≤hi
 | .nil=>Nat.le_refl _
 | .cons h g=>by have:=h.le;have:=g.le;omega
end
theorem GP.lt {ns:List No}{lo i:Nat}(h:GP ns lo i):i<ns.length:=by
 cases h with
 |mk hx _=>
  rcases lπ i ns.length with h1|h1
  ·exact h1
  ·rw[lθ h1]at hx;cases hx
theorem MN {ns:List No}:∀(a b:List Int) {lo hi:Nat},Ch ns lo (a++b) hi→∃mid,Ch ns lo a mid∧Ch ns mid b hi
 |[],b,lo,hi,h=>⟨lo,.nil,h⟩
 |x::a,b,lo,hi,h=>by
  cases h with
  |cons h1 h2=>
   obtain⟨mid,h3,h4⟩:=MN a b h2;exact⟨mid,.cons h1 h3,h4⟩
theorem Se {ns:List No}:∀(a b:List Int) {lo mid hi:Nat},Ch ns lo a mid→Ch ns mid b hi→Ch ns lo (a++b) hi
 |[],b,lo,mid,hi,h,g=>by cases h;exact g
 |x::a,b,lo,mid,hi,h,g=>by
  cases h with
  |cons h1 h2=>exact .cons h1 (Se a b h2 g)
def dV:List No→Nat→List Int→Bool
 |[],_,roots=>decide (roots.length=1)
 |x::r,i,roots=>if roots.length<x.kids.length then false else if roots.drop (roots.length - x.kids.length)=x.kids then dV r (i+1) (roots.take (roots.length - x.kids.length)++[(i:Int)])else false
theorem tv {ns:List No}:∀(r:List No) (i:Nat) (roots:List Int),ns.drop i=r→i≤ns.length→Ch ns 0 roots i→dV r i roots=true→∃k:Nat,GP ns 0 k∧k+1=ns.length
 |[],i,roots,hr,hi,hc,h=>by
  simp only[dV,lη]at h;have hl:i=ns.length:=by
   have:=congrArg List.length hr;simp at this;omega
  match roots,h,hc with
  |[k],_,hc=>
   cases hc with
   |cons h1 h2=>cases h2;exact⟨_,h1,hl⟩
 |x::r,i,roots,hr,hi,hc,h=>by
  simp only[dV]at h;split at h
  ·cases h
  ·split at h
   ·rename_i hlen hdrop;have hlt:i<ns.length:=by
     rcases lπ i ns.length with h1|h1
     ·exact h1
     ·rw[qβ h1]at hr;cases hr
    have hx:ns[i]?=some x:=by
     rw[lξ hlt]at hr;rw[lγ hlt];simp only[lκ]at hr;rw[hr.1]
    have hr':ns.drop (i+1)=r:=by
     rw[lξ hlt]at hr;simp only[lκ]at hr;exact hr.2
    rw[←List.take_append_drop (roots.length - x.kids.length) roots,hdrop]at hc;obtain⟨mid,h1,h2⟩:=MN _ _ hc;exact tv r (i+1) _ hr' hlt (Se _ _ h1 (.cons (.mk hx h2) .nil)) h
   ·cases h
structure ad5 (x:No):Prop where
 one:x.op=4∨x.op=7∨x.op=8∨x.op=9∨x.op=11∨x.op=12∨x.op=17→1≤x.kids.length
 two:x.op=5→2≤x.kids.length
theorem sY (c:CS)(i e:Int):(iy c i e).lo=c.lo:=by unfold iy;split<;>rfl
theorem eP (c:CS)(i:Int)(b:Bool):(cj c i b).lo=c.lo:=by
 unfold cj;split
 ·rfl
 ·exact sY _ _ _
theorem RQ (c:CS)(i:Int)(s:List Nat):(lQ c i s).2.lo=c.lo:=by
 unfold lQ;split
 ·rfl
 ·exact sY _ _ _
theorem SN (c:CS)(i:Int)(x:No):(qp c i x).lo=c.lo:=by
 unfold qp;split
 ·exact sY _ _ _
 split
 ·exact sY _ _ _
 ·rfl
theorem afg (c:CS)(i e:Int):(zu c i e).lo=c.lo:=by
 unfold zu;split
 ·rfl
 ·exact sY _ _ _
theorem MU (c:CS)(s:List Nat)(k:Int)(h:c.lo.length<1000000000):∃c',mF c s k=some c'∧c'.lo=c.lo++[⟨s,k⟩]:=by
 unfold mF;rw[if_pos h];exact⟨_,rfl,rfl⟩
theorem acr (c:CS)(i:Int)(x:No)(k:Int)(h:c.lo.length<1000000000):∃c',xi c i x k=some c'∧c'.lo.length=c.lo.length+1:=by
 unfold xi;obtain⟨c1,h1,h2⟩:=MU (cj (qp c i x) i (decide (k=x.v.k))) x.name x.v.k (by rw[eP,SN];exact h);rw[h1];exact⟨_,rfl,by rw[RQ,h2,eP,SN];simp⟩
theorem afV (c:CS)(i:Int)(x:No)(ks:List Int)(har:ad5 x)(hk:ks.length=x.kids.length)(hl:c.lo.length<1000000000):∃k c',ZY c i x ks=some (k,c')∧c'.lo.length≤c.lo.length+1:=by
 unfold ZY;by_cases h7:x.op=7
 ·rw[if_pos h7];unfold Qx;have:=har.one (by omega);cases qN c.pr x.name x.v.s with
  |none=>exact⟨_,_,rfl,by rw[sY];omega⟩
  |some m=>match ks,hk with
   |[],hk=>simp at hk;omega
   |k::r,_=>exact⟨_,_,rfl,by rw[eP];omega⟩
 rw[if_neg h7];by_cases h6:x.op≤6
 ·rw[if_pos h6];unfold D0;by_cases h1:x.op=1
  ·rw[if_pos h1];exact⟨_,_,rfl,by omega⟩
  rw[if_neg h1];by_cases h3:x.op=3
  ·rw[if_pos h3];exact⟨_,_,rfl,by omega⟩
  rw[if_neg h3];by_cases h2:x.op=2
  ·rw[if_pos h2];exact⟨_,_,rfl,by rw[RQ];omega⟩
  rw[if_neg h2];by_cases h4:x.op=4
  ·rw[if_pos h4];have:=har.one (by omega);match ks,hk with
   |[],hk=>simp at hk;omega
   |k::r,_=>exact⟨_,_,rfl,by rw[eP];omega⟩
  rw[if_neg h4];by_cases h5:x.op=5
  ·rw[if_pos h5];have:=har.two h5;match ks,hk with
   |[],hk=>simp at hk;omega
   |[k],hk=>simp at hk;omega
   |k::k'::r,_=>exact⟨_,_,rfl,by rw[eP];omega⟩
  rw[if_neg h5];exact⟨_,_,rfl,by rw[afg];omega⟩
 rw[if_neg h6];have key:∃c',xR c i x ks=some c'∧c'.lo.length≤c.lo.length+1:=by
  unfold xR;by_cases h8:x.op=8
  ·rw[if_pos h8];have:=har.one (by omega);match ks,hk with
   |[],hk=>simp at hk;omega
   |k::r,_=>
    obtain⟨c1,h1,h2⟩:=acr c i x k hl;exact⟨c1,h1,by omega⟩
  rw[if_neg h8];by_cases h9:x.op=9
  ·rw[if_pos h9];have:=har.one (by omega);match ks,hk with
   |[],hk=>simp at hk;omega
   |k::r,_=>exact⟨_,rfl,by rw[eP,RQ];omega⟩
  rw[if_neg h9];by_cases h11:x.op=11∨x.op=12
  ·rw[if_pos h11];have:=har.one (by omega);match ks,hk with
   |[],hk=>simp at hk;omega
   |k::r,_=>exact⟨_,rfl,by rw[eP];omega⟩
  rw[if_neg h11];by_cases h13:x.op=13
  ·rw[if_pos h13];match ks with
   |[]=>exact⟨_,rfl,by rw[eP];omega⟩
   |k::r=>exact⟨_,rfl,by rw[eP,eP];omega⟩
  rw[if_neg h13];by_cases h15:x.op=15
  ·rw[if_pos h15];exact⟨_,rfl,by rw[eP];omega⟩
  rw[if_neg h15];by_cases h16:x.op=16
  ·rw[if_pos h16];exact⟨_,rfl,by rw[eP];omega⟩
  rw[if_neg h16];by_cases h17:x.op=17
  ·rw[if_pos h17];have:=har.one (by omega);match ks,hk with
   |[],hk=>simp at hk;omega
   |k::r,_=>exact⟨_,rfl,by rw[eP];omega⟩
  rw[if_neg h17];exact⟨_,rfl,by omega⟩
 obtain⟨c1,h1,h2⟩:=key;rw[h1];exact⟨_,_,rfl,h2⟩
theorem acH (c:CS)(i:Int)(x:No)(k:Int):(iA c i x k).lo=c.lo:=by unfold iA;split<;>rfl
def Wk (ns:List No)(f:Nat):Prop:=∀(lo i:Nat),GP ns lo i→i<f→∀(c:CS) (d:Bool),c.ns=ns→c.lo.length+(i+1 - lo)≤150100→∃k c',j5 f c (i:Int) d=some (k,c')∧c'.lo.length≤c.lo.length+(i+1 - lo)
theorem Ns {ns:List No}{f:Nat}(hv:Wk ns f):∀(l:List Int) (lo hi:Nat),Ch ns lo l hi→hi≤f→∀c:CS,c.ns=ns→c.lo.length+(hi - lo)≤150100→∃ks c',gR (fun c k=>j5 f c k false) c l=some (ks,c')∧c'.lo.length≤c.lo.length+(hi - lo)
 |[],lo,hi,h,_,c,_,_=>by cases h;exact⟨[],c,rfl,by omega⟩
 |_::l,lo,hi,h,hf,c,hc,hb=>by
  cases h with
  | @cons _ k _ _ h1 h2=>
   have l1:=h1.le;have l2:=h2.le;obtain⟨x,c1,e1,b1⟩:=hv lo k h1 (by omega) c false hc (by omega);have s1:=mY f c k false _ e1;obtain⟨xs,c2,e2,b2⟩:=Ns hv l (k+1) hi h2 hf c1 (s1.ns.trans hc) (by omega);refine⟨x::xs,c2,?_,by omega⟩
   simp only[gR,e1,e2]
theorem R7 {ns:List No}{f:Nat}(hv:Wk ns f):∀(l:List Int) (lo hi:Nat),Ch ns lo l hi→hi≤f→∀(c:CS) (d:Bool),c.ns=ns→c.lo.length+(hi - lo)≤150100→∃c',rH (j5 f) c l d=some c'∧c'.lo.length≤c.lo.length+(hi - lo)
 |[],lo,hi,h,_,c,d,_,_=>by cases h;exact⟨c,rfl,by omega⟩
 |_::l,lo,hi,h,hf,c,d,hc,hb=>by
  cases h with
  | @cons _ k _ _ h1 h2=>
   have l1:=h1.le;have l2:=h2.le;obtain⟨x,c1,e1,b1⟩:=hv lo k h1 (by omega) c d hc (by omega);have s1:=mY f c k d _ e1;obtain⟨c2,e2,b2⟩:=R7 hv l (k+1) hi h2 hf c1 (d||jv c1.ns k) (s1.ns.trans hc) (by omega);refine⟨c2,?_,by omega⟩
   simp only[rH,e1];exact e2
theorem Lm {ns:List No}(har:∀x∈ns,ad5 x):∀f,Wk ns f
 |0,lo,i,hs,hi,c,d,hc,hb=>by omega
 |f+1,lo,i,hs,hi,c,d,hc,hb=>by
  have hlt:=hs.lt;have hle:=hs.le;cases hs with
  | @mk _ _ x hx hch=>
   have hx':jI c.ns (i:Int)=some x:=by rw[hc,nU];exact hx
   have hxm:x∈ns:=mζ hx;simp only[j5,hx'];by_cases h18:x.op=18
   ·rw[if_pos h18];obtain⟨c1,e1,b1⟩:=R7 (Lm har f) x.kids lo i hch (by omega) c false hc (by omega);unfold qi;rw[e1];refine⟨0,_,rfl,?_⟩;split
    ·rw[eP];show c1.lo.length≤_;omega
    ·show c1.lo.length≤_;omega
   ·rw[if_neg h18];obtain⟨ks,c1,e1,b1⟩:=Ns (Lm har f) x.kids lo i hch (by omega) c hc (by omega);rw[e1];simp only;split
    ·obtain⟨k,c2,e2,b2⟩:=afV c1 (i:Int) x ks (har x hxm) (Ei _ _ e1) (by omega);rw[e2];refine⟨_,_,rfl,?_⟩;rw[acH,eP];omega
    ·exact⟨_,_,rfl,by omega⟩
structure Cy (ns:List No):Prop where
 tree:∃k:Nat,GP ns 0 k∧k+1=ns.length
 ar:∀x∈ns,ad5 x
 lets:∀x∈ns,x.op=8∨x.op=9→∀k∈x.kids,∀y,jI ns k=some y→y.op≤7
theorem Tc:∀(l:List Pa) (c:CS),c.lo.length+l.length<1501→∃o,xE c l=some o∧∀c',o=some c'→c'.lo.length=c.lo.length+l.length
 |[],c,h=>⟨some c,rfl,fun c' e=>by simp only[lα]at e;subst e;simp⟩
 |p::l,c,h=>by
  simp only[xE];split
  ·exact⟨none,rfl,fun c' e=>by cases e⟩
  ·obtain⟨c1,h1,h2⟩:=MU c p.name p.kind (by omega);rw[h1];have hl:c1.lo.length=c.lo.length+1:=by rw[h2];simp
   simp only[List.length_cons]at h;obtain⟨o,h3,h4⟩:=Tc l c1 (by omega);exact⟨o,h3,fun c' e=>by rw[h4 c' e];simp;omega⟩
theorem UZ (pr:List Ac)(fs:List (List Nat×Vr))(m:Me)(hb:Cy m.nodes)(hn:m.nodes.length<1501)(hp:m.params.length<1501):∃o,oy 1501 pr fs m=some o:=by
 unfold oy;obtain⟨o,h1,h2⟩:=Tc m.params (CS.init pr fs m) (by simp[CS.init];exact hp);rw[h1];cases o with
 |none=>exact⟨_,rfl⟩
 |some c1=>
  obtain⟨k,hs,hk⟩:=hb.tree;have hst:=EO _ _ h1;have hl:=h2 c1 rfl;simp[CS.init]at hl;obtain⟨k',c2,e,_⟩:=Lm hb.ar 1501 0 k hs (by omega) c1 false (hst.ns) (by omega);have:((m.nodes.length:Int) - 1)=(k:Int):=by omega
  simp only[this,e];exact⟨_,rfl⟩
end
end Go.Ab
end
section
namespace Go.Ab
open Go
set_option maxRecDepth 100000
noncomputable section
theorem tj (x:No):x.r.Op=x.op:=rfl
theorem Fq (x:No):x.r.Name=x.name:=rfl
theorem Hw (x:No):x.r.Value_Kind=x.v.k:=rfl
theorem Lt (x:No):x.r.Value_N=x.v.n:=rfl
theorem J6 (x:No):x.r.Value_S=x.v.s:=rfl
theorem Lu (x:No):x.r.Value_I=x.v.I.map iE:=rfl
theorem Lv (x:No):x.r.Value_L=x.v.L.map .str:=rfl
theorem pF (x:No):x.r.Kids=x.kids.map iE:=rfl
theorem f4 {α:Type}(l:List α)(p:α→Bool):l.all p=(l.findIdx? fun x=>!p x).isNone:=by
 rw[←rG];simp
def dU (o:Int):Bool:=bu 1 o&&bu o 6
def BZ (o:Int):Bool:=bu 8 o&&bu o 17
def zh (o:Int):Bool:=aw o 7
def se (o:Int):Bool:=dU o||zh o
def DI (o:Int):Bool:=aw o 18
def cE (ns:List No)(k:Int):Int:=((jI ns k).map fun y=>y.op).getD 0
def ef (x:No)(a b:Int):Bool:=bu a (x.kids.length:Int)&&bu (x.kids.length:Int) b
def dE (ns:List No)(x:No)(j:Nat)(f:Int→Bool):Bool:=(x.kids.drop j).all fun k=>f (cE ns k)
theorem oi {n:Nat}(k:Int):evFn lay0.tab (n+1) 221 [.p (.int .i64 k)] []=some (.p (.bool (dU k)),[]):=by
 apply FK n k;simp only[ou,bt,dH,gm,dU,Bool.and_true]
theorem H7 {n:Nat}(k:Int):evFn lay0.tab (n+1) 225 [.p (.int .i64 k)] []=some (.p (.bool (BZ k)),[]):=by
 apply IR n k;simp only[pP,bt,dH,gm,BZ,Bool.and_true]
theorem Wx {n:Nat}(k:Int):evFn lay0.tab (n+1) 223 [.p (.int .i64 k)] []=some (.p (.bool (zh k)),[]):=by
 apply WV n k;simp only[C3,bt,dH,zh]
theorem Wy {n:Nat}(k:Int):evFn lay0.tab (n+1) 224 [.p (.int .i64 k)] []=some (.p (.bool (DI k)),[]):=by
 apply WW n k;simp only[C4,bt,dH,DI]
theorem Ww {n:Nat}(k:Int):evFn lay0.tab (n+2) 222 [.p (.int .i64 k)] []=some (.p (.bool (se k)),[]):=by
 apply WU (n+1) k;simp only[C2,aa (oi (n:=n) k),ba,aD,aC,bt,dH,UT,Bool.or_false,se,zh]
theorem Wv {n:Nat}(x:No)(a b:Int):evFn lay0.tab (n+1) 219 [.p (.int .i64 a),.p (.int .i64 b),.box 0 0] [x.r.b]=some (.p (.bool (ef x a b)),[x.r.b]):=by
 apply WT n x.r a b;simp only[C1,pF,lβ,ef];cases bu a (x.kids.length:Int)<;>cases bu (x.kids.length:Int) b<;>rfl
theorem T4 {n:Nat}(ns:List No)(x:No)(j:Nat)(hj:j≤x.kids.length)(hk:∀k∈x.kids,∃y,jI ns k=some y)(h:x.kids.length<1501):evFn lay0.tab (n+1504) 220 [.p (.int .i64 j),.p (.fn 221 []),.box 0 0,.box 1 0] [x.r.b,.box [.p (.slice 8 (ns.map No.e))]]=some (.p (.bool (dE ns x j dU)),[x.r.b,.box [.p (.slice 8 (ns.map No.e))]]):=by
 apply UA (n+1503) x.r (ns.map No.e) j;unfold yV dE;have hd:List.take ((x.kids.map iE).length - Int.toNat (j:Int)) (List.drop (Int.toNat (j:Int)) (x.kids.map iE))=(x.kids.drop j).map iE:=by
  rw[Int.toNat_natCast,mι (by simp),List.map_drop]
 simp only[pF,hd,bJ,show(0:Int)≤(j:Int) by omega,show(j:Int)≤((x.kids.map iE).length:Int) by rw[lβ];omega,decide_true,aO];have hkd:∀k∈x.kids.drop j,∃y,jI ns k=some y:=fun k hm=>hk k (mπ hm)
 have hld:(x.kids.drop j).length<1501:=by simp;omega
 generalize x.kids.drop j=ks at hkd hld ⊢
 rw[lβ];refine(aV ks (fun q i=>nK _ (n+1503) _ _ q (ks.map iE,(ks.length:Int),i,x.r,ns.map No.e)) (fun k=>!dU (cE ns k)) (fun i=>some (.p (.bool false),[x.r.b,.box [.p (.slice 8 (ns.map No.e))]])) (some (.p (.bool true),[x.r.b,.box [.p (.slice 8 (ns.map No.e))]])) (fun q i hi=>?_) (fun q=>?_) (by omega)).trans ?_
 ·rw[wk];obtain⟨y,hy⟩:=hkd ks[i] (lι _);simp only[kW,cK (show((i:Int)<(ks.length:Int)) by omega),aO,aE,aP,aM hi,bf,dI,hy,u0,tj,wS (show i<bZ by unfold bZ;omega),aa (oi (n:=n+1502) y.op),ba,aD,aC,bG,cE,Option.map_some,Option.getD_some];cases dU y.op<;>rfl
 ·rw[wk];simp only[kW,cb,aQ]
 ·rw[f4];cases ks.findIdx? fun k=>!dU (cE ns k)<;>rfl
theorem T5 {n:Nat}(ns:List No)(x:No)(j:Nat)(hj:j≤x.kids.length)(hk:∀k∈x.kids,∃y,jI ns k=some y)(h:x.kids.length<1501):evFn lay0.tab (n+1504) 220 [.p (.int .i64 j),.p (.fn 225 []),.box 0 0,.box 1 0] [x.r.b,.box [.p (.slice 8 (ns.map No.e))]]=some (.p (.bool (dE ns x j BZ)),[x.r.b,.box [.p (.slice 8 (ns.map No.e))]]):=by
 apply UB (n+1503) x.r (ns.map No.e) j;unfold yW dE;have hd:List.take ((x.kids.map iE).length - Int.toNat (j:Int)) (List.drop (Int.toNat (j:Int)) (x.kids.map iE))=(x.kids.drop j).map iE:=by
  rw[Int.toNat_natCast,mι (by simp),List.map_drop]
 simp only[pF,hd,bJ,show(0:Int)≤(j:Int) by omega,show(j:Int)≤((x.kids.map iE).length:Int) by rw[lβ];omega,decide_true,aO];have hkd:∀k∈x.kids.drop j,∃y,jI ns k=some y:=fun k hm=>hk k (mπ hm)
 have hld:(x.kids.drop j).length<1501:=by simp;omega
 generalize x.kids.drop j=ks at hkd hld ⊢
 rw[lβ];refine(aV ks (fun q i=>nL _ (n+1503) _ _ q (ks.map iE,(ks.length:Int),i,x.r,ns.map No.e)) (fun k=>!BZ (cE ns k)) (fun i=>some (.p (.bool false),[x.r.b,.box [.p (.slice 8 (ns.map No.e))]])) (some (.p (.bool true),[x.r.b,.box [.p (.slice 8 (ns.map No.e))]])) (fun q i hi=>?_) (fun q=>?_) (by omega)).trans ?_
 ·rw[wn];obtain⟨y,hy⟩:=hkd ks[i] (lι _);simp only[kX,cK (show((i:Int)<(ks.length:Int)) by omega),aO,aE,aP,aM hi,bf,dI,hy,u0,tj,wS (show i<bZ by unfold bZ;omega),aa (H7 (n:=n+1502) y.op),ba,aD,aC,bG,cE,Option.map_some,Option.getD_some];cases BZ y.op<;>rfl
 ·rw[wn];simp only[kX,cb,aQ]
 ·rw[f4];cases ks.findIdx? fun k=>!BZ (cE ns k)<;>rfl
theorem T1 {n:Nat}(ns:List No)(x:No)(j:Nat)(hj:j≤x.kids.length)(hk:∀k∈x.kids,∃y,jI ns k=some y)(h:x.kids.length<1501):evFn lay0.tab (n+1504) 220 [.p (.int .i64 j),.p (.fn 222 []),.box 0 0,.box 1 0] [x.r.b,.box [.p (.slice 8 (ns.map No.e))]]=some (.p (.bool (dE ns x j se)),[x.r.b,.box [.p (.slice 8 (ns.map No.e))]]):=by
 apply Ux (n+1503) x.r (ns.map No.e) j;unfold yS dE;have hd:List.take ((x.kids.map iE).length - Int.toNat (j:Int)) (List.drop (Int.toNat (j:Int)) (x.kids.map iE))=(x.kids.drop j).map iE:=by
  rw[Int.toNat_natCast,mι (by simp),List.map_drop]
 simp only[pF,hd,bJ,show(0:Int)≤(j:Int) by omega,show(j:Int)≤((x.kids.map iE).length:Int) by rw[lβ];omega,decide_true,aO];have hkd:∀k∈x.kids.drop j,∃y,jI ns k=some y:=fun k hm=>hk k (mπ hm)
 have hld:(x.kids.drop j).length<1501:=by simp;omega
 generalize x.kids.drop j=ks at hkd hld ⊢
 rw[lβ];refine(aV ks (fun q i=>nH _ (n+1503) _ _ q (ks.map iE,(ks.length:Int),i,x.r,ns.map No.e)) (fun k=>!se (cE ns k)) (fun i=>some (.p (.bool false),[x.r.b,.box [.p (.slice 8 (ns.map No.e))]])) (some (.p (.bool true),[x.r.b,.box [.p (.slice 8 (ns.map No.e))]])) (fun q i hi=>?_) (fun q=>?_) (by omega)).trans ?_
 ·rw[wh];obtain⟨y,hy⟩:=hkd ks[i] (lι _);simp only[kT,cK (show((i:Int)<(ks.length:Int)) by omega),aO,aE,aP,aM hi,bf,dI,hy,u0,tj,wS (show i<bZ by unfold bZ;omega),aa (Ww (n:=n+1501) y.op),ba,aD,aC,bG,cE,Option.map_some,Option.getD_some];cases se y.op<;>rfl
 ·rw[wh];simp only[kT,cb,aQ]
 ·rw[f4];cases ks.findIdx? fun k=>!se (cE ns k)<;>rfl
theorem T2 {n:Nat}(ns:List No)(x:No)(j:Nat)(hj:j≤x.kids.length)(hk:∀k∈x.kids,∃y,jI ns k=some y)(h:x.kids.length<1501):evFn lay0.tab (n+1504) 220 [.p (.int .i64 j),.p (.fn 223 []),.box 0 0,.box 1 0] [x.r.b,.box [.p (.slice 8 (ns.map No.e))]]=some (.p (.bool (dE ns x j zh)),[x.r.b,.box [.p (.slice 8 (ns.map No.e))]]):=by
 apply Uy (n+1503) x.r (ns.map No.e) j;unfold yT dE;have hd:List.take ((x.kids.map iE).length - Int.toNat (j:Int)) (List.drop (Int.toNat (j:Int)) (x.kids.map iE))=(x.kids.drop j).map iE:=by
  rw[Int.toNat_natCast,mι (by simp),List.map_drop]
 simp only[pF,hd,bJ,show(0:Int)≤(j:Int) by omega,show(j:Int)≤((x.kids.map iE).length:Int) by rw[lβ];omega,decide_true,aO];have hkd:∀k∈x.kids.drop j,∃y,jI ns k=some y:=fun k hm=>hk k (mπ hm)
 have hld:(x.kids.drop j).length<1501:=by simp;omega
 generalize x.kids.drop j=ks at hkd hld ⊢
 rw[lβ];refine(aV ks (fun q i=>nI _ (n+1503) _ _ q (ks.map iE,(ks.length:Int),i,x.r,ns.map No.e)) (fun k=>!zh (cE ns k)) (fun i=>some (.p (.bool false),[x.r.b,.box [.p (.slice 8 (ns.map No.e))]])) (some (.p (.bool true),[x.r.b,.box [.p (.slice 8 (ns.map No.e))]])) (fun q i hi=>?_) (fun q=>?_) (by omega)).trans ?_
 ·rw[wi];obtain⟨y,hy⟩:=hkd ks[i] (lι _);simp only[kU,cK (show((i:Int)<(ks.length:Int)) by omega),aO,aE,aP,aM hi,bf,dI,hy,u0,tj,wS (show i<bZ by unfold bZ;omega),aa (Wx (n:=n+1502) y.op),ba,aD,aC,bG,cE,Option.map_some,Option.getD_some];cases zh y.op<;>rfl
 ·rw[wi];simp only[kU,cb,aQ]
 ·rw[f4];cases ks.findIdx? fun k=>!zh (cE ns k)<;>rfl
theorem T3 {n:Nat}(ns:List No)(x:No)(j:Nat)(hj:j≤x.kids.length)(hk:∀k∈x.kids,∃y,jI ns k=some y)(h:x.kids.length<1501):evFn lay0.tab (n+1504) 220 [.p (.int .i64 j),.p (.fn 224 []),.box 0 0,.box 1 0] [x.r.b,.box [.p (.slice 8 (ns.map No.e))]]=some (.p (.bool (dE ns x j DI)),[x.r.b,.box [.p (.slice 8 (ns.map No.e))]]):=by
 apply Uz (n+1503) x.r (ns.map No.e) j;unfold yU dE;have hd:List.take ((x.kids.map iE).length - Int.toNat (j:Int)) (List.drop (Int.toNat (j:Int)) (x.kids.map iE))=(x.kids.drop j).map iE:=by
  rw[Int.toNat_natCast,mι (by simp),List.map_drop]
 simp only[pF,hd,bJ,show(0:Int)≤(j:Int) by omega,show(j:Int)≤((x.kids.map iE).length:Int) by rw[lβ];omega,decide_true,aO];have hkd:∀k∈x.kids.drop j,∃y,jI ns k=some y:=fun k hm=>hk k (mπ hm)
 have hld:(x.kids.drop j).length<1501:=by simp;omega
 generalize x.kids.drop j=ks at hkd hld ⊢
 rw[lβ];refine(aV ks (fun q i=>nJ _ (n+1503) _ _ q (ks.map iE,(ks.length:Int),i,x.r,ns.map No.e)) (fun k=>!DI (cE ns k)) (fun i=>some (.p (.bool false),[x.r.b,.box [.p (.slice 8 (ns.map No.e))]])) (some (.p (.bool true),[x.r.b,.box [.p (.slice 8 (ns.map No.e))]])) (fun q i hi=>?_) (fun q=>?_) (by omega)).trans ?_
 ·rw[wj];obtain⟨y,hy⟩:=hkd ks[i] (lι _);simp only[kV,cK (show((i:Int)<(ks.length:Int)) by omega),aO,aE,aP,aM hi,bf,dI,hy,u0,tj,wS (show i<bZ by unfold bZ;omega),aa (Wy (n:=n+1502) y.op),ba,aD,aC,bG,cE,Option.map_some,Option.getD_some];cases DI y.op<;>rfl
 ·rw[wj];simp only[kV,cb,aQ]
 ·rw[f4];cases ks.findIdx? fun k=>!DI (cE ns k)<;>rfl
def Np (ns:List No)(x:No)(m:Int):Bool:=ef x 2 m&&(dU (cE ns (x.kids.headD 0))&&dE ns x 1 DI)
def ci (ns:List No)(x:No):Bool:=bif aw x.op 1 then ef x 0 0 else bif aw x.op 2 then ef x 0 0 else bif aw x.op 3 then ef x 0 0 else bif aw x.op 14 then ef x 0 0 else bif aw x.op 4 then ef x 1 1&&dE ns x 0 dU else bif aw x.op 17 then ef x 1 1&&dE ns x 0 dU else bif aw x.op 5 then ef x 2 2&&dE ns x 0 dU else bif aw x.op 15 then ef x 2 2&&dE ns x 0 dU else bif aw x.op 16 then ef x 3 3&&dE ns x 0 dU else bif aw x.op 6 then ef x 0 16&&dE ns x 0 dU else bif aw x.op 7 then ef x 1 17&&dE ns x 0 dU else bif aw x.op 8 then ef x 1 1&&dE ns x 0 se else bif aw x.op 9 then ef x 1 1&&dE ns x 0 se else bif aw x.op 10 then ef x 1 1&&dE ns x 0 zh else bif aw x.op 11 then(bif aw x.op 12 then Np ns x 2 else Np ns x 3)else bif aw x.op 12 then(bif aw x.op 12 then Np ns x 2 else Np ns x 3)else bif aw x.op 13 then ef x 0 1&&dE ns x 0 dU else bif aw x.op 18 then dE ns x 0 BZ else false
theorem aaB {n:Nat}(ns:List No)(x:No)(hk:∀k∈x.kids,∃y,jI ns k=some y)(h:x.kids.length<1501):evFn lay0.tab (n+1505) 177 [.p (.slice 8 (ns.map No.e)),.p x.e] []=some (.p (.bool (ci ns x)),[]):=by
 apply aaP (n+1504) (ns.map No.e) x.r;have h1:∀(a b:Int) (K:KV),bq lay0.tab (n+1504) 219 [.p (.int .i64 a),.p (.int .i64 b),.box 0 0] [x.r.b] K=K (.p (.bool (ef x a b))) [x.r.b]:=fun a b=>aa (Wv (n:=n+1503) x a b)
 have hE:=aa (T4 (n:=n) ns x 0 (Nat.zero_le _) hk h);have hS:=aa (T5 (n:=n) ns x 0 (Nat.zero_le _) hk h);have hA:=aa (T1 (n:=n) ns x 0 (Nat.zero_le _) hk h);have hB:=aa (T2 (n:=n) ns x 0 (Nat.zero_le _) hk h);simp only[show((0:Nat):Int)=0 from rfl]at hE hS hA hB;have hx:∀(o:Int) (K:KV),bq lay0.tab (n+1504) 221 [.p (.int .i64 o)] [] K=K (.p (.bool (dU o))) []:=fun o=>aa (oi (n:=n+1503) o)
 have hif:∀m,(iL (ef x 2 m) (cL (bw x.r.Kids 0) fun x133=>aU .i64 x133 fun i134=>cL (bw (ns.map No.e) i134) fun x135=>aN x135 fun u136=>bq lay0.tab (n+1504) 221 [(.p (.int .i64 u136.Op))] [] fun d137 o138=>dP d137 fun x139=>aA x139 fun b140=>av o138<|iL b140 (bq lay0.tab (n+1504) 220 [(.p (.int .i64 1)),(.p (.fn 224 [])),(.box 0 0),(.box 1 0)] [x.r.b,(.box [(.p (.slice 8 (ns.map No.e)))])] fun d141 o142=>dP d141 fun x143=>aA x143 fun b144=>bj [x.r.b,(.box [(.p (.slice 8 (ns.map No.e)))])] o142<|iL b144 (some ((.p (.bool true)),[])) (some ((.p (.bool false)),[]))) (some ((.p (.bool false)),[]))) (some ((.p (.bool false)),[])))=some (.p (.bool (Np ns x m)),[]):=by
  intro m;unfold Np;cases hks:x.kids with
  |nil=>
   have:ef x 2 m=false:=by unfold ef;rw[hks];rfl
   rw[this];rfl
  |cons k r=>
   obtain⟨y,hy⟩:=hk k (by rw[hks];exact lτ ..);have hC:=aa (T3 (n:=n) ns x 1 (by rw[hks];simp) hk h);simp only[show((1:Nat):Int)=1 from rfl]at hC;simp only[pF,hks,aE,aP,cM,bf,dI,hy,u0,tj,hx,hC,ba,aD,aC,bG,bt,dH,gm,Bool.and_true,List.headD_cons,cE,Option.map_some,Option.getD_some]
 simp only[In,tj,h1,ba,aD,bG,hif];simp only[hE,hS,hA,hB,ba,aD,bG,bt,dH,gm,Bool.and_true,ci]
def binO:List (List Nat):=[[124,124],[38,38],[61,61],[33,61],[60],[60,61],[62],[62,61],[43],[45],[42],[47],[37]]
def v0:Va:=⟨0,0,[],[],[]⟩
def gi (x:No)(b:Bool):Bool:=bif aw x.op 4 then(bif aK x.name [45]then b else bif aK x.name [33]then b else false)else bif aw x.op 5 then(bif binO.any (fun t=>aK x.name t)then b else false)else bif aw x.op 6 then(bif cH x.name then b else bif aK x.name [105,110,116,115]then b else bif aK x.name [115,116,114,105,110,103,115]then b else false)else bif aw x.op 7 then(bif cH x.name then bif cH x.v.s then fU x.v ⟨0,0,x.v.s,[],[]⟩else false else false)else bif aw x.op 8 then(bif cH x.name then bif gj x.v.k then fU x.v ⟨x.v.k,0,[],[],[]⟩else false else false)else bif aK x.name []then b else false
def Si (x:No):Bool:=bif aK x.name []then(bif tK x.v then(bif aw x.v.k 1 then bif bu 0 x.v.n then true else bif aw x.v.k 2 then true else aw x.v.k 3 else bif aw x.v.k 2 then true else aw x.v.k 3)else false)else false
def dw (x:No):Bool:=bif aw x.op 1 then Si x else bif aw x.op 2 then(bif aw x.op 2 then(bif cH x.name then fU x.v v0 else false)else gi x (fU x.v v0))else bif aw x.op 9 then(bif cH x.name then fU x.v v0 else false)else gi x (fU x.v v0)
theorem LH {n:Nat}(x:No):evFn lay0.tab (n+1507) 178 [.p x.e] []=some (.p (.bool (dw x)),[]):=by
 apply Ml (n+1506) x.r;have h1:=aa (H6 (n:=n+1) x.v v0 (.inr (by decide)) (.inr (by decide)));have h2:=aa (H6 (n:=n+1) x.v ⟨0,0,x.v.s,[],[]⟩ (.inr (by simp)) (.inr (by simp)));have h3:=aa (H6 (n:=n+1) x.v ⟨x.v.k,0,[],[],[]⟩ (.inr (by simp)) (.inr (by simp)));have h4:=aa (lR (n:=n) x.name);have h5:=aa (lR (n:=n) x.v.s);have h6:=aa (LI (n:=n+3) x.v);have h7:=aa (Wt (n:=n+2) binO x.name (by decide));have h8:=aa (sK (n:=n+1505) x.v.k);simp only[Va.c,v0,List.map_nil]at h1 h2 h3 h6;simp only[binO,List.map_cons,List.map_nil]at h7;simp only[rc,tj,Fq,Hw,Lt,J6,Lu,Lv,h1,h2,h3,h4,h5,h6,h7,h8,ba,aD,aC,bt,dw,Si,gi,v0,binO]
def hK (op:Int)(hs:List Int):List Int→Nat→Int→Int
 |[],_,m=>m
 |k::r,j,m=>hK op hs r (j+1) (bif(aw op 11||aw op 12)&&aw (j:Int) 0 then(bif aW m (ag .i64 (hs.getD k.toNat 0+1))then ag .i64 (hs.getD k.toNat 0+1)else m)else bif aW m (hs.getD k.toNat 0)then hs.getD k.toNat 0 else m)
def Nk (op m:Int):Int:=bif aw op 4 then ag .i64 (m+2)else bif aw op 5||(aw op 6||(aw op 7||(aw op 15||(aw op 16||(aw op 17||aw op 18)))))then ag .i64 (m+1)else m
def hN:List No→Nat→List Int→List Int
 |[],_,hs=>hs
 |x::r,i,hs=>hN r (i+1) (hs.set i (Nk x.op (hK x.op hs x.kids 0 0)))
def w5 (ns:List No):Int:=(hN ns 0 (List.replicate ns.length 0)).getD (ns.length - 1) 0
def fh (b:Nat)(l:List Int):Prop:=∀k∈l,0≤k∧k<(b:Int)
theorem mM (hs:List Int){i:Nat}(h:i<hs.length):(hs.map iE)[i]?=some (iE (hs.getD i 0)):=by
 simp[lγ h,lρ]
theorem afm {m:Nat}(k0:kw→R)(a b:LD)(N:Nat)(i5 i4 i6:Int)(x:No)(hs:List Int)(hN:N=hs.length)(hk:fh N x.kids)(hl:x.kids.length<1501):∀(e q j:Nat) (mx:Int),j+e=x.kids.length→e<q→
  L_sheight_2 (bq lay0.tab m) m k0 q (a,N,i5,mx,b,i4,i6,x.kids.map iE,(x.kids.length:Int),(j:Int),hs.map iE,x.r)=k0 (a,N,i5,hK x.op hs (x.kids.drop j) j mx,b,i4,i6,x.kids.map iE,(x.kids.length:Int),(x.kids.length:Int),hs.map iE,x.r)
 |0,q+1,j,mx,h,_=>by
  obtain rfl:j=x.kids.length:=by omega
  rw[wg];simp only[kR,cb,aQ,List.drop_length,hK]
 |e+1,q+1,j,mx,h,hq=>by
  have hj:j<x.kids.length:=by omega
  obtain⟨g1,g2⟩:=hk x.kids[j] (lι _);have g3:x.kids[j].toNat<hs.length:=by omega
  rw[wg,lξ hj];simp only[kR,cK (show((j:Int)<(x.kids.length:Int)) by omega),aO,aE,aP,aM hj,bf,dI,bJ,g1,decide_true,cK g2,Nat.zero_add,mM hs g3,tj,wS (show j<bZ by unfold bZ;omega),hK];cases aw x.op 11<;>cases aw x.op 12<;>cases aw (j:Int) 0<;>exact afm k0 a b N i5 i4 i6 x hs hN hk hl e q (j+1) _ (by omega) (by omega)
theorem agY {m:Nat}(k0:ku→R)(ns:List No)(hm:1501<m)(hk:∀x∈ns,fh ns.length x.kids)(hkl:∀x∈ns,x.kids.length<1501)(hl:ns.length<1501):∀(e q i:Nat) (hs:List Int),i+e=ns.length→e<q→hs.length=ns.length→
  L_sheight_1 (bq lay0.tab m) m k0 q (ns.map No.e,ns.length,ns.map No.e,(ns.length:Int),(i:Int),hs.map iE)=k0 (ns.map No.e,ns.length,ns.map No.e,(ns.length:Int),(ns.length:Int),(hN (ns.drop i) i hs).map iE)
 |0,q+1,i,hs,h,_,hhs=>by
  obtain rfl:i=ns.length:=by omega
  rw[we];simp only[kQ,cb,aQ,List.drop_length,hN]
 |e+1,q+1,i,hs,h,hq,hhs=>by
  have hi:i<ns.length:=by omega
  have hx:ns[i]∈ns:=lι _;rw[we,lξ hi];simp only[kQ,cK (show((i:Int)<(ns.length:Int)) by omega),aO,aE,aP,aM hi,bf,u0,pF,lβ];have g:=afm (m:=m) (fun(l25,n26,i27,i28,l29,i30,i31,l32,i33,i34,l35,u36)=>L_sheight_1 (bq lay0.tab m) m k0 q (l25,n26,l29,i30,ag .i64 (i31+1),List.set l35 (0+Int.toNat i27) (iE (Nk u36.Op i28)))) (ns.map No.e) (ns.map No.e) ns.length i ns.length i ns[i] hs hhs.symm (hk _ hx) (hkl _ hx) ns[i].kids.length m 0 0 (by omega) (by have:=hkl _ hx;omega)
  simp only[show((0:Nat):Int)=0 from rfl,List.drop_zero,tj,Int.toNat_natCast,Nat.zero_add,wS (show i<bZ by unfold bZ;omega)]at g;refine Eq.trans (Eq.trans ?_ g) ?_
  ·have g2:=fun k0'=>afm (m:=m) k0' (ns.map No.e) (ns.map No.e) ns.length i ns.length i ns[i] hs hhs.symm (hk _ hx) (hkl _ hx) ns[i].kids.length m 0 0 (by omega) (by have:=hkl _ hx;omega)
   simp only[show((0:Nat):Int)=0 from rfl,List.drop_zero]at g2;rw[g2,g2];simp only[tj,bJ,show(0:Int)≤(i:Int) by omega,decide_true,aO,cK (show((i:Int)<(ns.length:Int)) by omega),Nat.zero_add,Int.toNat_natCast,mM hs (show i<hs.length by omega),bf,show(cells (iE (hs.getD i 0))).length=1 from rfl,show Nat.beq 1 1=true from rfl,show ∀v,cT (iE (hs.getD i 0)) (cells (Da.int .i64 v))=some (iE v)from fun _=>rfl,wS (show i<bZ by unfold bZ;omega)];unfold Nk;cases aw ns[i].op 4<;>cases aw ns[i].op 5<;>cases aw ns[i].op 6<;>cases aw ns[i].op 7<;>cases aw ns[i].op 15<;>cases aw ns[i].op 16<;>cases aw ns[i].op 17<;>cases aw ns[i].op 18<;>rfl
  ·simp only[hN];rw[←List.map_set];exact agY k0 ns hm hk hkl hl e q (i+1) _ (by omega) (by omega) (by simp[hhs])
theorem Zf:∀(l:List No) (i:Nat) (hs:List Int),(hN l i hs).length=hs.length
 |[],_,_=>rfl
 |x::r,i,hs=>by simp only[hN];rw[Zf];simp
theorem T0 {n:Nat}(ns:List No)(h0:0<ns.length)(hk:∀x∈ns,fh ns.length x.kids)(hkl:∀x∈ns,x.kids.length<1501)(hl:ns.length<1501):evFn lay0.tab (n+1503) 179 [.p (.slice 8 (ns.map No.e))] []=some (.p (.int .i64 (w5 ns)),[]):=by
 apply Uw (n+1502) (ns.map No.e);unfold yR w5;have hw:ag .i64 ((ns.length:Int) - 1)=((ns.length - 1:Nat):Int):=by rw[iD (by omega) (by omega)];omega
 have hr:List.replicate ns.length (Da.int .i64 0)=(List.replicate ns.length (0:Int)).map iE:=by simp[iE]
 have g:=fun k0=>agY (m:=n+1502) k0 ns (by omega) hk hkl hl ns.length (n+1502) 0 (List.replicate ns.length 0) (by omega) (by omega) (by simp)
 simp only[show((0:Nat):Int)=0 from rfl,List.drop_zero]at g;simp only[lβ,Int.toNat_natCast,hr,g,bJ,show(0:Int)≤(ns.length:Int) by omega,Int.le_refl,decide_true,Bool.true_and,show Nat.ble (ns.length*8) 281474976710656=true by rw[Nat.ble_eq];omega,show(ns.length:Int)≤9223372036854775807 by omega,aO,aT,show ¬((ns.length:Int)=0) by omega,decide_false,aQ,hw,show(0:Int)≤((ns.length - 1:Nat):Int) by omega,cK (show((ns.length - 1:Nat):Int)<(ns.length:Int) by omega),Nat.zero_add];rw[mM _ (by rw[Zf];simp;omega)];rfl
end
end Go.Ab
end
