import Derived.Test.YtmnmeiibmgcddaaGreatDoorKg1
import Derived.Test.YtmnmeiibmgcddaaGreatDoorKg0
import Derived.Test.YtmnmeiibmgcddaaGreatDoorAm5
import Derived.KernelRfl
import Derived.Test.YtmnmeiibmgcddaaGreatDoorOg2
set_option linter.all false
namespace Go.Ab
open Go
set_option maxRecDepth 100000
noncomputable section
def FvL:LI->List Va->Prop
 |[],[]=>True
 |k::r,v::l=>Fv k v/\FvL r l
 |_,_=>False
def FvL.len:∀{ks:LI} {l:List Va},FvL ks l->l.length=ks.length
 |[],[],_=>rfl
 |k::r,v::l,h=>by simp only[List.length_cons,FvL.len h.2]
def FvL.wk:∀{ks:LI} {l:List Va},FvL ks l->∀v∈l,Wk v
 |[],[],_,v,hv=>by cases hv
 |k::r,u::l,h,v,hv=>by
  rcases lω.1 hv with rfl|hv
  ·exact xQ h.1
  ·exact FvL.wk h.2 v hv
def FvL.app:∀{a b:LI} {x y:List Va},FvL a x->FvL b y->FvL (a++b) (x++y)
 |[],_,[],_,_,h=>h
 |_::_,_,_::_,_,h,g=>⟨h.1,FvL.app h.2 g⟩
def FvL.take:∀{ks:LI} {l:List Va} (n:Nat),FvL ks l->FvL (ks.take n) (l.take n)
 |[],[],n,_=>by rw[List.take_nil,List.take_nil];trivial
 |_::_,_::_,0,_=>trivial
 |_::_,_::_,n+1,h=>⟨h.1,FvL.take n h.2⟩
def FvL.drop:∀{ks:LI} {l:List Va} (n:Nat),FvL ks l->FvL (ks.drop n) (l.drop n)
 |[],[],n,_=>by rw[List.drop_nil,List.drop_nil];trivial
 |_::_,_::_,0,h=>h
 |_::_,_::_,n+1,h=>FvL.drop n h.2
def FvL.fit:∀{ks:LI} {l:List Va},FvL ks l->uw l ks=true
 |[],[],_=>rfl
 |k::r,v::l,h=>by show(rp v k&&uw l r)=true;rw[h.1.1,FvL.fit h.2];rfl
def EY (v:Va):Prop:=lB v.n/\∀x∈v.I,lB x
def FvL.of:∀{ks:LI} {l:List Va},uw l ks=true->(∀v∈l,EY v)->FvL ks l
 |[],[],_,_=>trivial
 |k::r,v::l,h,hv=>by
  have h:(rp v k&&uw l r)=true:=h;rw[lγ]at h;exact⟨⟨h.1,hv v lυ⟩,FvL.of h.2 fun u hu=>hv u (mα _ hu)⟩
 |[],_::_,h,_=>by cases h
 |_::_,[],h,_=>by cases h
def FvL.get:∀{ks:LI} {l:List Va} {i:Nat} {k:Int},FvL ks l->ks[i]?=some k->∃v,l[i]?=some v/\Fv k v
 |_::_,v::_,0,_,h,e=>by cases e;exact⟨v,rfl,h.1⟩
 |_::_,_::_,i+1,k,h,e=>FvL.get (i:=i) (k:=k) h.2 e
 |[],[],i,k,_,e=>by simp at e
def FvL.set:∀{ks:LI} {l:List Va} {i:Nat} {k:Int} {v:Va},FvL ks l->ks[i]?=some k->Fv k v->FvL ks (l.set i v)
 |_::_,_::_,0,_,_,h,e,hv=>by cases e;exact⟨hv,h.2⟩
 |_::_,_::_,i+1,_,_,h,e,hv=>⟨h.1,FvL.set h.2 e hv⟩
 |[],[],i,k,v,_,e,_=>by simp at e
def FvL.same:∀{k:Int} {n:Nat} {l:List Va},FvL (List.replicate n k) l->∀v∈l,Fv k v
 |k,0,[],_,v,hv=>by cases hv
 |k,n+1,u::l,h,v,hv=>by
  rcases lω.1 hv with rfl|hv
  ·exact h.1
  ·exact FvL.same (n:=n) h.2 v hv
structure jF (ks:LI)(set:Nat)(ls:List Va):Prop where
 n:ls.length=ks.length
 a:∀(i:Nat) (k:Int) (v:Va),ks[i]?=some k->ls[i]?=some v->Fv k v\/(v=v0/\set.testBit i=false)
variable {ks:LI} {a:Nat}
def jF.sub {b:Nat}{ls:List Va}(h:jF ks b ls)(hs:a &&& b=a):jF ks a ls:=⟨h.n,fun i k v hk hv=>by
 rcases h.a i k v hk hv with h|⟨h,hb⟩
 ·exact .inl h
 ·refine .inr ⟨h,?_⟩;have:=congrArg (fun n=>Nat.testBit n i) hs;simp only[Nat.testBit_and,hb,Bool.and_false]at this;exact this.symm⟩
def jF.wk {ls:List Va}(h:jF ks a ls):∀v∈ls,Wk v:=fun v hv=>by
 obtain⟨i,hi,rfl⟩:=qι hv;have hk:i<ks.length:=by rw[<-h.n];exact hi
 rcases h.a i ks[i] ls[i] (lε hk) (lε hi)with h|⟨h,-⟩
 ·exact xQ h
 ·rw[h];exact VN
def jF.set {ks:LI}{a:Nat}{ls:List Va}{i:Nat}{k:Int}{v:Va}(h:jF ks a ls)(hk:ks[i]?=some k)(hv:Fv k v):jF ks (a ||| 2 ^ i) (ls.set i v):=⟨by rw[List.length_set];exact h.n,fun j q u hq hu=>by
 by_cases hj:j=i
 ·subst hj;rw[hk]at hq;cases hq;have hl:j<ls.length:=by rw[h.n];exact(List.getElem?_eq_some_iff.1 hk).1
  rw[mψ hl]at hu;cases hu;exact .inl hv
 ·rw[mρ (fun e=>hj e.symm)]at hu;rcases h.a j q u hq hu with h|⟨h,hb⟩
  ·exact .inl h
  ·refine .inr ⟨h,?_⟩;rw[Nat.testBit_or,hb,Nat.testBit_two_pow_of_ne (fun e=>hj e.symm)];rfl⟩
structure VX (e:Ef):Prop where
 k:1<=e.k/\e.k<=3
 n:1<=e.n.length/\e.n.length<=32
 r:e.k=2->1<=e.a/\1<=e.b
 c:e.k=3->e.a=0/\e.b=0
structure AS (l:List Ef):Prop where
 n:l.length<=16
 a:∀e∈l,VX e
def UX (s:Xs)(S:List SV)(X:Xt):Prop:=(X.ok=1/\Fv s.q.res X.ov/\X.ar=[])\/(X.ok=2/\X.ov=v0/\∃(pc:Nat) (x:Cd) (v:SV) (t:Ct) (q:Cm),X.pc=((pc+1:Nat):Int)/\s.q.code[pc]?=some x/\x.op=30/\S[pc+1]?=some v/\jF s.q.locals v.set X.ls/\dj s.c x.a=some t/\dj t.methods x.b=some q/\X.tT=t.name/\X.mn=q.name/\X.tK.length<=32/\FvL q.params X.ar)
structure Gd (s:Xs)(t:Ct)(S:List SV)(X:Xt):Prop where
 fs:FvL (t.fields.map Fe.kind) X.fs
 es:AS X.es
 ls:∀v∈X.ls,Wk v
 st:(∀v∈X.st,Wk v)/\X.st.length<=40
 pc:0<=X.pc/\X.pc<=1501
 lv:X.done=false->∃(pc:Nat) (v:SV),X.pc=(pc:Int)/\S[pc]?=some v/\FvL v.st X.st/\jF s.q.locals v.set X.ls
 dn:X.done=true->UX s S X
def Gd.fu {s t S X}(h:Gd s t S X)(u:Int):Gd s t S {X with fu:=u}:=⟨h.fs,h.es,h.ls,h.st,h.pc,h.lv,h.dn⟩
structure UT (s:Xs)(t:Ct)(S:List SV):Prop where
 f:HI s.c t s.q
 x:Í s.c t s.q S
 v:∀y∈s.q.code,EY y.v
def QI {m:Cm}{pc:Nat}{x:Cd}(h:(eM m pc x).2=true)(h1:x.op≠32)(h2:x.op≠33)(h3:x.op≠28)(h4:x.op≠29):(eM m pc x).1=[((pc+1:Nat):Int)]:=by
 have e:∀{k:Int},x.op≠k->az x.op k=false:=fun h=>by rw[cE];exact mθ h
 unfold eM at h ⊢
 rw[e h1,e h2,e h3,e h4]at h ⊢
 revert h
 cases decide (pc+1=m.code.length)with
 |true=>intro h;cases h
 |false=>intro _;rfl
section
structure gb (s:Xs)(t:Ct)(S:List SV)(X:Xt)(pc:Nat)(x:Cd)(v:SV)(e:Ek)(st':LI)(l:List Va)(Y:Xt):Prop where
 hx:UT s t S
 g:Gd s t S X
 hc:s.q.code[pc]?=some x
 hv:S[pc]?=some v
 hpc:X.pc=(pc:Int)
 hls:jF s.q.locals v.set X.ls
 hin:gX s.c t s.q x=true
 s2:(eM s.q pc x).2=true
 to:∀k∈(eM s.q pc x).1,Has S k.toNat st' (lA x v.set)
 st:∃K0,st'=K0++e.2/\FvL K0 Y.st/\(x.op=30\/x.op=32->Y.st=[]/\K0=[])
 l:FvL e.1 l
 le:st'.length<=40
 y:Y={X with pc:=X.pc+1,st:=Y.st}
 d:X.done=false
def gb.nxt {s t S X pc x v e st' l Y}(h:gb s t S X pc x v e st' l Y){Z:Xt}(h1:Z.pc∈(eM s.q pc x).1)(h2:FvL st' Z.st)(h3:jF s.q.locals (lA x v.set) Z.ls)(h4:FvL (t.fields.map Fe.kind) Z.fs)(h5:AS Z.es)(h6:Z.done=false):Gd s t S Z:=by
 have hpl:pc<s.q.code.length:=(List.getElem?_eq_some_iff.1 h.hc).1;obtain⟨u,hu,-,hus,hub⟩:=h.to _ h1;obtain⟨r1,r2⟩:=(QH h.hin hpl h.s2).1 _ h1;have hcl:=h.hx.f.z.c;have hl:=h.le;refine⟨h4,h5,h3.wk,⟨h2.wk,by rw[h2.len];exact hl⟩,⟨r1,by omega⟩,fun _=>⟨Z.pc.toNat,u,(mσ r1).symm,hu,hus▸h2,h3.sub hub⟩,fun hd=>by rw[h6]at hd;cases hd⟩
def oo {x:Cd}{set:Nat}(h:x.op≠3):lA x set=set:=by
 unfold lA;rw[show az x.op 3=false by rw[cE];exact mθ h];rfl
section
variable {s:Xs} {t:Ct} {S:List SV} {X:Xt} {pc:Nat} {x:Cd} {v:SV} {e:Ek} {st':LI} {l:List Va} {Y:Xt} (h:gb s t S X pc x v e st' l Y)
include h
def gb.ls:Y.ls=X.ls:=by rw[h.y]
def gb.fs:Y.fs=X.fs:=by rw[h.y]
def gb.es:Y.es=X.es:=by rw[h.y]
def gb.dn:Y.done=false:=by rw[h.y];exact h.d
def gb.pcN:Y.pc=((pc+1:Nat):Int):=by rw[h.y];show X.pc+1=_;rw[h.hpc];omega
def gb.nx (h1:x.op≠32)(h2:x.op≠33)(h3:x.op≠28)(h4:x.op≠29):Y.pc∈(eM s.q pc x).1:=by
 rw[QI h.s2 h1 h2 h3 h4,h.pcN];exact List.mem_singleton.2 rfl
def gb.pop (he:e.2=[]){Z:Xt}(hp:Z.pc∈(eM s.q pc x).1)(hs:Z.st=Y.st)(hl:jF s.q.locals (lA x v.set) Z.ls)(hf:FvL (t.fields.map Fe.kind) Z.fs)(hes:AS Z.es)(hd:Z.done=false):Gd s t S Z:=by
 obtain⟨K0,k1,k2,-⟩:=h.st;refine h.nxt hp ?_ hl hf hes hd;rw[k1,he,mκ,hs];exact k2
def gb.ask (he:e.2=[])(h0:x.op≠3)(h1:x.op≠32)(h2:x.op≠33)(h3:x.op≠28)(h4:x.op≠29){r:Ef×Int}(hr:r.2=0->VX r.1/\Y.es.length<16):(sk r Y).2=0->Gd s t S (sk r Y).1:=fun hz=>by
 have hz:r.2=0:=hz;obtain⟨g1,g2⟩:=hr hz;unfold sk;rw[eqI_t.2 hz];refine h.pop he (Z:={Y with es:=Y.es++[r.1]}) (h.nx h1 h2 h3 h4) rfl ?_ ?_ ⟨?_,fun y hy=>?_⟩ h.dn
 ·rw[oo h0];show jF _ _ Y.ls;rw[h.ls];exact h.hls
 ·show FvL _ Y.fs;rw[h.fs];exact h.g.fs
 ·show(Y.es++[r.1]).length<=16;rw[mη];simp only[List.length_singleton];omega
 ·rcases qδ.1 hy with hy|hy
  ·rw[h.es]at hy;exact h.g.es.a y hy
  ·rw[List.mem_singleton.1 hy];exact g1
end
end
section
section
variable {s:Xs} {t:Ct} {S:List SV} {X:Xt} {pc:Nat} {v:SV} {e:Ek} {st':LI} {l:List Va} {Y:Xt} {a b:Int} {vv:Va}
def gb.out (h:gb s t S X pc ⟨30,a,b,vv⟩ v e st' l Y\/gb s t S X pc ⟨32,a,b,vv⟩ v e st' l Y){Z:Xt}(hfs:Z.fs=X.fs)(hes:Z.es=X.es)(hls:Z.ls=X.ls)(hst:Z.st=[])(hpc:Z.pc=((pc+1:Nat):Int))(hd:Z.done=true)(ho:UX s S Z):Gd s t S Z:=by
 have k:Gd s t S X/\s.q.code[pc]?≠none/\s.q.code.length<1501:=by
  rcases h with h|h
  ·exact⟨h.g,by rw[h.hc];simp,h.hx.f.z.c⟩
  ·exact⟨h.g,by rw[h.hc];simp,h.hx.f.z.c⟩
 obtain⟨g,k2,k3⟩:=k;have hp:pc<s.q.code.length:=by
  by_cases hh:pc<s.q.code.length
  ·exact hh
  ·exact absurd (lτ (by omega)) k2
 refine⟨by rw[hfs];exact g.fs,by rw[hes];exact g.es,by rw[hls];exact g.ls,by rw[hst];simp,by rw[hpc];omega,(fun h=>by rw[hd]at h;cases h),fun _=>ho⟩
end
end

def ZR (c:List Ct):Prop:=∀t∈c,∀m∈t.methods,∀y∈m.code,EY y.v
structure VB (v:Va):Prop where
 L:v.L.length<lw
 v:EY v
structure LB (l:List Va):Prop where
 n:l.length<lw
 v:∀v∈l,VB v
def zS {l:List Va}(h:uQ l=true):l.length<=20/\∀v∈l,Lg v:=by
 unfold uQ at h;rw[lγ,bj,lδ,mε]at h;refine⟨by omega,fun v hv=>?_⟩
 have:=h.1 v hv;unfold ZL at this;simp only[lγ,Bool.not_eq_true',bX,lζ]at this;exact⟨by omega,by omega⟩
def QE {c:List Ct}(h:vz c=true):AJ c:=by
 unfold vz at h;simp only[lγ,Bool.not_eq_true',bX,lζ,mε]at h;refine⟨by omega,fun t ht=>?_⟩
 have h1:=h.2 t ht;unfold Kq at h1;simp only[lγ,Bool.not_eq_true',bX,lζ,mε]at h1;refine⟨by omega,by omega,fun m hm=>?_⟩
 have h2:=h1.2.2.2.2 m hm;unfold Gq at h2;simp only[lγ,Bool.not_eq_true',bX,lζ]at h2;exact⟨by omega,by omega,by omega⟩
section
def Ti:LN->LN->Bool
 |[],[]=>true
 |a::r,b::s=>Nat.beq a b&&Ti r s
 |_,_=>false
def Il:∀{a b:LN},Ti a b=true->a=b
 |[],[],_=>rfl
 |[],_::_,h=>by cases h
 |_::_,[],h=>by cases h
 |a::r,b::s,h=>by
  simp only[Ti,lγ]at h;rw[lθ h.1,Il h.2]
def qS (P:Program)(k:IntKind)(t:TypeId):Bool:=match P.underlying t with|some (.int k')=>decide (k'=k)|_=>false
def uF (P:Program)(t:TypeId):Bool:=match P.underlying t with|some .string=>true|_=>false
def mq (P:Program)(t e z:Nat):Bool:=match P.underlying t with|some (.slice e')=>Nat.beq e' e&&Nat.beq (P.cellsOf e) z|_=>false
def mt (P:Program)(t:Nat)(ts:LN):Bool:=match P.underlying t with|some (.struct fs)=>Ti (fs.toList.map (·.type)) ts|_=>false
def zm (C:TypeId->LD->Prop):List TypeId->LD->Prop
 |[],xs=>xs=[]
 |t::r,xs=>∃ys zs,xs=ys++zs/\C t ys/\zm C r zs
def ut {C:TypeId->LD->Prop}:∀{fs:List Field} {xs:LD},pf C fs xs->zm C (fs.map (·.type)) xs
 |[],_,h=>h
 |f::r,xs,⟨ys,zs,h1,h2,h3⟩=>⟨ys,zs,h1,h2,ut h3⟩
section
variable {P:Program} {B:TypeId->Nat} {n t:Nat} {xs:LD} {x:Da}
def ii {k:IntKind}(h:qS P k t=true)(hc:bZ P B (n+1) t xs):∃i,xs=[.int k i]/\(Lit.int k i).wf=true:=by
 unfold qS at h;simp only[bZ]at hc;split at h
 ·rename_i hu;rw[hu]at hc;have:=of_decide_eq_true h;subst this;exact hc
 ·cases h
def q9 (h:uF P t=true)(hc:bZ P B (n+1) t xs):∃s,xs=[.str s]:=by
 unfold uF at h;simp only[bZ]at hc;split at h
 ·rename_i hu;rw[hu]at hc;obtain⟨s,rfl,_⟩:=hc;exact⟨s,rfl⟩
 ·cases h
def vQ {e z:Nat}(h:mq P t e z=true)(hc:bZ P B (n+1) t xs):∃es,xs=[.slice z es]/\es.length<=B e/\∀x∈es,gf P (bZ P B n) e x:=by
 unfold mq at h;simp only[bZ]at hc;split at h
 ·rename_i hu;rw[hu]at hc;rw[lγ]at h;obtain⟨es,rfl,_,h2,h3⟩:=hc;have h4:=lθ h.1;subst h4;rw[lθ h.2];exact⟨es,rfl,h2,h3⟩
 ·cases h
variable {ts:LN}
def vR (h:mt P t ts=true)(hc:bZ P B (n+1) t xs):zm (bZ P B n) ts xs:=by
 unfold mt at h;simp only[bZ]at hc;split at h
 ·rename_i hu;rw[hu]at hc;rw[<-Il h];exact ut hc
 ·cases h
def nN {C:TypeId->LD->Prop}(h:mt P t ts=true)(hc:gf P C t x):∃cs,x= .agg cs/\C t cs:=by
 unfold mt at h;unfold gf at hc;split at h
 ·rename_i hu;have:gA P t=true:=by unfold gA;rw[hu]
  rw[this]at hc;exact hc
 ·cases h
def Ia {k:IntKind}{C:TypeId->LD->Prop}(h:qS P k t=true)(hc:gf P C t x):C t [x]:=by
 unfold qS at h;unfold gf at hc;split at h
 ·rename_i hu;have:gA P t=false:=by unfold gA;rw[hu]
  rw[this]at hc;exact hc
 ·cases h
def Ib {C:TypeId->LD->Prop}(h:uF P t=true)(hc:gf P C t x):C t [x]:=by
 unfold uF at h;unfold gf at hc;split at h
 ·rename_i hu;have:gA P t=false:=by unfold gA;rw[hu]
  rw[this]at hc;exact hc
 ·cases h
end
def hC {α:Type}{f:α->Da}{Q:α->Prop}:∀{es:LD},(∀x∈es,∃a,x=f a/\Q a)->∃l:List α,es=l.map f/\∀a∈l,Q a
 |[],_=>⟨[],rfl,fun _ h=>by cases h⟩
 |x::es,h=>by
  obtain⟨a,rfl,ha⟩:=h x (lυ ..);obtain⟨l,rfl,hl⟩:=hC (es:=es) fun y hy=>h y (mα _ hy)
  refine⟨a::l,rfl,fun b hb=>?_⟩
  rcases lω.1 hb with rfl|hb
  ·exact ha
  ·exact hl b hb
noncomputable section
abbrev Bn:TypeId->Nat:=fun _=>1048576
abbrev CT (n t:Nat)(xs:LD):Prop:=bZ prog0 Bn n t xs
abbrev DT (n t:Nat)(x:Da):Prop:=gf prog0 (bZ prog0 Bn n) t x
def LY:qS prog0 .i64 3=true:=by kernel_rfl
def Vw:uF prog0 9=true:=by kernel_rfl
def ô:mq prog0 42 3 1=true:=by kernel_rfl
def õ:mq prog0 43 9 1=true:=by kernel_rfl
def Vy:mt prog0 45 [3,3,9,42,43]=true:=by kernel_rfl
def PT:mq prog0 25 45 5=true:=by kernel_rfl
def Vt:mt prog0 87 [9,3,45]=true:=by kernel_rfl
def XD:mq prog0 58 87 7=true:=by kernel_rfl
def Vu:mt prog0 89 [3,3,3,45]=true:=by kernel_rfl
def XE:mq prog0 62 89 8=true:=by kernel_rfl
def Zc:mt prog0 64 [9,42,3,42,62]=true:=by kernel_rfl
def Zd:mq prog0 59 64 5=true:=by kernel_rfl
def Ze:mt prog0 61 [9,58,59]=true:=by kernel_rfl
def Zf:mq prog0 22 61 3=true:=by kernel_rfl
def PS:mt prog0 24 [22]=true:=by kernel_rfl
def Vv:mt prog0 27 [3,3,3,25]=true:=by kernel_rfl
variable {xs:LD}
def WB {n:Nat}(h:CT (n+2) 43 xs):∃l:List LN,xs=[.slice 1 (l.map .str)]/\l.length<=1048576:=by
 obtain⟨es,rfl,h1,h2⟩:=vQ õ h;obtain⟨l,rfl,_⟩:=hC (f:=Da.str) (Q:=fun _=>True) (es:=es) fun x hx=>by
  obtain⟨i,e⟩:=q9 Vw (Ib Vw (h2 x hx));simp only[lχ,and_true]at e;exact⟨i,e,trivial⟩
 exact⟨l,rfl,by simpa using h1⟩
def WY {P:Program}{t e z:Nat}{x:Da}{C:TypeId->LD->Prop}(h:mq P t e z=true)(hc:gf P C t x):C t [x]:=by
 unfold mq at h;unfold gf at hc;split at h
 ·rename_i hu;have:gA P t=false:=by unfold gA;rw[hu]
  rw[this]at hc;exact hc
 ·cases h
def Vs {i:Int}(h:(Lit.int .i64 i).wf=true):lB i:=by
 simp only[Lit.wf,lγ,lδ]at h;have h1:IntKind.i64.min= -9223372036854775808:=rfl;have h2:IntKind.i64.max=9223372036854775807:=rfl;rw[h1,h2]at h;exact⟨by omega,by omega⟩
def y6 {n:Nat}(h:CT (n+2) 42 xs):∃l:LI,xs=[.slice 1 (l.map iE)]/\∀i∈l,lB i:=by
 obtain⟨es,rfl,h1,h2⟩:=vQ ô h;obtain⟨l,rfl,hl⟩:=hC (f:=iE) (Q:=lB) (es:=es) fun x hx=>by
  obtain⟨i,e,hw⟩:=ii LY (Ia LY (h2 x hx));simp only[lχ,and_true]at e;exact⟨i,e,Vs hw⟩
 exact⟨l,rfl,hl⟩
def Oz {n:Nat}(h:CT (n+3) 45 xs):∃v:Va,xs=v.c/\VB v:=by
 obtain⟨_,_,rfl,h1,_,_,rfl,h2,_,_,rfl,h3,_,_,rfl,h4,_,_,rfl,h5,rfl⟩:=vR Vy h;obtain⟨k,rfl,_⟩:=ii LY h1;obtain⟨m,rfl,hm⟩:=ii LY h2;obtain⟨s,rfl⟩:=q9 Vw h3;obtain⟨I,rfl,hI⟩:=y6 h4;obtain⟨L,rfl,hL⟩:=WB h5;exact⟨⟨k,m,s,I,L⟩,rfl,by show L.length<2000000;omega,Vs hm,hI⟩
def Vl {n:Nat}{x:Da}(h:DT (n+3) 45 x):∃v:Va,x=v.e/\VB v:=by
 obtain⟨cs,rfl,g⟩:=nN Vy h;obtain⟨v,rfl,hv⟩:=Oz g;exact⟨v,rfl,hv⟩
def OA {n:Nat}(h:CT (n+4) 25 xs):∃l:List Va,xs=[.slice 5 (l.map Va.e)]/\LB l:=by
 obtain⟨es,rfl,h1,h2⟩:=vQ PT h;obtain⟨l,rfl,hl⟩:=hC (f:=Va.e) (Q:=VB) (es:=es) fun x hx=>Vl (h2 x hx)
 rw[lβ]at h1;exact⟨l,rfl,by show l.length<2000000;exact Nat.lt_of_le_of_lt h1 (by decide),hl⟩
def YU {n:Nat}{x:Da}(h:DT (n+4) 87 x):∃a:Fe,x=a.e/\VB a.init:=by
 obtain⟨cs,rfl,g⟩:=nN Vt h;obtain⟨_,_,rfl,h1,_,_,rfl,h2,_,_,rfl,h3,rfl⟩:=vR Vt g;obtain⟨s,rfl⟩:=q9 Vw h1;obtain⟨k,rfl,_⟩:=ii LY h2;obtain⟨v,rfl,hv⟩:=Oz h3;exact⟨⟨s,k,v⟩,rfl,hv⟩
def YV {n:Nat}{x:Da}(h:DT (n+4) 89 x):∃a:Cd,x=a.e/\VB a.v:=by
 obtain⟨cs,rfl,g⟩:=nN Vu h;obtain⟨_,_,rfl,h1,_,_,rfl,h2,_,_,rfl,h3,_,_,rfl,h4,rfl⟩:=vR Vu g;obtain⟨o,rfl,_⟩:=ii LY h1;obtain⟨a,rfl,_⟩:=ii LY h2;obtain⟨b,rfl,_⟩:=ii LY h3;obtain⟨v,rfl,hv⟩:=Oz h4;exact⟨⟨o,a,b,v⟩,rfl,hv⟩
def Õ {n:Nat}{x:Da}(h:DT (n+6) 64 x):∃a:Cm,x=a.e/\a.code.length<lw/\∀y∈a.code,VB y.v:=by
 obtain⟨cs,rfl,g⟩:=nN Zc h;obtain⟨_,_,rfl,h1,_,_,rfl,h2,_,_,rfl,h3,_,_,rfl,h4,_,_,rfl,h5,rfl⟩:=vR Zc g;obtain⟨s,rfl⟩:=q9 Vw h1;obtain⟨ps,rfl,_⟩:=y6 h2;obtain⟨k,rfl,_⟩:=ii LY h3;obtain⟨ls,rfl,_⟩:=y6 h4;obtain⟨is,rfl,hl,h5⟩:=vQ XE h5;obtain⟨is,rfl,hv⟩:=hC (f:=Cd.e) (Q:=fun a=>VB a.v) (es:=is) fun x hx=>YV (h5 x hx)
 rw[lβ]at hl;exact⟨⟨s,ps,k,ls,is⟩,rfl,Nat.lt_of_le_of_lt hl (by decide),hv⟩
def Ö {n:Nat}{x:Da}(h:DT (n+8) 61 x):∃a:Ct,x=a.e/\Bt a/\∀m∈a.methods,∀y∈m.code,EY y.v:=by
 obtain⟨cs,rfl,g⟩:=nN Ze h;obtain⟨_,_,rfl,h1,_,_,rfl,h2,_,_,rfl,h3,rfl⟩:=vR Ze g;obtain⟨s,rfl⟩:=q9 Vw h1;obtain⟨fs,rfl,hf,h2⟩:=vQ XD h2;obtain⟨ms,rfl,hm,h3⟩:=vQ Zd h3;obtain⟨fs,rfl,hv⟩:=hC (f:=Fe.e) (Q:=fun a=>VB a.init) (es:=fs) fun x hx=>YU (h2 x hx)
 obtain⟨ms,rfl,hw⟩:=hC (f:=Cm.e) (Q:=fun a=>a.code.length<lw/\∀y∈a.code,VB y.v) (es:=ms) fun x hx=>Õ (h3 x hx)
 rw[lβ]at hf hm;exact⟨⟨s,fs,ms⟩,rfl,⟨Nat.lt_of_le_of_lt hf (by decide),Nat.lt_of_le_of_lt hm (by decide),fun f h=>(hv f h).L,fun m h=>⟨(hw m h).1,fun y hy=>((hw m h).2 y hy).L⟩⟩,fun m h y hy=>((hw m h).2 y hy).v⟩
def WW {n:Nat}{x:Da}(h:DT (n+10) 24 x):∃c:List Ct,x=(de c).e/\Bc c/\ZR c:=by
 obtain⟨cs,rfl,g⟩:=nN PS h;obtain⟨_,_,rfl,h1,rfl⟩:=vR PS g;obtain⟨ts,rfl,hl,h1⟩:=vQ Zf h1;obtain⟨c,rfl,hp⟩:=hC (f:=Ct.e) (Q:=fun a=>Bt a/\∀m∈a.methods,∀y∈m.code,EY y.v) (es:=ts) fun x hx=>Ö (h1 x hx)
 rw[lβ]at hl;exact⟨c,rfl,⟨Nat.lt_of_le_of_lt hl (by decide),fun t ht=>(hp t ht).1⟩,fun t ht=>(hp t ht).2⟩
def YW {n:Nat}{x:Da}(h:DT (n+5) 27 x):∃m:Mc,x=m.e/\LB m.ls:=by
 obtain⟨cs,rfl,g⟩:=nN Vv h;obtain⟨_,_,rfl,h1,_,_,rfl,h2,_,_,rfl,h3,_,_,rfl,h4,rfl⟩:=vR Vv g;obtain⟨a,rfl,_⟩:=ii LY h1;obtain⟨b,rfl,_⟩:=ii LY h2;obtain⟨c,rfl,_⟩:=ii LY h3;obtain⟨l,rfl,hl⟩:=OA h4;exact⟨⟨a,b,c,l⟩,rfl,hl⟩
def YX {n:Nat}{x:Da}(h:DT (n+1) 9 x):∃s,x= .str s:=by
 obtain⟨s,e⟩:=q9 Vw (Ib Vw h);simp only[lχ,and_true]at e;exact⟨s,e⟩
def WX {n:Nat}{x:Da}(h:DT (n+4) 25 x):∃l:List Va,x= .slice 5 (l.map Va.e)/\LB l:=by
 obtain⟨l,e,h1⟩:=OA (WY PT h);simp only[lχ,and_true]at e;exact⟨l,e,h1⟩
def call0_ok (L:Letters)(N:Nat):dZ prog0 globs0 (Ω N):=pd (P:=prog0) (G:=globs0) uT (lay0.okM L mvG) N
def Rc {n:Nat}:Ω (n+1) 9 [] []=some (pB true,[]):=by kernel_rfl
end
end
def D_ {α:Type}[DecidableEq α]{xs ys:List α}(hl:xs.length=ys.length):decide (xs=ys)=((xs.zip ys).all fun p=>!(!decide (p.1=p.2))):=by
 rw[mζ,mε,lδ];constructor
 ·rintro rfl p hp
  obtain⟨i,hi,rfl⟩:=qι hp;simp
 ·intro ha;refine List.ext_getElem hl fun i h1 h2=>?_
  have:=ha (xs[i],ys[i]) (by rw[<-List.getElem_zip (h:=by simp;omega)];exact lρ _);simpa using this
variable {m:Nat}
def t_ (xs ys:LI)(h:xs.length<1501\/ys.length<1501)(hm:1503<=m):Ω m 93 [pL 1 (xs.map iE),pL 1 (ys.map iE)] []=dX (decide (xs=ys)):=by
 replace hm:=ei hm;obtain⟨m,rfl,hm⟩:=hm;apply z_ m (xs.map iE) (ys.map iE);unfold Ϩ;simp only[lβ,cE,pp];by_cases hl:(xs.length:Int)=ys.length
 ·rw[if_pos hl];have hl':xs.length=ys.length:=by omega
  refine(bA (xs.zip ys) (fun q i=>itL (Ś _ m _ _) q (xs.map iE,ys.map iE,i)) (fun p=>!decide (p.1=p.2)) (fun i=>some (pB false,[])) (some (pB true,[])) (fun q i hi=>?_) (fun q=>?_) (by simp;omega)).trans ?_
  ·have hx:i<xs.length:=by simp at hi;omega
   have hy:i<ys.length:=by omega
   rw[bb];simp only[Ś,lβ,hZ (show((i:Int)<(xs.length:Int)) by omega),be,aU,bf,bw hx,bw hy,bG,dI,wS (show i<eH by unfold eH;omega),List.getElem_zip,cE];exact mj _ _ _
  ·rw[bb];simp only[Ś,lβ,show((xs.zip ys).length:Int)=xs.length by simp;omega,eT,bo]
  ·rw[D_ hl',jY];cases(xs.zip ys).findIdx? fun p=>!decide (p.1=p.2)<;>rfl
 ·rw[if_neg hl,mθ (by rintro rfl;exact hl rfl)]
def u_ (xs ys:List LN)(h:xs.length<1501\/ys.length<1501)(hm:1503<=m):Ω m 94 [pL 1 (xs.map .str),pL 1 (ys.map .str)] []=dX (decide (xs=ys)):=by
 replace hm:=ei hm;obtain⟨m,rfl,hm⟩:=hm;apply A_ m (xs.map .str) (ys.map .str);unfold ϩ;simp only[lβ,cE,pp];by_cases hl:(xs.length:Int)=ys.length
 ·rw[if_pos hl];have hl':xs.length=ys.length:=by omega
  refine(bA (xs.zip ys) (fun q i=>itL (ś _ m _ _) q (xs.map .str,ys.map .str,i)) (fun p=>!decide (p.1=p.2)) (fun i=>some (pB false,[])) (some (pB true,[])) (fun q i hi=>?_) (fun q=>?_) (by simp;omega)).trans ?_
  ·have hx:i<xs.length:=by simp at hi;omega
   have hy:i<ys.length:=by omega
   rw[bb];simp only[ś,lβ,hZ (show((i:Int)<(xs.length:Int)) by omega),be,aU,bf,bw hx,bw hy,bG,y8,wS (show i<eH by unfold eH;omega),List.getElem_zip,ma];exact mj _ _ _
  ·rw[bb];simp only[ś,lβ,show((xs.zip ys).length:Int)=xs.length by simp;omega,eT,bo]
  ·rw[D_ hl',jY];cases(xs.zip ys).findIdx? fun p=>!decide (p.1=p.2)<;>rfl
 ·rw[if_neg hl,mθ (by rintro rfl;exact hl rfl)]
def v_ (a b:Va)(hi:a.I.length<1501\/b.I.length<1501)(hl:a.L.length<1501\/b.L.length<1501)(hm:1504<=m):Ω m 50 [.p a.e,.p b.e] []=dX (fd a b):=by
 replace hm:=ei hm;obtain⟨m,rfl,hm⟩:=hm;apply B_ m a.r b.r;unfold Ϫ;show iL (az a.k b.k) _ _=_;have h1:=aa (t_ (m:=m) a.I b.I hi hm);have h2:=aa (u_ (m:=m) a.L b.L hl hm);simp only[Va.r,h1,h2,aY,aJ,aB,fd];cases az a.k b.k<;>cases az a.n b.n<;>cases cg a.s b.s<;>cases decide (a.I=b.I)<;>rfl
def ť:List Va->List Va->Bool
 |[],[]=>true
 |a::l,b::r=>fd a b&&ť l r
 |_,_=>false
def Ο (h:∀v,fd v v=true):∀l,ť l l=true
 |[]=>rfl
 |a::l=>by simp only[ť,h,Ο h l,Bool.and_self]
def Ξ:∀{a b:List Va},a.length≠b.length->ť a b=false
 |[],[],h=>absurd rfl h
 |[],_::_,_=>rfl
 |_::_,[],_=>rfl
 |a::l,b::r,h=>by simp only[ť,Ξ (a:=l) (b:=r) (by simpa using h),Bool.and_false]
def Ρ:∀(a b:List Va),a.length=b.length->ť a b=(a.zip b).all fun p=>!(!fd p.1 p.2)
 |[],[],_=>rfl
 |a::l,b::r,h=>by simp only[ť,List.zip_cons_cons,List.all_cons,Bool.not_not,Ρ l r (by simpa using h)]
def h_ (xs ys:List Va)(hx0:xs.length<1501)(hv:∀v∈xs,v.I.length<1501/\v.L.length<1501)(hm:1505<=m):Ω m 21 [pL 5 (xs.map Va.e),pL 5 (ys.map Va.e)] []=dX (ť xs ys):=by
 replace hm:=ei hm;obtain⟨m,rfl,hm⟩:=hm;apply l_ m (xs.map Va.e) (ys.map Va.e);unfold ύ;simp only[lβ,cE,pp];by_cases hl:(xs.length:Int)=ys.length
 ·rw[if_pos hl];have hl':xs.length=ys.length:=by omega
  refine(bA (xs.zip ys) (fun q i=>itL (Ŗ _ m _ _) q (xs.map Va.e,ys.map Va.e,i)) (fun p=>!fd p.1 p.2) (fun i=>some (pB false,[])) (some (pB true,[])) (fun q i hi=>?_) (fun q=>?_) (by simp;omega)).trans ?_
  ·have hx:i<xs.length:=by simp at hi;omega
   have hy:i<ys.length:=by omega
   obtain⟨h1,h2⟩:=hv _ (lρ hx);have hs:=aa (v_ xs[i] ys[i] (.inl h1) (.inl h2) (m:=m) hm);rw[bb];simp only[Ŗ,lβ,hZ (show((i:Int)<(xs.length:Int)) by omega),be,aU,bf,bw hx,bw hy,bG,OS,wS (show i<eH by unfold eH;omega),List.getElem_zip];refine(hs _).trans ?_;simp only[aY,aJ,aB];exact mj _ _ _
  ·rw[bb];simp only[Ŗ,lβ,show((xs.zip ys).length:Int)=xs.length by simp;omega,eT,bo]
  ·rw[Ρ _ _ hl',jY];cases(xs.zip ys).findIdx? fun p=>!fd p.1 p.2<;>rfl
 ·rw[if_neg hl,Ξ (by omega)]
def ϴ (v:Va):Bool:=(!az v.k 1&&(!az v.k 2&&!az v.n 0))||((!az v.k 3&&!cg v.s [])||((!az v.k 4&&aG 0 (j3 v.I))||(!az v.k 5&&aG 0 (j3 v.L))))
def ϑ (v:Va):Bool:=aG v.k 0||(aG 5 v.k||((az v.k 2&&(!az v.n 0&&!az v.n 1))||(aG 64 (j3 v.s)||(aG 16 (j3 v.I)||aG 16 (j3 v.L)))))
def O_ (cc:ae)(n:Nat)(k0:Bool×aw->R)(v:Va):ŝ cc n k0 v.r=k0 (ϴ v,v.r):=by
 unfold ŝ ϴ j3;simp only[Va.r,lβ];cases az v.k 1<;>cases az v.k 2<;>cases az v.n 0<;>cases az v.k 3<;>cases cg v.s []<;>cases az v.k 4<;>cases aG 0 (v.I.length:Int)<;>cases az v.k 5<;>cases aG 0 (v.L.length:Int)<;>rfl
def P_ (cc:ae)(n:Nat)(k0:Bool×aw->R)(v:Va):Ş cc n k0 v.r=k0 (ϑ v,v.r):=by
 unfold Ş ϑ j3;simp only[Va.r,lβ];cases aG v.k 0<;>cases aG 5 v.k<;>cases az v.k 2<;>cases az v.n 0<;>cases az v.n 1<;>cases aG 64 (v.s.length:Int)<;>cases aG 16 (v.I.length:Int)<;>cases aG 16 (v.L.length:Int)<;>rfl
def N_ (v:Va):ra v=(!ϴ v&&(!ϑ v&&v.L.all fun t=>!aG 64 (j3 t))):=by
 unfold ra ϴ ϑ xz xA HZ t8;have h12:az v.k 1=true->az v.k 2=false:=fun h=>by rw[eqI_t.1 h];rfl
 cases h:az v.k 1
 ·cases aG v.k 0<;>cases aG 5 v.k<;>cases az v.k 2<;>cases az v.n 0<;>cases az v.n 1<;>cases az v.k 3<;>cases cg v.s []<;>cases az v.k 4<;>cases aG 0 (j3 v.I)<;>cases az v.k 5<;>cases aG 0 (j3 v.L)<;>first|rfl|(cases aG 64 (j3 v.s)<;>cases aG 16 (j3 v.I)<;>cases aG 16 (j3 v.L)<;>rfl)
 ·rw[h12 h];cases aG v.k 0<;>cases aG 5 v.k<;>cases az v.n 0<;>cases az v.n 1<;>cases az v.k 3<;>cases cg v.s []<;>cases az v.k 4<;>cases aG 0 (j3 v.I)<;>cases az v.k 5<;>cases aG 0 (j3 v.L)<;>first|rfl|(cases aG 64 (j3 v.s)<;>cases aG 16 (j3 v.I)<;>cases aG 16 (j3 v.L)<;>rfl)
def i_ (v:Va)(hm:30<=m):Ω m 28 [.p v.e] []=dX (ra v):=by
 replace hm:=ei hm;obtain⟨m,rfl,hm⟩:=hm;apply m_ m v.r;unfold ώ;rw[N_];simp only[O_,P_];cases ϴ v
 ·cases h2:ϑ v
  ·have hl:v.L.length<=16:=by
    simp only[ϑ,qε]at h2;have h3:=h2.2.2.2.2.2;rw[bX,lζ]at h3;unfold j3 at h3;omega
   simp only[bo,Bool.not_false,Bool.true_and];refine(bA v.L (fun q i=>itL (ŗ _ m _ _) q (i,v.r)) (fun t=>aG 64 (j3 t)) (fun i=>some (pB false,[])) (some (pB true,[])) (fun q i hi=>?_) (fun q=>?_) (by omega)).trans ?_
   ·rw[bb];simp only[ŗ,show v.r.L=v.L.map Da.str from rfl,lβ,hZ (show((i:Int)<(v.L.length:Int)) by omega),be,aU,bf,bw hi,bG,y8,wS (show i<eH by unfold eH;omega)];exact mj _ _ _
   ·rw[bb];simp only[ŗ,show v.r.L=v.L.map Da.str from rfl,lβ,eT,bo]
   ·rw[jY];cases v.L.findIdx? fun t=>aG 64 (j3 t)<;>rfl
  ·rfl
 ·rfl
section
def wb (s:LI)(k:Nat):Int:=if s.length<=k then -1 else(s[s.length - 1 - k]?).getD 0
def agi (s:LI)(k:Nat)(hs:s.length<1501)(hk:k<10)(hm:1<=m):Ω m 144 [pL 1 (s.map iE),pI k] []=some (pI (wb s k),[]):=by
 replace hm:=ei hm;obtain⟨m,rfl,hm⟩:=hm;apply agl m (s.map iE) k;unfold afn wb;rw[lβ,bj,agw];by_cases h:(s.length:Int)<=(k:Int)
 ·rw[if_pos h,if_pos (by omega)]
 ·rw[if_neg h,if_neg (by omega)];rw[fO (n:=(s.length:Int) - 1) (by omega) (by omega),fO (by omega) (by omega),show(s.length:Int) - 1 - (k:Int)=((s.length - 1 - k:Nat):Int) by omega,aU,bf,bw (show s.length - 1 - k<s.length by omega),bG,dI,lε (show s.length - 1 - k<s.length by omega)];rfl
def eL (s w:LI):Bool:=decide (w.length<=s.length)&&decide (s.drop (s.length - w.length)=w)
def aeA (s w:LI)(hs:s.length<1501)(hm:1504<=m):Ω m 145 [pL 1 (s.map iE),pL 1 (w.map iE)] []=dX (eL s w):=by
 replace hm:=ei hm;obtain⟨m,rfl,hm⟩:=hm;apply afS m (s.map iE) (w.map iE);unfold aeD eL;simp only[lβ];by_cases h:w.length<=s.length
 ·rw[bj,show decide ((w.length:Int)<=(s.length:Int))=true from lν (by omega),be,fO (by omega) (by omega),show(s.length:Int) - (w.length:Int)=((s.length - w.length:Nat):Int) by omega,bj,show decide ((0:Int)<=((s.length - w.length:Nat):Int))=true from lν (by omega),be,bj,show decide (((s.length - w.length:Nat):Int)<=(s.length:Int))=true from lν (by omega),be,Int.toNat_natCast,<-List.map_drop,<-List.map_take,show s.length - (s.length - w.length)=w.length by omega,lκ (l:=s.drop (s.length - w.length)) (by rw[mυ];omega),aa (t_ (s.drop (s.length - w.length)) w (.inr (by omega)) (m:=m) (by omega)),lν h];simp only[aY,aJ,aB];cases decide (s.drop (s.length - w.length)=w)<;>rfl
 ·rw[bj,show decide ((w.length:Int)<=(s.length:Int))=false from mθ (by omega),mθ h];rfl
def aeT (xs ys:LI)(h:xs.length<1501)(hm:1503<=m):Ω m 93 [pL 1 (xs.map iE),.arr 0 0 ys.length 1] [.arr (ys.map iE)]=some (pB (decide (xs=ys)),[.arr (ys.map iE)]):=by
 replace hm:=ei hm;obtain⟨m,rfl,hm⟩:=hm;apply ae7 m (xs.map iE) ys.length (ys.map iE);unfold acf;simp only[lβ,cE,pp];by_cases hl:(xs.length:Int)=ys.length
 ·rw[if_pos hl];have hl':xs.length=ys.length:=by omega
  refine(bA (xs.zip ys) (fun q i=>itL (W_ _ m _ _) q (xs.map iE,ys.length,i,ys.map iE)) (fun p=>!decide (p.1=p.2)) (fun i=>some (pB false,[.arr (ys.map iE)])) (some (pB true,[.arr (ys.map iE)])) (fun q i hi=>?_) (fun q=>?_) (by simp;omega)).trans ?_
  ·have hx:i<xs.length:=by simp at hi;omega
   have hy:i<ys.length:=by omega
   have hg:(ys.map iE)[0+i]?=some (iE ys[i]):=by rw[Nat.zero_add,lξ,lε hy];rfl
   rw[bb];simp only[W_,lβ,hZ (show((i:Int)<(xs.length:Int)) by omega),be,aU,bf,bw hx,bG,dI,wS (show i<eH by unfold eH;omega),List.getElem_zip,cE,bj,show decide ((0:Int)<=(i:Int))=true from lν (by omega),hZ (show((i:Int)<(ys.length:Int)) by omega),Int.toNat_natCast,hg];exact mj _ _ _
  ·rw[bb];simp only[W_,lβ,show((xs.zip ys).length:Int)=xs.length by simp;omega,eT,bo]
  ·rw[D_ hl',jY];cases(xs.zip ys).findIdx? fun p=>!decide (p.1=p.2)<;>rfl
 ·rw[if_neg hl,mθ (by rintro rfl;exact hl rfl)]
def afj (s w:LI)(hs:s.length<1501)(hm:1504<=m):Ω m 145 [pL 1 (s.map iE),.arr 0 0 w.length 1] [.arr (w.map iE)]=some (pB (eL s w),[.arr (w.map iE)]):=by
 replace hm:=ei hm;obtain⟨m,rfl,hm⟩:=hm;apply afs m (s.map iE) w.length (w.map iE);unfold adk eL;simp only[lβ];by_cases h:w.length<=s.length
 ·rw[bj,show decide ((w.length:Int)<=(s.length:Int))=true from lν (by omega),be,fO (by omega) (by omega),show(s.length:Int) - (w.length:Int)=((s.length - w.length:Nat):Int) by omega,bj,show decide ((0:Int)<=((s.length - w.length:Nat):Int))=true from lν (by omega),be,bj,show decide (((s.length - w.length:Nat):Int)<=(s.length:Int))=true from lν (by omega),be,Int.toNat_natCast,<-List.map_drop,<-List.map_take,show s.length - (s.length - w.length)=w.length by omega,lκ (l:=s.drop (s.length - w.length)) (by rw[mυ];omega),aa (aeT (s.drop (s.length - w.length)) w (by rw[mυ];omega) (m:=m) (by omega)),lν h];simp only[aY,aJ,aR,eE,aB];cases decide (s.drop (s.length - w.length)=w)<;>rfl
 ·rw[bj,show decide ((w.length:Int)<=(s.length:Int))=false from mθ (by omega),mθ h];rfl
def fxE (tk:Nat)(ps:LI)(ok:Bool):Da:= .agg [.int .i64 tk,.slice 1 (ps.map iE),.bool ok]
def dFx (tk:Nat)(ps:LI)(ok:Bool)(K:eI->R):dS (fxE tk ps ok) K=K ⟨tk,ps.map iE,ok⟩:=rfl
def rFx (tk:Nat)(ps:LI)(ok:Bool):R:=some (.p (fxE tk ps ok),[])
def aa0 (s w ps:LI)(hs:s.length<1501)(hm:1505<=m):Ω m 143 [pL 1 (s.map iE),pL 1 (w.map iE),pL 1 (ps.map iE)] []=rFx w.length ps (eL s w):=by
 replace hm:=ei hm;obtain⟨m,rfl,hm⟩:=hm;apply afv m (s.map iE) (w.map iE) (ps.map iE);unfold adn;rw[aa (aeA s w hs (m:=m) hm)];simp only[aY,aJ,bM,lβ];cases eL s w<;>rfl
def aeW (s w ps:LI)(hs:s.length<1501)(hm:1505<=m):Ω m 143 [pL 1 (s.map iE),.arr 0 0 w.length 1,pL 1 (ps.map iE)] [.arr (w.map iE)]=some (.p (fxE w.length ps (eL s w)),[.arr (w.map iE)]):=by
 replace hm:=ei hm;obtain⟨m,rfl,hm⟩:=hm;apply afc m (s.map iE) w.length (w.map iE) (ps.map iE);unfold acj;rw[aa (afj s w hs (m:=m) hm)];simp only[aY,aJ,bM];cases eL s w<;>rfl
def acm {m:Nat}(k:Int)(n:Nat)(hn:n<100)(k0:_->R):∀(d q i:Nat),i+d=n->d<q->itL (aat (dC lay0.tab m) m k0) q (k,(n:Int),i,(i:Int),(List.replicate i k).map iE)=k0 (k,(n:Int),n,(n:Int),(List.replicate n k).map iE)
 |0,q+1,i,h,_=>by
  obtain rfl:i=n:=by omega
  rw[bb];simp only[aat,eT,bo]
 |d+1,q+1,i,h,hq=>by
  have hb:c8 (i+1) 8=true:=kX (by omega) (by omega);have hl:((List.replicate i k).map iE).length=i:=by rw[lβ,mμ]
  have ih:=acm (m:=m) k n hn k0 d q (i+1) (by omega) (by omega);rw[List.replicate_succ',List.map_append]at ih;rw[bb];simp only[aat,hZ (show((i:Int)<(n:Int)) by omega),be,hl,Nat.beq_refl,List.length_singleton,hb,mη,wS (show i<eH by unfold eH;omega)];exact ih
def aeB (k:Int){a:Int}(h0:0<=a)(h1:a<17)(hm:30<=m):Ω m 146 [pI k,pI a] []=some (pL 1 ((List.replicate a.toNat k).map iE),[]):=by
 replace hm:=ei hm;obtain⟨m,rfl,hm⟩:=hm;obtain⟨n,rfl⟩:∃n:Nat,a=(n:Int):=⟨a.toNat,by omega⟩
 apply afT m k (n:Int);unfold aeE;refine(acm k n (by omega) _ n m 0 (by omega) (by omega)).trans ?_;simp only[List.drop_zero];rw[lκ (by rw[lβ,mμ];omega),Int.toNat_natCast]
structure RfE (c:List Ct)(t:Ct)(m:Cm)(x:Cd)(s:LI)(tk:Nat)(ps:LI)(ok:Bool):Prop where
 y:ok=true->tk<=s.length/\tZ c t m x s=some (s.take (s.length - tk)++ps,decide (s.length - tk+ps.length<=40))
 n:ok=false->∀st,tZ c t m x s≠some (st,true)
 k:tk<1600
 p:ps.length<=1
section
variable {c:List Ct} {t:Ct} {m:Cm} {x:Cd} {s:LI}
variable {ps:LI}
def abq {tk:Nat}{ok:Bool}(h:tZ c t m x s=some (bif ok then(s.take (s.length - tk)++ps,decide (s.length - tk+ps.length<=40))else([],false)))(hl:ok=true->tk<=s.length)(hk:tk<1600)(hp:ps.length<=1):RfE c t m x s tk ps ok:=
 ⟨fun e=>⟨hl e,by rw[h,e];rfl⟩,(fun e st=>by rw[h,e];intro h2;cases h2),hk,hp⟩
variable {w:LI}
def abA {o:Int}(h:(az o 32||az o 30)=false):wd o s [(w,ps)]=bif eL s w then(s.take (s.length - w.length)++ps,decide (s.length - w.length+ps.length<=40))else([],false):=by
 unfold wd eL;rw[h,Bool.and_false];by_cases h1:s.length<w.length
 ·rw[lν h1,mθ (show ¬w.length<=s.length by omega)];rfl
 ·rw[mθ h1,lν (show w.length<=s.length by omega)];cases decide (s.drop (s.length - w.length)=w)<;>rfl
def aa2 (h:eL s w=true):w.length<=s.length:=by
 unfold eL at h;rw[lγ,lδ]at h;exact h.1
def acl (h:(az x.op 15||(az x.op 16||az x.op 31))=false):tZ c t m x s=(cN c t m x (c9 s)).map (wd x.op s):=by
 unfold tZ;rw[h,Bool.and_false];rfl
def m2 (h1:(az x.op 15||(az x.op 16||az x.op 31))=false)(h2:(az x.op 32||az x.op 30)=false)(he:cN c t m x (c9 s)=some [(w,ps)])(hk:w.length<1600)(hp:ps.length<=1):RfE c t m x s w.length ps (eL s w):=by
 refine abq ?_ aa2 hk hp;rw[acl h1,he,Option.map_some,abA h2]
def afK (h1:(az x.op 15||(az x.op 16||az x.op 31))=false)(h2:(az x.op 32||az x.op 30)=true)(he:cN c t m x (c9 s)=some [(w,ps)])(hk:w.length<1600)(hp:ps.length<=1):RfE c t m x s w.length ps (eL s w&&decide (s.length=w.length)):=by
 refine abq ?_ (fun h=>by rw[lγ]at h;exact aa2 h.1) hk hp;rw[acl h1,he,Option.map_some];unfold wd eL;rw[h2,Bool.and_true];by_cases h3:s.length<w.length
 ·rw[lν h3,mθ (show ¬w.length<=s.length by omega)];rfl
 ·rw[mθ h3,lν (show w.length<=s.length by omega)];by_cases h4:s.length=w.length
  ·rw[lν h4,mθ (show ¬0<s.length - w.length by omega)];cases decide (s.drop (s.length - w.length)=w)<;>rfl
  ·rw[mθ h4,lν (show 0<s.length - w.length by omega)];cases decide (s.drop (s.length - w.length)=w)<;>rfl
def aaR {k:Int}(h:s≠[]):eL s [k]=decide (c9 s=k):=by
 unfold eL c9;have hl:1<=s.length:=by cases s with|nil=>exact absurd rfl h|cons a r=>simp
 rw[lν (show([k]:LI).length<=s.length from hl),Bool.true_and];obtain⟨r,a,rfl⟩:∃r a,s=r++[a]:=⟨s.dropLast,s.getLast h,(List.dropLast_concat_getLast h).symm⟩;rw[show(r++[a]).length - ([k]:LI).length=r.length by simp,List.drop_left,List.getLastD_concat];exact decide_eq_decide.2 (by simp)
def adY (h:s≠[]):wb s 0=c9 s:=by
 obtain⟨r,a,rfl⟩:∃r a,s=r++[a]:=⟨s.dropLast,s.getLast h,(List.dropLast_concat_getLast h).symm⟩;unfold wb c9;rw[List.getLastD_concat,if_neg (by simp)];rw[show(r++[a]).length - 1 - 0=r.length by simp,lσ (Nat.le_refl _),Nat.sub_self];rfl
def abY (h:2<=s.length):∃r a b,s=r++[a,b]/\wb s 0=b/\wb s 1=a/\c9 s=b:=by
 have h0:s≠[]:=fun e=>by rw[e]at h;simp at h
 obtain⟨r',b,rfl⟩:∃r a,s=r++[a]:=⟨s.dropLast,s.getLast h0,(List.dropLast_concat_getLast h0).symm⟩;have h1:r'≠[]:=fun e=>by rw[e]at h;simp at h
 obtain⟨r,a,rfl⟩:∃r a,r'=r++[a]:=⟨r'.dropLast,r'.getLast h1,(List.dropLast_concat_getLast h1).symm⟩;refine⟨r,a,b,by simp,?_,?_,?_⟩
 ·rw[adY (by simp)];unfold c9;rw[List.getLastD_concat]
 ·unfold wb;rw[if_neg (by simp),show(r++[a]++[b]).length - 1 - 1=r.length by simp,mξ,lσ (Nat.le_refl _),Nat.sub_self];rfl
 ·unfold c9;rw[List.getLastD_concat]
def aey (h:3<=s.length):∃r z a b,s=r++[z,a,b]/\wb s 2=z:=by
 obtain⟨r',a,b,rfl,-⟩:=abY (s:=s) (by omega);have h1:r'≠[]:=fun e=>by rw[e]at h;simp at h
 obtain⟨r,z,rfl⟩:∃r a,r'=r++[a]:=⟨r'.dropLast,r'.getLast h1,(List.dropLast_concat_getLast h1).symm⟩;refine⟨r,z,a,b,by simp,?_⟩
 unfold wb;rw[if_neg (by simp),show(r++[z]++[a,b]).length - 1 - 2=r.length by simp,mξ,lσ (Nat.le_refl _),Nat.sub_self];rfl
def aaG {r:LI}{v:LI}(h:w.length=v.length):eL (r++v) w=decide (v=w):=by
 unfold eL;rw[lν (show w.length<=(r++v).length by rw[mη];omega),Bool.true_and,show(r++v).length - w.length=r.length by rw[mη];omega,List.drop_left]
def aag (h:s.length<w.length):eL s w=false:=by
 unfold eL;rw[mθ (show ¬w.length<=s.length by omega)];rfl
def Q_ {o:Int}{l:List Ek}(h:(az o 32||az o 30)=false):wd o s ((w,ps)::l)=bif eL s w then(s.take (s.length - w.length)++ps,decide (s.length - w.length+ps.length<=40))else wd o s l:=by
 rw[wd];unfold eL;rw[h,Bool.and_false];by_cases h1:s.length<w.length
 ·rw[lν h1,mθ (show ¬w.length<=s.length by omega)];rfl
 ·rw[mθ h1,lν (show w.length<=s.length by omega)];cases decide (s.drop (s.length - w.length)=w)<;>rfl
def agf (ho:x.op=15\/x.op=16):RfE c t m x s 2 [2] (decide (2<=s.length)&&az (wb s 0) (wb s 1)):=by
 have he:cN c t m x (c9 s)=some [([c9 s,c9 s],[2])]:=by
  obtain⟨op,a,b,v⟩:=x;rcases ho with rfl|rfl<;>rfl
 have h2:(az x.op 32||az x.op 30)=false:=by rcases ho with h|h<;>rw[h]<;>rfl
 refine abq ?_ (fun h=>by rw[lγ,lδ]at h;exact h.1) (by omega) (by simp);by_cases h:2<=s.length
 ·obtain⟨r,a,b,rfl,t0,t1,tt⟩:=abY h;have hne:(r++[a,b]).isEmpty=false:=by cases r<;>rfl
  unfold tZ;rw[hne,Bool.false_and,cond_false,he,Option.map_some,abA h2,lν h,t0,t1,tt,aaG (by rfl),Bool.true_and];have:decide ([a,b]=[b,b])=az b a:=by rw[cE];exact decide_eq_decide.2 (by simp[eq_comm])
  rw[this];rfl
 ·rw[mθ h,Bool.false_and,cond_false];unfold tZ;cases hs:s.isEmpty with
  |true=>rcases ho with h|h<;>rw[h]<;>rfl
  |false=>rw[Bool.false_and,cond_false,he,Option.map_some,abA h2,aag (by simp only[List.length_cons,List.length_nil];omega)];rfl
def af7 (ho:x.op=31):RfE c t m x s 1 [] (aL 1 s.length):=by
 have he:cN c t m x (c9 s)=some [([c9 s],[])]:=by
  obtain⟨op,a,b,v⟩:=x;subst ho;rfl
 refine abq ?_ (fun h=>by rw[bj,lδ]at h;omega) (by omega) (by simp);unfold tZ;rw[ho];cases s with
 |nil=>rfl
 |cons a r=>
  rw[show(a::r).isEmpty=false from rfl,Bool.false_and,cond_false,he,Option.map_some,abA (by rfl),aaR (by simp),lν rfl,show aL 1 ((a::r).length:Int)=true by rw[bj];exact lν (by simp only[List.length_cons];omega)];rfl
def aex {w1 w2 p1 p2:LI}{b:Bool}(h1:(az x.op 15||(az x.op 16||az x.op 31))=false)(h2:(az x.op 32||az x.op 30)=false)(he:cN c t m x (c9 s)=some [(w1,p1),(w2,p2)])(hb:b=true->eL s w2=false)(hb2:b=false->eL s w1=false)(hl:w1.length<1600/\w2.length<1600)(hp:p1.length<=1/\p2.length<=1):RfE c t m x s (bif b then w1.length else w2.length) (bif b then p1 else p2) (bif b then eL s w1 else eL s w2):=by
 cases b with
 |true=>
  refine abq ?_ aa2 hl.1 hp.1;rw[acl h1,he,Option.map_some,Q_ h2,Q_ h2,hb rfl];rfl
 |false=>
  refine abq ?_ aa2 hl.2 hp.2;rw[acl h1,he,Option.map_some,Q_ h2,Q_ h2,hb2 rfl];rfl
end
end
section
section
variable {m:Nat} (c:List Ct) (t:Ct) (me:Cm) (s:LI) (hs:s.length<1501) (hm:1600<=m)
include hs hm
def agC (w ps:LI):(dC lay0.tab m 143 [pL 1 (s.map iE),pL 1 (w.map iE),pL 1 (ps.map iE)] [] fun d o=>dP d fun x=>dS x fun u=>cf [] o<|some ((.p (.agg [(.int .i64 u.Takes),(.slice 1 u.Puts),(.bool u.OK)])),[]))=rFx w.length ps (eL s w):=by
 refine(aa (aa0 s w ps hs (m:=m) (by omega)) _).trans ?_;simp only[aY,dFx,bM];rfl
def aeU (x:Cd)(hi:gX c t me x=true)(hz:∀q,fA c x.a x.b=some q->q.params.length<1501):∃tk ps ok,Ω (m+1) 90 [.p (de c).e,.p t.e,.p me.e,.p x.e,pL 1 (s.map iE)] []=rFx tk ps ok/\RfE c t me x s tk ps ok:=by
 have tk:=agC s hs hm;suffices hF:∃tk ps ok,abj (dC lay0.tab m) m (de c) t.r me.r x.r (s.map iE)=rFx tk ps ok/\RfE c t me x s tk ps ok by
  obtain⟨tk,ps,ok,h1,h2⟩:=hF;exact⟨tk,ps,ok,afa m (de c) t.r me.r x.r (s.map iE) _ h1,h2⟩
 have h1:=jO hi;have sing:∀(k:Nat),k<10->Ω m 144 [pL 1 (s.map iE),pI k] []=some (pI (wb s k),[]):=fun k hk=>agi s k hs hk (by omega)
 have t0:∀K,dC lay0.tab m 144 [pL 1 (s.map iE),pI 0] [] K=K (pI (wb s 0)) []:=aa (sing 0 (by omega));have t1:∀K,dC lay0.tab m 144 [pL 1 (s.map iE),pI 1] [] K=K (pI (wb s 1)) []:=aa (sing 1 (by omega));have t2:∀K,dC lay0.tab m 144 [pL 1 (s.map iE),pI 2] [] K=K (pI (wb s 2)) []:=aa (sing 2 (by omega));have ee:∀w:LI,∀K,dC lay0.tab m 145 [pL 1 (s.map iE),pL 1 (w.map iE)] [] K=K (pB (eL s w)) []:=fun w=>aa (aeA s w hs (m:=m) (by omega))
 obtain⟨op,a,b,v⟩:=x;unfold abj;by_cases o1:op=1
 ·subst o1;exact⟨_,_,_,tk [] [v.k],m2 rfl rfl rfl (by simp) (by simp)⟩
 by_cases o2:op=2
 ·subst o2;have h1:fD a me.locals.length=true:=h1;rw[Hk]at h1;obtain⟨k,hk⟩:=Option.isSome_iff_exists.1 h1;refine⟨_,_,_,?_,m2 (w:=[]) (ps:=[k]) rfl rfl (show(dj me.locals a).map _=_ by rw[hk];rfl) (by simp) (by simp)⟩;show cL (bU (me.locals.map iE) a) _=_;rw[aU,bf,hk,bG,dI];exact tk [] [k]
 by_cases o4:op=4
 ·subst o4;have h1:fD a t.fields.length=true:=h1;rw[Hk]at h1;obtain⟨k,hk⟩:=Option.isSome_iff_exists.1 h1;refine⟨_,_,_,?_,m2 (w:=[]) (ps:=[k.kind]) rfl rfl (show(dj t.fields a).map _=_ by rw[hk];rfl) (by simp) (by simp)⟩;show cL (bU (t.fields.map Fe.e) a) _=_;rw[aU,bf,hk,bG,YN];exact tk [] [k.kind]
 by_cases o3:op=3
 ·subst o3;have h1:fD a me.locals.length=true:=h1;rw[Hk]at h1;obtain⟨k,hk⟩:=Option.isSome_iff_exists.1 h1;refine⟨_,_,_,?_,m2 (w:=[k]) (ps:=[]) rfl rfl (show(dj me.locals a).map _=_ by rw[hk];rfl) (by simp) (by simp)⟩;show cL (bU (me.locals.map iE) a) _=_;rw[aU,bf,hk,bG,dI];exact tk [k] []
 by_cases o5:op=5
 ·subst o5;have h1:fD a t.fields.length=true:=h1;rw[Hk]at h1;obtain⟨k,hk⟩:=Option.isSome_iff_exists.1 h1;refine⟨_,_,_,?_,m2 (w:=[k.kind]) (ps:=[]) rfl rfl (show(dj t.fields a).map _=_ by rw[hk];rfl) (by simp) (by simp)⟩;show cL (bU (t.fields.map Fe.e) a) _=_;rw[aU,bf,hk,bG,YN];exact tk [k.kind] []
 by_cases o6:op=6
 ·subst o6;exact⟨_,_,_,tk [] [3],m2 rfl rfl rfl (by simp) (by simp)⟩
 by_cases o7:op=7
 ·subst o7;exact⟨_,_,_,tk [1] [1],m2 rfl rfl rfl (by simp) (by simp)⟩
 by_cases o8:op=8
 ·subst o8;exact⟨_,_,_,tk [2] [2],m2 rfl rfl rfl (by simp) (by simp)⟩
 by_cases o9:op=9
 ·subst o9;exact⟨_,_,_,tk [1,1] [1],m2 rfl rfl rfl (by simp) (by simp)⟩
 by_cases o11:op=11
 ·subst o11;exact⟨_,_,_,tk [1,1] [1],m2 rfl rfl rfl (by simp) (by simp)⟩
 by_cases o12:op=12
 ·subst o12;exact⟨_,_,_,tk [1,1] [1],m2 rfl rfl rfl (by simp) (by simp)⟩
 by_cases o13:op=13
 ·subst o13;exact⟨_,_,_,tk [1,1] [1],m2 rfl rfl rfl (by simp) (by simp)⟩
 by_cases o14:op=14
 ·subst o14;exact⟨_,_,_,tk [1,1] [1],m2 rfl rfl rfl (by simp) (by simp)⟩
 by_cases o10:op=10
 ·subst o10;exact⟨_,_,_,tk [3,3] [3],m2 rfl rfl rfl (by simp) (by simp)⟩
 have eqop:∀{Z:R},Z=iL (aL 2 ((s.map iE).length:Int)) (dC lay0.tab m 144 [pL 1 (s.map iE),pI 0] [] fun d65 o66=>dP d65 fun x67=>ba .i64 x67 fun i68=>af o66<|dC lay0.tab m 144 [pL 1 (s.map iE),pI 1] [] fun d69 o70=>dP d69 fun x71=>ba .i64 x71 fun i72=>af o70<|iL (az i68 i72) (some ((.p (.agg [(.int .i64 2),(.slice 1 [Da.int .i64 2]),(.bool true)])),[])) (some ((.p (.agg [(.int .i64 2),(.slice 1 [Da.int .i64 2]),(.bool false)])),[]))) (some ((.p (.agg [(.int .i64 2),(.slice 1 [Da.int .i64 2]),(.bool false)])),[]))->Z=rFx 2 [2] (decide (2<=s.length)&&az (wb s 0) (wb s 1)):=fun {Z} e=>by
  rw[e,lβ,bj];by_cases h:2<=s.length
  ·rw[lν (show(2:Int)<=(s.length:Int) by omega),be,lν h,Bool.true_and];refine(t0 _).trans ?_;simp only[aY,bW,aB];refine(t1 _).trans ?_;simp only[aY,bW,aB];cases az (wb s 0) (wb s 1)<;>rfl
  ·rw[mθ (show ¬(2:Int)<=(s.length:Int) by omega),mθ h];rfl
 by_cases o15:op=15
 ·subst o15;exact⟨_,_,_,eqop rfl,agf (.inl rfl)⟩
 by_cases o16:op=16
 ·subst o16;exact⟨_,_,_,eqop rfl,agf (.inr rfl)⟩
 have less:∀{Z:R},Z=(dC lay0.tab m 145 [pL 1 (s.map iE),pL 1 (([1,1]:LI).map iE)] [] fun d81 o82=>dP d81 fun x83=>aH x83 fun b84=>cf [] o82<|iL b84 (some ((.p (.agg [(.int .i64 2),(.slice 1 [Da.int .i64 2]),(.bool true)])),[])) (dC lay0.tab m 145 [pL 1 (s.map iE),pL 1 (([3,3]:LI).map iE)] [] fun d85 o86=>dP d85 fun x87=>aH x87 fun b88=>cf [] o86<|iL b88 (some ((.p (.agg [(.int .i64 2),(.slice 1 [Da.int .i64 2]),(.bool true)])),[])) (some ((.p (.agg [(.int .i64 2),(.slice 1 [Da.int .i64 2]),(.bool false)])),[]))))->Z=rFx 2 [2] (eL s [1,1]||eL s [3,3]):=fun {Z} e=>by
  rw[e,ee];simp only[aY,aJ,bM,ee];cases eL s [1,1]<;>cases eL s [3,3]<;>rfl
 have rless:∀{x:Cd},(az x.op 15||(az x.op 16||az x.op 31))=false->(az x.op 32||az x.op 30)=false->cN c t me x (c9 s)=some [([1,1],[2]),([3,3],[2])]->RfE c t me x s 2 [2] (eL s [1,1]||eL s [3,3]):=fun {x} e1 e2 e3=>by
  refine abq ?_ (fun h=>?_) (by omega) (by simp)
  ·rw[acl e1,e3,Option.map_some,Q_ e2,Q_ e2];cases eL s [1,1]<;>cases eL s [3,3]<;>rfl
  ·rw[qγ]at h;rcases h with h|h<;>exact aa2 h
 by_cases o17:op=17
 ·subst o17;exact⟨_,_,_,less rfl,rless rfl rfl rfl⟩
 by_cases o18:op=18
 ·subst o18;exact⟨_,_,_,less rfl,rless rfl rfl rfl⟩
 by_cases o19:op=19
 ·subst o19;exact⟨_,_,_,less rfl,rless rfl rfl rfl⟩
 by_cases o20:op=20
 ·subst o20;exact⟨_,_,_,less rfl,rless rfl rfl rfl⟩
 by_cases o21:op=21
 ·subst o21;refine⟨1,[1],az (wb s 0) 3||(az (wb s 0) 4||az (wb s 0) 5),?_,?_⟩
  ·simp only[Cd.r,show az 21 1=false from rfl,show az 21 2=false from rfl,show az 21 4=false from rfl,show az 21 3=false from rfl,show az 21 5=false from rfl,show az 21 6=false from rfl,show az 21 7=false from rfl,show az 21 8=false from rfl,show az 21 9=false from rfl,show az 21 11=false from rfl,show az 21 12=false from rfl,show az 21 13=false from rfl,show az 21 14=false from rfl,show az 21 10=false from rfl,show az 21 15=false from rfl,show az 21 16=false from rfl,show az 21 17=false from rfl,show az 21 18=false from rfl,show az 21 19=false from rfl,show az 21 20=false from rfl,show az 21 21=true from rfl,bo,be];refine(t0 _).trans ?_;simp only[aY,bW,aB];cases az (wb s 0) 3<;>cases az (wb s 0) 4<;>cases az (wb s 0) 5<;>rfl
  ·by_cases hne:s=[]
   ·subst hne;exact⟨(fun h=>by cases h),(fun _ st h=>by cases h),by omega,by simp⟩
   ·refine abq ?_ (fun _=>by cases s with|nil=>exact absurd rfl hne|cons a r=>simp) (by omega) (by simp);rw[acl rfl,show cN c t me ⟨21,a,b,v⟩ (c9 s)=some [([3],[1]),([4],[1]),([5],[1])]from rfl,Option.map_some,Q_ rfl,Q_ rfl,Q_ rfl,aaR hne,aaR hne,aaR hne,adY hne,cE,cE,cE]
    cases decide (c9 s=3)<;>cases decide (c9 s=4)<;>cases decide (c9 s=5)<;>rfl
 have two:∀{w1 w2:LI},w1.length=2->w2.length=2->w1.head?=some 4->w2.head?=some 5->(az (wb s 1) 4=true->eL s w2=false)/\(az (wb s 1) 4=false->eL s w1=false):=fun {w1 w2} l1 l2 g1 g2=>by
  by_cases h:2<=s.length
  ·obtain⟨r,p,q,e,-,e1,-⟩:=abY h;rw[e1,e];obtain⟨p1,rfl⟩:∃p,w1=[4,p]:=by
    match w1,l1,g1 with
    |[x,y],_,g=>cases g;exact⟨y,rfl⟩
   obtain⟨p2,rfl⟩:∃p,w2=[5,p]:=by
    match w2,l2,g2 with
    |[x,y],_,g=>cases g;exact⟨y,rfl⟩
   rw[aaG (by rfl),aaG (by rfl)];refine⟨fun h=>mθ fun e=>?_,fun h=>mθ fun e=>?_⟩
   ·have h:=eqI_t.1 h;cases e;omega
   ·rw[cE,lζ]at h;cases e;exact h rfl
  ·exact⟨fun _=>aag (by omega),fun _=>aag (by omega)⟩
 by_cases o22:op=22
 ·subst o22;obtain⟨d1,d2⟩:=two (w1:=[4,1]) (w2:=[5,1]) rfl rfl rfl rfl;refine⟨_,_,_,?_,aex (w1:=[4,1]) (w2:=[5,1]) (p1:=[1]) (p2:=[3]) rfl rfl rfl d1 d2 (by simp) (by simp)⟩;simp only[Cd.r,show az 22 1=false from rfl,show az 22 2=false from rfl,show az 22 4=false from rfl,show az 22 3=false from rfl,show az 22 5=false from rfl,show az 22 6=false from rfl,show az 22 7=false from rfl,show az 22 8=false from rfl,show az 22 9=false from rfl,show az 22 11=false from rfl,show az 22 12=false from rfl,show az 22 13=false from rfl,show az 22 14=false from rfl,show az 22 10=false from rfl,show az 22 15=false from rfl,show az 22 16=false from rfl,show az 22 17=false from rfl,show az 22 18=false from rfl,show az 22 19=false from rfl,show az 22 20=false from rfl,show az 22 21=false from rfl,show az 22 22=true from rfl,bo,be];refine(t1 _).trans ?_;simp only[aY,bW,aB];cases az (wb s 1) 4
  ·exact tk [5,1] [3]
  ·exact tk [4,1] [1]
 by_cases o23:op=23
 ·subst o23;obtain⟨d1,d2⟩:=two (w1:=[4,1]) (w2:=[5,3]) rfl rfl rfl rfl;refine⟨_,_,_,?_,aex (w1:=[4,1]) (w2:=[5,3]) (p1:=[4]) (p2:=[5]) rfl rfl rfl d1 d2 (by simp) (by simp)⟩;simp only[Cd.r,show az 23 1=false from rfl,show az 23 2=false from rfl,show az 23 4=false from rfl,show az 23 3=false from rfl,show az 23 5=false from rfl,show az 23 6=false from rfl,show az 23 7=false from rfl,show az 23 8=false from rfl,show az 23 9=false from rfl,show az 23 11=false from rfl,show az 23 12=false from rfl,show az 23 13=false from rfl,show az 23 14=false from rfl,show az 23 10=false from rfl,show az 23 15=false from rfl,show az 23 16=false from rfl,show az 23 17=false from rfl,show az 23 18=false from rfl,show az 23 19=false from rfl,show az 23 20=false from rfl,show az 23 21=false from rfl,show az 23 22=false from rfl,show az 23 23=true from rfl,bo,be];refine(t1 _).trans ?_;simp only[aY,bW,aB];cases az (wb s 1) 4
  ·exact tk [5,3] [5]
  ·exact tk [4,1] [4]
 by_cases o24:op=24
 ·subst o24;have d:(az (wb s 2) 4=true->eL s [5,1,3]=false)/\(az (wb s 2) 4=false->eL s [4,1,1]=false):=by
   by_cases h:3<=s.length
   ·obtain⟨r,z,p,q,e,e1⟩:=aey h;rw[e1,e,aaG (by rfl),aaG (by rfl)];refine⟨fun h=>mθ fun e=>?_,fun h=>mθ fun e=>?_⟩
    ·have h:=eqI_t.1 h;cases e;omega
    ·rw[cE,lζ]at h;cases e;exact h rfl
   ·exact⟨fun _=>aag (by simp only[List.length_cons,List.length_nil];omega),fun _=>aag (by simp only[List.length_cons,List.length_nil];omega)⟩
  refine⟨_,_,_,?_,aex (w1:=[4,1,1]) (w2:=[5,1,3]) (p1:=[4]) (p2:=[5]) rfl rfl rfl d.1 d.2 (by simp) (by simp)⟩;simp only[Cd.r,show az 24 1=false from rfl,show az 24 2=false from rfl,show az 24 4=false from rfl,show az 24 3=false from rfl,show az 24 5=false from rfl,show az 24 6=false from rfl,show az 24 7=false from rfl,show az 24 8=false from rfl,show az 24 9=false from rfl,show az 24 11=false from rfl,show az 24 12=false from rfl,show az 24 13=false from rfl,show az 24 14=false from rfl,show az 24 10=false from rfl,show az 24 15=false from rfl,show az 24 16=false from rfl,show az 24 17=false from rfl,show az 24 18=false from rfl,show az 24 19=false from rfl,show az 24 20=false from rfl,show az 24 21=false from rfl,show az 24 22=false from rfl,show az 24 23=false from rfl,show az 24 24=true from rfl,bo,be];refine(t2 _).trans ?_;simp only[aY,bW,aB];cases az (wb s 2) 4
  ·exact tk [5,1,3] [5]
  ·exact tk [4,1,1] [4]
 by_cases o25:op=25
 ·subst o25;exact⟨_,_,_,tk [1] [3],m2 rfl rfl rfl (by simp) (by simp)⟩
 by_cases o26:op=26
 ·subst o26;obtain⟨w1,w2⟩:=EJ (n:=17) (show fD a 17=true from h1);refine⟨_,_,_,?_,m2 (w:=List.replicate a.toNat 1) (ps:=[4]) rfl rfl rfl (by rw[mμ];omega) (by simp)⟩;simp only[Cd.r,show az 26 1=false from rfl,show az 26 2=false from rfl,show az 26 4=false from rfl,show az 26 3=false from rfl,show az 26 5=false from rfl,show az 26 6=false from rfl,show az 26 7=false from rfl,show az 26 8=false from rfl,show az 26 9=false from rfl,show az 26 11=false from rfl,show az 26 12=false from rfl,show az 26 13=false from rfl,show az 26 14=false from rfl,show az 26 10=false from rfl,show az 26 15=false from rfl,show az 26 16=false from rfl,show az 26 17=false from rfl,show az 26 18=false from rfl,show az 26 19=false from rfl,show az 26 20=false from rfl,show az 26 21=false from rfl,show az 26 22=false from rfl,show az 26 23=false from rfl,show az 26 24=false from rfl,show az 26 25=false from rfl,show az 26 26=true from rfl,bo,be];refine(aa (aeB 1 w1 (by omega) (m:=m) (by omega)) _).trans ?_;simp only[aY,oU,aB];exact tk _ [4]
 by_cases o27:op=27
 ·subst o27;obtain⟨w1,w2⟩:=EJ (n:=17) (show fD a 17=true from h1);refine⟨_,_,_,?_,m2 (w:=List.replicate a.toNat 3) (ps:=[5]) rfl rfl rfl (by rw[mμ];omega) (by simp)⟩;simp only[Cd.r,show az 27 1=false from rfl,show az 27 2=false from rfl,show az 27 4=false from rfl,show az 27 3=false from rfl,show az 27 5=false from rfl,show az 27 6=false from rfl,show az 27 7=false from rfl,show az 27 8=false from rfl,show az 27 9=false from rfl,show az 27 11=false from rfl,show az 27 12=false from rfl,show az 27 13=false from rfl,show az 27 14=false from rfl,show az 27 10=false from rfl,show az 27 15=false from rfl,show az 27 16=false from rfl,show az 27 17=false from rfl,show az 27 18=false from rfl,show az 27 19=false from rfl,show az 27 20=false from rfl,show az 27 21=false from rfl,show az 27 22=false from rfl,show az 27 23=false from rfl,show az 27 24=false from rfl,show az 27 25=false from rfl,show az 27 26=false from rfl,show az 27 27=true from rfl,bo,be];refine(aa (aeB 3 w1 (by omega) (m:=m) (by omega)) _).trans ?_;simp only[aY,oU,aB];exact tk _ [5]
 by_cases o29:op=29
 ·subst o29;exact⟨_,_,_,tk [2] [],m2 rfl rfl rfl (by simp) (by simp)⟩
 by_cases o30:op=30
 ·subst o30;have h1:(fA c a b).isSome=true:=h1;obtain⟨z,hzz⟩:=Option.isSome_iff_exists.1 h1;have hpl:=hz z hzz;refine⟨(3::z.params).length,lz z,eL s (3::z.params)&&decide (s.length=(3::z.params).length),?_,afK rfl rfl (show(fA c a b).map _=_ by rw[hzz];rfl) (by simp only[List.length_cons];omega) (by unfold lz;cases az z.res 0<;>simp)⟩;have hq:=hzz;unfold fA at hq;obtain⟨u,hu,hq⟩:=Option.bind_eq_some_iff.1 hq;show cL (bU (c.map Ct.e) a) _=_;rw[aU,bf,hu,bG,Cs];show cL (bU (u.methods.map Cm.e) b) _=_;rw[aU,bf,hq,bG,FQ];show iL (!List.isEmpty [Da.int .i64 3]&&List.isEmpty (z.params.map iE)) _ _=_;cases hp:z.params with
  |nil=>
   rw[show(!List.isEmpty [Da.int .i64 3]&&List.isEmpty (([]:LI).map iE))=true from rfl,be];refine(aa (aa0 s [3] [] hs (m:=m) (by omega)) _).trans ?_;simp only[aY,dFx,bM,lβ];show iL (!az z.res 0) (iL (eL s [3]) (iL (az (s.length:Int) 1) _ _) _) (iL (eL s [3]) (iL (az (s.length:Int) 1) _ _) _)=_;unfold lz;rw[show az (s.length:Int) 1=decide (s.length=1) by rw[cE];exact decide_eq_decide.2 (by omega),show([3]:LI).length=1 from rfl];cases az z.res 0<;>cases eL s [3]<;>cases decide (s.length=1)<;>rfl
  |cons p r=>
   have hb:c8 ([Da.int .i64 3].length+((p::r).map iE).length) 8=true:=kX (by rw[lβ,<-hp];simp only[List.length_singleton];omega) (by omega);rw[show(!List.isEmpty [Da.int .i64 3]&&List.isEmpty ((p::r).map iE))=false from rfl,bo,show z.r.Params=(p::r).map iE by show z.params.map iE=_;rw[hp],hb,be];refine(aa (show Ω m 143 [pL 1 (s.map iE),.arr 0 0 ([Da.int .i64 3]++(p::r).map iE).length 1,pL 1 []] [.arr ([Da.int .i64 3]++(p::r).map iE)]=some (.p (fxE (3::p::r).length [] (eL s (3::p::r))),[.arr ([Da.int .i64 3]++(p::r).map iE)]) by
    have:=aeW (m:=m) s (3::p::r) [] hs (by omega);rw[show([Da.int .i64 3]++(p::r).map iE)=(3::p::r).map iE from rfl,lβ];exact this) _).trans ?_
   simp only[aY,dFx,bM,lβ];have hlen:az (s.length:Int) (([Da.int .i64 3]++(p::r).map iE).length:Int)=decide (s.length=(3::p::r).length):=by
    rw[cE,show([Da.int .i64 3]++(p::r).map iE).length=(3::p::r).length by simp];exact decide_eq_decide.2 (by omega)
   show iL (!az z.res 0) (iL (eL s (3::p::r)) (iL (az (s.length:Int) (([Da.int .i64 3]++(p::r).map iE).length:Int)) _ _) _) (iL (eL s (3::p::r)) (iL (az (s.length:Int) (([Da.int .i64 3]++(p::r).map iE).length:Int)) _ _) _)=_;rw[hlen];unfold lz;cases az z.res 0<;>cases eL s (3::p::r)<;>cases decide (s.length=(3::p::r).length)<;>rfl
 by_cases o31:op=31
 ·subst o31;refine⟨_,_,_,?_,af7 rfl⟩;show iL (aL 1 ((s.map iE).length:Int)) _ _=_;rw[lβ];cases aL 1 (s.length:Int)<;>rfl
 by_cases o32:op=32
 ·subst o32;refine⟨(lz me).length,[],eL s (lz me)&&decide (s.length=(lz me).length),?_,afK rfl rfl rfl (by unfold lz;cases az me.res 0<;>simp) (by simp)⟩;show iL (!az me.res 0) _ _=_;unfold lz;cases az me.res 0 with
  |true=>
   rw[Bool.not_true,bo];refine(aa (aa0 s [] [] hs (m:=m) (by omega)) _).trans ?_;simp only[aY,dFx,bM,lβ];rw[show az (s.length:Int) 0=decide (s.length=0) by rw[cE];exact decide_eq_decide.2 (by omega)];show iL (eL s []) (iL (decide (s.length=0)) _ _) _=rFx 0 [] (eL s []&&decide (s.length=0));cases eL s []<;>cases decide (s.length=0)<;>rfl
  |false=>
   rw[Bool.not_false,be];refine(aa (aa0 s [me.res] [] hs (m:=m) (by omega)) _).trans ?_;simp only[aY,dFx,bM,lβ];rw[show az (s.length:Int) ([Da.int .i64 me.r.Result].length:Int)=decide (s.length=1) by rw[cE,List.length_singleton];exact decide_eq_decide.2 (by omega)];show iL (eL s [me.res]) (iL (decide (s.length=1)) _ _) _=rFx 1 [] (eL s [me.res]&&decide (s.length=1));cases eL s [me.res]<;>cases decide (s.length=1)<;>rfl
 by_cases o34:op=34
 ·subst o34;exact⟨_,_,_,tk [3,1] [],m2 rfl rfl rfl (by simp) (by simp)⟩
 by_cases o35:op=35
 ·subst o35;exact⟨_,_,_,tk [3,1,1] [],m2 rfl rfl rfl (by simp) (by simp)⟩
 by_cases o36:op=36
 ·subst o36;exact⟨_,_,_,tk [3] [],m2 rfl rfl rfl (by simp) (by simp)⟩
 have ne:∀{k:Int},op≠k->az op k=false:=fun h=>by rw[cE];exact mθ h
 refine⟨_,_,_,?_,m2 (w:=[]) (ps:=[]) (by simp only[ne o15,ne o16,ne o31];rfl) (by simp only[ne o32,ne o30];rfl) ?_ (by simp) (by simp)⟩
 ·simp only[Cd.r,ne o1,ne o2,ne o3,ne o4,ne o5,ne o6,ne o7,ne o8,ne o9,ne o10,ne o11,ne o12,ne o13,ne o14,ne o15,ne o16,ne o17,ne o18,ne o19,ne o20,ne o21,ne o22,ne o23,ne o24,ne o25,ne o26,ne o27,ne o29,ne o30,ne o31,ne o32,ne o34,ne o35,ne o36,bo];exact tk [] []
 ·unfold cN;simp only[ne o1,ne o2,ne o3,ne o4,ne o5,ne o6,ne o7,ne o8,ne o9,ne o10,ne o11,ne o12,ne o13,ne o14,ne o15,ne o16,ne o17,ne o18,ne o19,ne o20,ne o21,ne o22,ne o23,ne o24,ne o25,ne o26,ne o27,ne o29,ne o30,ne o31,ne o32,ne o34,ne o35,ne o36,cond_false]
end
end
section
def aaI (st:LI)(set:Nat)(v:SV):Option (SV×Bool):=bif v.r then(bif decide (v.st=st)then some (⟨true,v.st,v.set &&& set⟩,!decide (v.set &&& set=v.set))else none)else some (⟨true,st,set⟩,true)
def aar (st:LI)(set:Nat):LI->List SV->Bool->Option (List SV×Bool)
 |[],s,b=>some (s,b)
 |to::r,s,b=>(s[to.toNat]?).bind fun v=>(aaI st set v).bind fun p=>aar st set r (s.set to.toNat p.1) (b||p.2)
def ptS (c:List Ct)(t:Ct)(m:Cm)(i:Nat)(s:List SV)(b:Bool):Option (List SV×Bool):=
 match m.code[i]?,s[i]? with
 |some x,some v=>bif v.r then(match tZ c t m x v.st with
   |some (st,true)=>bif(eM m i x).2 then aar st (lA x v.set) (eM m i x).1 s b else none
   |_=>none)else some (s,b)
 |_,_=>none
def abz (c:List Ct)(t:Ct)(m:Cm):Nat->Nat->List SV->Bool->Option (List SV×Bool)
 |0,_,s,b=>some (s,b)
 |d+1,i,s,b=>(ptS c t m i s b).bind fun p=>abz c t m d (i+1) p.1 p.2
def abx (c:List Ct)(t:Ct)(m:Cm):Nat->List SV->Option (List SV)
 |0,_=>none
 |e+1,s=>(abz c t m m.code.length 0 s false).bind fun p=>bif p.2 then abx c t m e p.1 else some p.1
def adQ (c:List Ct)(t:Ct)(m:Cm):Option (List SV):=(abx c t m (256*m.code.length+2) (EN m)).bind fun s=>bif(s.zip m.code).all nm then some s else none
def aeQ {b c:Nat}(h1:a &&& b=a)(h2:a &&& c=a):a &&& (b &&& c)=a:=by rw[<-Nat.and_assoc,h1,h2]
def af8 {b:Nat}(h1:a &&& b=a)(h2:b &&& a=b):a=b:=by rw[<-h1,Nat.and_comm,h2]
def acp {x:Cd}{b:Nat}(h:a &&& b=a):lA x a &&& lA x b=lA x a:=by
 unfold lA;cases az x.op 3 with
 |false=>exact h
 |true=>
  simp only[cond_true];apply Nat.eq_of_testBit_eq;intro i;have:=congrArg (fun n:Nat=>n.testBit i) h;simp only[Nat.testBit_and,Nat.testBit_or]at this ⊢
  revert this
  cases a.testBit i<;>cases b.testBit i<;>cases(2 ^ x.a.toNat).testBit i<;>simp
theorem afX {a b:Nat}:a &&& b<=a:=Nat.and_le_left
structure agE (st:LI)(set:Nat)(v p:SV)(b:Bool):Prop where
 r:p.r=true
 st:p.st=st
 sub:p.set &&& set=p.set
 old:v.r=true->p.st=v.st/\p.set &&& v.set=p.set
 no:b=false->p=v
 ph:set<256->(bif p.r then p.set else 256)<=(bif v.r then v.set else 256)/\(b=true->(bif p.r then p.set else 256)<(bif v.r then v.set else 256))/\p.set<256\/256<=v.set
variable {st:LI} {p:SV}
def acL {set:Nat}{v:SV}{b:Bool}(h:aaI st set v=some (p,b)):agE st set v p b:=by
 unfold aaI at h;obtain⟨r,s,n⟩:=v;simp only at h;cases r with
 |true=>
  rw[cond_true]at h;by_cases e:s=st
  ·subst e;rw[lν rfl,cond_true]at h;cases h;have hle:= @afX n set;have hsub:(n &&& set) &&& n=n &&& set:=by rw[Nat.and_assoc,Nat.and_comm set,<-Nat.and_assoc,Nat.and_self]
   have hs2:(n &&& set) &&& set=n &&& set:=by rw[Nat.and_assoc,Nat.and_self]
   refine⟨rfl,rfl,hs2,fun _=>⟨rfl,hsub⟩,fun hb=>?_,fun h2=>?_⟩
   ·simp only[Bool.not_eq_false',lδ]at hb;rw[hb]
   ·by_cases h3:256<=n
    ·exact .inr h3
    ·refine .inl ⟨hle,fun hb=>?_,by show n &&& set<256;omega⟩
     simp only[Bool.not_eq_true',lζ]at hb;show n &&& set<n;omega
  ·rw[mθ e]at h;cases h
 |false=>
  rw[cond_false]at h;cases h;refine⟨rfl,rfl,Nat.and_self _,(fun h=>by cases h),(fun h=>by cases h),fun h2=> .inl ⟨?_,fun _=>?_,h2⟩⟩
  ·show set<=256;omega
  ·show set<256;omega
def UpS (u s:List SV):Prop:=∀(i:Nat) (v w:SV),s[i]?=some v->v.r=true->u[i]?=some w->v.st=w.st/\w.set &&& v.set=w.set
def aez {u s:List SV}{i:Nat}{v w:SV}(h:UpS u s)(hw:u[i]?=some w)(h1:v.st=w.st)(h2:w.set &&& v.set=w.set):UpS u (s.set i v):=fun k v' w' hv hr hw'=>by
 by_cases hk:i=k
 ·subst hk;rw[hw]at hw';cases hw';have hv2:=hv;rw[List.getElem?_set]at hv;simp only[if_true]at hv;split at hv
  ·cases hv;exact⟨h1,h2⟩
  ·cases hv
 ·rw[mρ hk]at hv;exact h k v' w' hv hr hw'
def agD {u s:List SV}{to:Nat}{set0 set:Nat}{v:SV}{b:Bool}(h:UpS u s)(hs:s[to]?=some v)(hm:agE st set v p b)(hp:p.set=(bif v.r then v.set &&& set else set))(hsub:set0 &&& set=set0)(hu:Has u to st set0):UpS u (s.set to p):=by
 obtain⟨z,hz,hzr,hzs,hzb⟩:=hu;refine aez h hz (by rw[hm.st,hzs]) ?_;have h1:z.set &&& set=z.set:=QG hzb hsub;rw[hp];cases hr:v.r with
 |true=>exact aeQ (h to v z hs hr hz).2 h1
 |false=>exact h1
def aeM {set:Nat}{v:SV}{b:Bool}(h:aaI st set v=some (p,b)):p.set=(bif v.r then v.set &&& set else set):=by
 unfold aaI at h;revert h;cases v.r with
 |true=>
  rw[cond_true];cases decide (v.st=st)with
  |true=>intro h;cases h;rfl
  |false=>intro h;cases h
 |false=>intro h;cases h;rfl
def LeS.set' {s:List SV}{i:Nat}{v:SV}(hv:s[i]?=some v)(h1:v.r=true->p.r=true/\p.st=v.st/\p.set &&& v.set=p.set):LeS s (s.set i p):=fun k w hw hr=>by
 by_cases hk:i=k
 ·subst hk;rw[hv]at hw;cases hw;obtain⟨a,b,c⟩:=h1 hr;exact⟨p,mψ (List.getElem?_eq_some_iff.1 hv).1,a,b,c⟩
 ·exact⟨w,(mρ hk).trans hw,hr,rfl,Nat.and_self _⟩
def aco {s:List SV}{i:Nat}{v:SV}(h:s[i]?=some v):s.set i v=s:=by
 apply List.ext_getElem?;intro k;by_cases hk:i=k
 ·subst hk;rw[mψ (List.getElem?_eq_some_iff.1 h).1,h]
 ·rw[mρ hk]
structure agj (c:Prop)(s s':List SV)(b b':Bool):Prop where
 l:LeS s s'
 n:b'=false->b=false/\s'=s/\c
 p:GJ s'<=GJ s/\(b'=true->b=true\/GJ s'<GJ s)
def adK {me:Cm}{st:LI}{set:Nat}(h1:st.length<=40)(h2:set<256):∀{tos:LI} {s s':List SV} {b b':Bool},aar st set tos s b=some (s',b')->yO me s->yO me s'/\agj (∀to∈tos,Has s to.toNat st set) s s' b b'/\∀Q:Nat->Prop,(∀to∈tos,Q to.toNat)->(∀(i:Nat) (v:SV),s[i]?=some v->v.r=true->Q i)->∀(i:Nat) (v:SV),s'[i]?=some v->v.r=true->Q i
 |[],s,s',b,b',h,hs=>by
  cases h;exact⟨hs,⟨LeS.rfl' s,fun h=>⟨h,rfl,fun _ h=>by cases h⟩,Nat.le_refl _,fun h=> .inl h⟩,fun Q _ hq=>hq⟩
 |to::r,s,s',b,b',h,hs=>by
  unfold aar at h;obtain⟨v,hv,h⟩:=Option.bind_eq_some_iff.1 h;obtain⟨⟨p,b1⟩,hp,h⟩:=Option.bind_eq_some_iff.1 h;replace h:aar st set r (s.set to.toNat p) (b||b1)=some (s',b'):=h;have mo:=acL hp;have hl:=(List.getElem?_eq_some_iff.1 hv).1;have hg:=(List.getElem?_eq_some_iff.1 hv).2;have hvm:=hs.v v (hg▸lρ hl);obtain⟨q1,q2,q3⟩:(bif p.r then p.set else 256)<=(bif v.r then v.set else 256)/\(b1=true->(bif p.r then p.set else 256)<(bif v.r then v.set else 256))/\p.set<256:=by
   rcases mo.ph h2 with h|h
   ·exact h
   ·omega
  have hs1:yO me (s.set to.toNat p):=hs.set _ (by rw[mo.st];exact h1) q3;obtain⟨r1,r2,r3⟩:=adK h1 h2 h hs1;have hle:LeS s (s.set to.toNat p):=LeS.set' hv fun hr=>⟨mo.r,mo.old hr⟩
  have hph:=sU s to.toNat hl p;rw[hg]at hph;have hhas:Has (s.set to.toNat p) to.toNat st set:=⟨p,mψ hl,mo.r,mo.st,mo.sub⟩;refine⟨r1,⟨hle.tr r2.l,fun hb=>?_,by have:=r2.p.1;omega,fun hb=>?_⟩,fun Q hq hs2=>r3 Q (fun k hk=>hq k (mα _ hk)) fun i w hw hr=>?_⟩
  ·obtain⟨e1,e2,e3⟩:=r2.n hb;rw[qε]at e1;have hpv:=mo.no e1.2;rw[hpv,aco hv]at e2 e3;rw[hpv,aco hv]at hhas;refine⟨e1.1,e2,fun k hk=>?_⟩
   rcases lω.1 hk with rfl|hk
   ·exact hhas
   ·exact e3 k hk
  ·rcases r2.p.2 hb with hb|hb
   ·rw[qγ]at hb;rcases hb with hb|hb
    ·exact .inl hb
    ·have:=q2 hb;have:=r2.p.1;exact .inr (by omega)
   ·exact .inr (by omega)
  ·by_cases hk:to.toNat=i
   ·subst hk;exact hq to lυ
   ·rw[mρ hk]at hw;exact hs2 i w hw hr
def aeN {me:Cm}{u:List SV}{st:LI}{set0 set:Nat}(h1:st.length<=40)(h2:set<256)(hsub:set0 &&& set=set0):∀(tos:LI) (s:List SV) (b:Bool),UpS u s->yO me s->(∀to∈tos,Has u to.toNat st set0/\to.toNat<me.code.length)->∃s' b',aar st set tos s b=some (s',b')/\UpS u s'
 |[],s,b,hu,hs,_=>⟨s,b,rfl,hu⟩
 |to::r,s,b,hu,hs,hto=>by
  obtain⟨hh,hlt⟩:=hto to lυ;have hl:to.toNat<s.length:=by rw[hs.n];exact hlt
  have hv:=lε hl;generalize s[to.toNat]=v at hv;obtain⟨p,b1,hp⟩:∃p b1,aaI st set v=some (p,b1):=by
   unfold aaI;cases hr:v.r with
   |false=>exact⟨_,_,rfl⟩
   |true=>
    obtain⟨z,hz,hzr,hzs,hzb⟩:=hh;have:=(hu _ _ _ hv hr hz).1;rw[cond_true,show decide (v.st=st)=true from lν (by rw[this,hzs])];exact⟨_,_,rfl⟩
  have mo:=acL hp;have hvm:=hs.v v ((List.getElem?_eq_some_iff.1 hv).2▸lρ hl);have q3:p.set<256:=by
   rcases mo.ph h2 with h|h
   ·exact h.2.2
   ·omega
  have hs1:yO me (s.set to.toNat p):=hs.set _ (by rw[mo.st];exact h1) q3;obtain⟨s',b',e,hs'⟩:=aeN h1 h2 hsub r (s.set to.toNat p) (b||b1) (agD hu hv mo (aeM hp) hsub hh) hs1 fun k hk=>hto k (mα _ hk)
  refine⟨s',b',?_,hs'⟩;unfold aar;rw[hv,Option.bind_some,hp,Option.bind_some];exact e
structure Fam (c:List Ct)(t:Ct)(m:Cm)(u:List SV):Prop where
 o:yO m u
 z:∃v:SV,u[0]?=some v/\v.st=[]/\v.set &&& (2 ^ m.params.length - 1)=v.set
 c:∀pc,Con c t m u pc
 r:∀v∈u,v.r=true
section
variable {c:List Ct} {t:Ct} {m:Cm}
def aeO {u:List SV}{st:LI}{set0 set:Nat}(h1:st.length<=40)(h2:set<256)(hsub:set0 &&& set=set0):∀(tos:LI) (s:List SV) (w:LN),UpS u s->yO m s->(∀to∈tos,Has u to.toNat st set0/\to.toNat<m.code.length)->∃s' w',lm st set tos s w=some (s',w')/\UpS u s'
 |[],s,w,hu,hs,_=>⟨s,w,rfl,hu⟩
 |to::r,s,w,hu,hs,hto=>by
  obtain⟨hh,hlt⟩:=hto to lυ;have hl:to.toNat<s.length:=by rw[hs.n];exact hlt
  have hv:=lε hl;generalize s[to.toNat]=v at hv;obtain⟨s1,w1,hp,hu1⟩:∃s1 w1,D1 st set to s w=some (s1,w1)/\UpS u s1:=by
   obtain⟨z,hz,hzr,hzs,hzb⟩:=hh;have h1:z.set &&& set=z.set:=QG hzb hsub;unfold D1;rw[hv];simp only;cases hr:v.r with
   |false=>exact⟨_,_,rfl,aez hu hz hzs.symm h1⟩
   |true=>
    obtain⟨a1,a2⟩:=hu _ _ _ hv hr hz;rw[cond_true,show decide (v.st=st)=true from lν (by rw[a1,hzs]),cond_true];cases decide (v.set &&& set=v.set)with
    |true=>exact⟨_,_,rfl,hu⟩
    |false=>exact⟨_,_,rfl,aez hu hz a1 (aeQ a2 h1)⟩
  obtain⟨o1,-⟩:=X1 hp hs h1 h2;obtain⟨s',w',e,hs'⟩:=aeO h1 h2 hsub r s1 w1 hu1 o1 fun k hk=>hto k (mα _ hk)
  refine⟨s',w',?_,hs'⟩;unfold lm;rw[hp,Option.bind_some];exact e
def aeq {st:LI}{set:Nat}(Q:Nat->Prop):∀{tos:LI} {s s':List SV} {w w':LN},lm st set tos s w=some (s',w')->(∀to∈tos,Q to.toNat)->(∀(i:Nat) (v:SV),s[i]?=some v->v.r=true->Q i)->(∀p∈w,Q p)->(∀(i:Nat) (v:SV),s'[i]?=some v->v.r=true->Q i)/\∀p∈w',Q p
 |[],s,s',w,w',h,_,h1,h2=>by cases h;exact⟨h1,h2⟩
 |to::r,s,s',w,w',h,hq,h1,h2=>by
  unfold lm at h;obtain⟨⟨s1,w1⟩,hp,h⟩:=Option.bind_eq_some_iff.1 h;replace h:lm st set r s1 w1=some (s',w'):=h;have hto:=hq to lυ;have put:∀p:SV,∀(i:Nat) (v:SV),(s.set to.toNat p)[i]?=some v->v.r=true->Q i:=fun p i v hv hr=>by
   by_cases hk:to.toNat=i
   ·exact hk▸hto
   ·rw[mρ hk]at hv;exact h1 i v hv hr
  have put2:∀p∈to.toNat::w,Q p:=fun p hp=>by
   rcases lω.1 hp with rfl|hp
   ·exact hto
   ·exact h2 p hp
  have:(∀(i:Nat) (v:SV),s1[i]?=some v->v.r=true->Q i)/\∀p∈w1,Q p:=by
   unfold D1 at hp;revert hp;cases s[to.toNat]? with
   |none=>intro h;cases h
   |some v=>
    simp only;cases v.r with
    |false=>intro h;cases h;exact⟨put _,put2⟩
    |true=>
     cases decide (v.st=st)with
     |false=>intro h;cases h
     |true=>
      cases decide (v.set &&& set=v.set)with
      |false=>intro h;cases h;exact⟨put _,put2⟩
      |true=>intro h;cases h;exact⟨h1,h2⟩
  exact aeq Q h (fun k hk=>hq k (mα _ hk)) this.1 this.2
def afw (Q:Nat->Prop)(hq:∀(pc:Nat) (x:Cd),m.code[pc]?=some x->Q pc->∀to∈(eM m pc x).1,Q to.toNat):∀{e:Nat} {s s':List SV} {w:LN},oH c t m e s w=some s'->(∀(i:Nat) (v:SV),s[i]?=some v->v.r=true->Q i)->(∀p∈w,Q p)->∀(i:Nat) (v:SV),s'[i]?=some v->v.r=true->Q i
 |0,s,s',w,h,h1,_=>by cases h;exact h1
 |e+1,s,s',[],h,h1,_=>by cases h;exact h1
 |e+1,s,s',pc::w,h,h1,h2=>by
  unfold oH at h;revert h;cases hx:m.code[pc]? with
  |none=>intro h;cases h
  |some x=>
  cases hv:s[pc]? with
  |none=>intro h;cases h
  |some v=>
   simp only;split
   ·cases(eM m pc x).2 with
    |false=>intro h;cases h
    |true=>
     rw[cond_true];intro h;obtain⟨⟨s1,w1⟩,e1,h⟩:=Option.bind_eq_some_iff.1 h;replace h:oH c t m e s1 w1=some s':=h;obtain⟨q1,q2⟩:=aeq Q e1 (hq pc x hx (h2 pc lυ)) h1 fun p hp=>h2 p (mα _ hp)
     exact afw Q hq h q1 q2
   ·intro h;cases h
def agz {i:Nat}{v:SV}(h:(EN m)[i]?=some v)(hr:v.r=true):i=0:=by
 by_cases hp:i=0
 ·exact hp
 ·unfold EN at h;rw[mρ (fun e=>hp e.symm),List.getElem?_replicate]at h;by_cases hpl:i<m.code.length
  ·rw[if_pos hpl]at h;cases h;cases hr
  ·rw[if_neg hpl]at h;cases h
def afC {s u:List SV}(h1:Fam c t m s)(h2:Fam c t m u)(h3:UpS u s)(h4:UpS s u):s=u:=by
 apply List.ext_getElem (by rw[h1.o.n,h2.o.n]);intro i a b;have ha:=lε a;have hb:=lε b;have hra:=h1.r _ (lρ a);have hrb:=h2.r _ (lρ b);generalize s[i]=v at*
 generalize u[i]=w at*
 obtain⟨e1,e2⟩:=h3 i v w ha hra hb;obtain⟨-,e4⟩:=h4 i w v hb hrb ha;obtain⟨r1,t1,n1⟩:=v;obtain⟨r2,t2,n2⟩:=w;simp only at*
 subst hra hrb e1;rw[af8 e2 e4]
def afA {s:List SV}(hc:∀(pc:Nat) (v:SV),s[pc]?=some v->v.r=true->Con c t m s pc)(hn:s.length=m.code.length):∀(pc:Nat) (x:Cd),m.code[pc]?=some x->(∃v:SV,s[pc]?=some v/\v.r=true)->∀to∈(eM m pc x).1,∃v:SV,s[to.toNat]?=some v/\v.r=true:=fun pc x hx ⟨v,hv,hr⟩ to hto=>by
 obtain⟨st',-,-,h3⟩:=hc pc v hv hr x v hx hv;obtain⟨z,hz,hzr,-⟩:=h3 to hto;exact⟨z,hz,hzr⟩
def aef {s:List SV}(hn:s.length=m.code.length)(h:(s.zip m.code).all nm=true):∀v∈s,v.r=true:=fun v hv=>by
 obtain⟨i,hi,rfl⟩:=qι hv;have:=mε.1 h ((s.zip m.code)[i]'(by rw[qα];omega)) (lρ _);rw[List.getElem_zip]at this;unfold nm at this;rw[lγ]at this;exact this.1
def aga {s:List SV}(hn:s.length=m.code.length){u:List SV}(hu:Fam c t m u)(h:∀(i:Nat) (v:SV),u[i]?=some v->v.r=true->∃w:SV,s[i]?=some w/\w.r=true):∀v∈s,v.r=true:=fun v hv=>by
 obtain⟨i,hi,rfl⟩:=qι hv;have hb:=lε (show i<u.length by rw[hu.o.n];omega);obtain⟨w,hw,hr⟩:=h i _ hb (hu.r _ (lρ _));rw[lε hi]at hw;cases hw;exact hr
end
section
variable {c:List Ct} {t:Ct} {m:Cm} (hf:HI c t m)
include hf
def afJ {i:Nat}{s s':List SV}{b b':Bool}(h:ptS c t m i s b=some (s',b'))(hs:yO m s):yO m s'/\agj (∀v:SV,s[i]?=some v->v.r=true->Con c t m s i) s s' b b'/\∀Q:Nat->Prop,(∀(pc:Nat) (x:Cd),m.code[pc]?=some x->Q pc->∀to∈(eM m pc x).1,Q to.toNat)->(∀(i:Nat) (v:SV),s[i]?=some v->v.r=true->Q i)->∀(i:Nat) (v:SV),s'[i]?=some v->v.r=true->Q i:=by
 unfold ptS at h;cases hx:m.code[i]? with
 |none=>rw[hx]at h;cases h
 |some x=>
 cases hv:s[i]? with
 |none=>rw[hx,hv]at h;cases h
 |some v=>
 rw[hx,hv]at h;simp only at h;have hin:=hf.i x (mδ hx);have hvm:=hs.v v (mδ hv);cases hr:v.r with
 |false=>
  rw[hr,cond_false]at h;cases h;refine⟨hs,⟨LeS.rfl' s,fun h=>⟨h,rfl,fun w hw hwr=>?_⟩,Nat.le_refl _,fun h=> .inl h⟩,fun Q _ hq=>hq⟩
  cases hw;rw[hr]at hwr;cases hwr
 |true=>
  rw[hr,cond_true]at h;revert h;split
  ·rename_i st ha;cases h2:(eM m i x).2 with
   |false=>intro h;cases h
   |true=>
    rw[cond_true];intro h;obtain⟨r1,r2,r3⟩:=adK (yT ha) (G5 hin hf.l hvm.2) h hs;refine⟨r1,⟨r2.l,fun hb=>?_,r2.p⟩,fun Q hq hs2=>r3 Q (hq i x hx (hs2 i v hv hr)) hs2⟩
    obtain⟨e1,e2,e3⟩:=r2.n hb;refine⟨e1,e2,fun w hw hwr x' v' hx' hv'=>?_⟩
    rw[hx]at hx';cases hx';rw[hv]at hv';cases hv';exact⟨st,ha,h2,e3⟩
  ·intro h;cases h
def abC:∀{d i:Nat} {s s':List SV} {b b':Bool},abz c t m d i s b=some (s',b')->yO m s->yO m s'/\agj (∀k,i<=k->k<i+d->∀v:SV,s[k]?=some v->v.r=true->Con c t m s k) s s' b b'/\∀Q:Nat->Prop,(∀(pc:Nat) (x:Cd),m.code[pc]?=some x->Q pc->∀to∈(eM m pc x).1,Q to.toNat)->(∀(i:Nat) (v:SV),s[i]?=some v->v.r=true->Q i)->∀(i:Nat) (v:SV),s'[i]?=some v->v.r=true->Q i
 |0,i,s,s',b,b',h,hs=>by
  cases h;exact⟨hs,⟨LeS.rfl' s,fun h=>⟨h,rfl,fun k h1 h2=>by omega⟩,Nat.le_refl _,fun h=> .inl h⟩,fun Q _ hq=>hq⟩
 |d+1,i,s,s',b,b',h,hs=>by
  unfold abz at h;obtain⟨⟨s1,b1⟩,hp,h⟩:=Option.bind_eq_some_iff.1 h;replace h:abz c t m d (i+1) s1 b1=some (s',b'):=h;obtain⟨p1,p2,p3⟩:=afJ hf hp hs;obtain⟨r1,r2,r3⟩:=abC h p1;refine⟨r1,⟨p2.l.tr r2.l,fun hb=>?_,by have:=p2.p.1;have:=r2.p.1;omega,fun hb=>?_⟩,fun Q hq hs2=>r3 Q hq (p3 Q hq hs2)⟩
  ·obtain⟨e1,e2,e3⟩:=r2.n hb;obtain⟨f1,rfl,f3⟩:=p2.n e1;refine⟨f1,e2,fun k h1 h2=>?_⟩
   by_cases hk:k=i
   ·subst hk;exact f3
   ·exact e3 k (by omega) (by omega)
  ·have:=p2.p.1;rcases r2.p.2 hb with hb|hb
   ·rcases p2.p.2 hb with hb|hb
    ·exact .inl hb
    ·have:=r2.p.1;exact .inr (by omega)
   ·exact .inr (by omega)
def abQ:∀{e:Nat} {s s':List SV},abx c t m e s=some s'->yO m s->yO m s'/\LeS s s'/\(∀(pc:Nat) (v:SV),s'[pc]?=some v->v.r=true->Con c t m s' pc)/\∀Q:Nat->Prop,(∀(pc:Nat) (x:Cd),m.code[pc]?=some x->Q pc->∀to∈(eM m pc x).1,Q to.toNat)->(∀(i:Nat) (v:SV),s[i]?=some v->v.r=true->Q i)->∀(i:Nat) (v:SV),s'[i]?=some v->v.r=true->Q i
 |e+1,s,s',h,hs=>by
  unfold abx at h;obtain⟨⟨s1,b1⟩,hp,h⟩:=Option.bind_eq_some_iff.1 h;replace h:(bif b1 then abx c t m e s1 else some s1)=some s':=h;obtain⟨r1,r2,r3⟩:=abC hf hp hs;cases b1 with
  |true=>
   obtain⟨a1,a2,a3,a4⟩:=abQ h r1;exact⟨a1,r2.l.tr a2,a3,fun Q hq hs2=>a4 Q hq (r3 Q hq hs2)⟩
  |false=>
   cases h;obtain⟨-,e2,e3⟩:=r2.n rfl;subst e2;refine⟨hs,LeS.rfl' _,fun pc v hv hr=>e3 pc (by omega) ?_ v hv hr,fun Q hq hs2=>hs2⟩
   have:=(List.getElem?_eq_some_iff.1 hv).1;rw[hs.n]at this;omega
def agL {u:List SV}(hu:Fam c t m u){i:Nat}(hi:i<m.code.length)(s:List SV)(b:Bool)(hs:yO m s)(h:UpS u s):∃s' b',ptS c t m i s b=some (s',b')/\UpS u s':=by
 have hx:=lε hi;have hin:=hf.i _ (lρ hi);generalize m.code[i]=x at hx hin;have hv:=lε (show i<s.length by rw[hs.n];exact hi);have hw:=lε (show i<u.length by rw[hu.o.n];exact hi);generalize s[i]'(by rw[hs.n];exact hi)=v at hv;generalize u[i]'(by rw[hu.o.n];exact hi)=w at hw;have hvm:=hs.v v (mδ hv);unfold ptS;rw[hx,hv];simp only;cases hr:v.r with
 |false=>exact⟨s,b,rfl,h⟩
 |true=>
  obtain⟨q1,q2⟩:=h i v w hv hr hw;obtain⟨st',a1,a2,a3⟩:=hu.c i x w hx hw;rw[cond_true,q1,a1];simp only;rw[a2,cond_true];exact aeN (yT a1) (G5 hin hf.l hvm.2) (acp q2) _ s b h hs fun to hto=>⟨a3 to hto,by have:=(QH hin hi a2).1 to hto;omega⟩
def afL {u:List SV}(hu:Fam c t m u):∀(d i:Nat) (s:List SV) (b:Bool),i+d<=m.code.length->yO m s->UpS u s->∃s' b',abz c t m d i s b=some (s',b')/\UpS u s'
 |0,i,s,b,_,_,h=>⟨s,b,rfl,h⟩
 |d+1,i,s,b,hi,hs,h=>by
  obtain⟨s1,b1,e,h1⟩:=agL hf hu (i:=i) (by omega) s b hs h;obtain⟨s2,b2,e2,h2⟩:=afL hu d (i+1) s1 b1 (by omega) (afJ hf e hs).1 h1;refine⟨s2,b2,?_,h2⟩;unfold abz;rw[e,Option.bind_some];exact e2
def acY {u:List SV}(hu:Fam c t m u):∀(e:Nat) (s:List SV),GJ s<e->yO m s->UpS u s->∃s',abx c t m e s=some s'/\UpS u s'
 |0,s,h,_,_=>by omega
 |e+1,s,hp,hs,h=>by
  obtain⟨s1,b1,e1,h1⟩:=afL hf hu m.code.length 0 s false (by omega) hs h;obtain⟨r1,r2,-⟩:=abC hf e1 hs;unfold abx;rw[e1,Option.bind_some];cases b1 with
  |false=>exact⟨s1,rfl,h1⟩
  |true=>
   have:GJ s1<GJ s:=by
    rcases r2.p.2 rfl with h|h
    ·cases h
    ·exact h
   exact acY hu e s1 (by omega) r1 h1
def acw {u:List SV}(hu:Fam c t m u):∀(e:Nat) (s:List SV) (w:LN),yO m s->UpS u s->(∀p∈w,p<m.code.length/\∀v:SV,s[p]?=some v->v.r=true)->∃s',oH c t m e s w=some s'/\UpS u s'
 |0,s,w,_,h,_=>⟨s,rfl,h⟩
 |e+1,s,[],_,h,_=>⟨s,rfl,h⟩
 |e+1,s,pc::w,hs,h,hw=>by
  obtain⟨hi,hrr⟩:=hw pc lυ;have hx:=lε hi;have hin:=hf.i _ (lρ hi);generalize m.code[pc]=x at hx hin;have hv:=lε (show pc<s.length by rw[hs.n];exact hi);have hz:=lε (show pc<u.length by rw[hu.o.n];exact hi);generalize s[pc]'(by rw[hs.n];exact hi)=v at hv;generalize u[pc]'(by rw[hu.o.n];exact hi)=z at hz;have hvm:=hs.v v (mδ hv);obtain⟨q1,q2⟩:=h pc v z hv (hrr v hv) hz;obtain⟨st',a1,a2,a3⟩:=hu.c pc x z hx hz;obtain⟨s1,w1,e1,h1⟩:=aeO (yT a1) (G5 hin hf.l hvm.2) (acp q2) (eM m pc x).1 s w h hs fun to hto=>⟨a3 to hto,by have:=(QH hin hi a2).1 to hto;omega⟩
  obtain⟨o1,-,-,o4⟩:=sW (yT a1) (G5 hin hf.l hvm.2) e1 hs fun p hp=>(hw p (mα _ hp)).1
  obtain⟨i1,i2⟩:=D2 e1;have q:=aeq (fun k=>∀v:SV,s1[k]?=some v->v.r=true) e1 (fun to hto y hy=>by
   obtain⟨y',hy',hr',-⟩:=i2 to hto;rw[hy]at hy';cases hy';exact hr') (fun k y hy hr y' hy'=>by
    obtain⟨y2,g1,g2,-⟩:=i1.l k y hy hr;rw[hy']at g1;cases g1;exact g2) (fun p hp y hy=>by
    obtain⟨g1,g2⟩:=hw p (mα _ hp);have hp2:=lε (show p<s.length by rw[hs.n];exact g1);obtain⟨y2,g3,g4,-⟩:=i1.l p _ hp2 (g2 _ hp2);rw[hy]at g3;cases g3;exact g4)
  obtain⟨s',e2,h2⟩:=acw hu e s1 w1 o1 h1 fun p hp=>⟨o4 p hp,q.2 p hp⟩
  refine⟨s',?_,h2⟩;unfold oH;rw[hx,hv];simp only;rw[q1,a1];simp only;rw[a2,cond_true,e1,Option.bind_some];exact e2
def adV:(EN m)[0]?=some ⟨true,[],2 ^ m.params.length - 1⟩:=by
 unfold EN;rw[mψ (by rw[mμ];exact hf.n)]
def afM:GJ (EN m)<=256*m.code.length:=by
 have hp:=hf.p;have h2:2 ^ m.params.length<=2 ^ 4:=Nat.pow_le_pow_right (by omega) hp;have:=sU (List.replicate m.code.length (⟨false,[],0⟩:SV)) 0 (by rw[mμ];exact hf.n) ⟨true,[],2 ^ m.params.length - 1⟩;rw[IS,List.getElem_replicate]at this;simp only[cond_true,cond_false]at this;unfold EN;omega
def aeP {u:List SV}(hu:Fam c t m u):UpS u (EN m):=fun i v w hv hr hw=>by
 have:=agz hv hr;subst this;rw[adV hf]at hv;cases hv;obtain⟨z,hz,h1,h2⟩:=hu.z;rw[hw]at hz;cases hz;exact⟨h1.symm,h2⟩
def acz {s:List SV}(ho:yO m s)(hl:LeS (EN m) s)(hc:∀(pc:Nat) (v:SV),s[pc]?=some v->v.r=true->Con c t m s pc)(hr:∀v∈s,v.r=true):Fam c t m s:=by
 refine⟨ho,?_,fun pc x v hx hv=>hc pc v hv (hr v (mδ hv)) x v hx hv,hr⟩
 obtain⟨v,hv,-,hs,hb⟩:=hl 0 _ (adV hf) rfl;exact⟨v,hv,hs,hb⟩
def agy:adQ c t m=jG c t m:=by
 have hn0:=hf.n;have hs0:=Qy hf;have hph:=afM hf;have q0:∀Q:Nat->Prop,Q 0->∀(i:Nat) (v:SV),(EN m)[i]?=some v->v.r=true->Q i:=fun Q h i v hv hr=>by rw[agz hv hr];exact h
 have anaI:∀{s},oH c t m (256*m.code.length+1) (EN m) [0]=some s->yO m s/\LeS (EN m) s/\∀(pc:Nat) (v:SV),s[pc]?=some v->v.r=true->Con c t m s pc:=fun h=>by
  refine⟨yV hf h hs0 fun p hp=>by rw[List.mem_singleton.1 hp];exact hn0,HU hf h hs0 (fun p hp=>by rw[List.mem_singleton.1 hp];exact hn0) (by simp only[List.length_cons,List.length_nil];omega) fun pc v hv hr=> .inl ?_⟩
  rw[agz hv hr];exact List.mem_singleton.2 rfl
 have z0:∀{s:List SV},LeS (EN m) s->∃v:SV,s[0]?=some v/\v.r=true:=fun h=>by
  obtain⟨v,hv,hr,-⟩:=h 0 _ (adV hf) rfl;exact⟨v,hv,hr⟩
 -- from the work list to the rounds
 have fwd:∀u,jG c t m=some u->adQ c t m=some u:=fun u h=>by
  unfold jG at h;obtain⟨u',hg,h⟩:=Option.bind_eq_some_iff.1 h;cases hgood:(u'.zip m.code).all nm with
  |false=>rw[hgood]at h;cases h
  |true=>
   rw[hgood]at h;cases h;obtain⟨o1,o2,o3⟩:=anaI hg;have hfu:=acz hf o1 o2 o3 (aef o1.n hgood);obtain⟨s,e1,u1⟩:=acY hf hfu (256*m.code.length+2) (EN m) (by omega) hs0 (aeP hf hfu);obtain⟨p1,p2,p3,p4⟩:=abQ hf e1 hs0;have hrs:=aga p1.n hfu (afw (fun i=>∃v:SV,s[i]?=some v/\v.r=true) (afA p3 p1.n) hg (q0 _ (z0 p2)) (fun p hp=>by rw[List.mem_singleton.1 hp];exact z0 p2));have hfs:=acz hf p1 p2 p3 hrs;obtain⟨u2,e2,u3⟩:=acw hf hfs (256*m.code.length+1) (EN m) [0] hs0 (aeP hf hfs) (fun p hp=>by
    rw[List.mem_singleton.1 hp];exact⟨hn0,fun v hv=>by rw[adV hf]at hv;cases hv;rfl⟩)
   rw[hg]at e2;cases e2;have:=afC hfs hfu u1 u3;subst this;unfold adQ;rw[e1,Option.bind_some,hgood];rfl
 have bwd:∀u,adQ c t m=some u->∃s,jG c t m=some s:=fun u h=>by
  unfold adQ at h;obtain⟨s,hg,h⟩:=Option.bind_eq_some_iff.1 h;cases hgood:(s.zip m.code).all nm with
  |false=>rw[hgood]at h;cases h
  |true=>
   rw[hgood]at h;cases h;obtain⟨p1,p2,p3,p4⟩:=abQ hf hg hs0;have hfs:=acz hf p1 p2 p3 (aef p1.n hgood);obtain⟨a,e2,u3⟩:=acw hf hfs (256*m.code.length+1) (EN m) [0] hs0 (aeP hf hfs) (fun p hp=>by
    rw[List.mem_singleton.1 hp];exact⟨hn0,fun v hv=>by rw[adV hf]at hv;cases hv;rfl⟩)
   obtain⟨o1,o2,o3⟩:=anaI e2;have hra:=aga o1.n hfs (p4 (fun i=>∃v:SV,a[i]?=some v/\v.r=true) (afA o3 o1.n) (q0 _ (z0 o2)));have hfa:=acz hf o1 o2 o3 hra;obtain⟨s2,e3,u4⟩:=acY hf hfa (256*m.code.length+2) (EN m) (by omega) hs0 (aeP hf hfa);rw[hg]at e3;cases e3;have:=afC hfs hfa u4 u3;subst this;exact⟨u,by unfold jG;rw[e2,Option.bind_some,hgood];rfl⟩
 cases h:jG c t m with
 |some u=>exact fwd u h
 |none=>
  cases h2:adQ c t m with
  |none=>rfl
  |some u=>obtain⟨s,hs⟩:=bwd u h2;rw[h]at hs;cases hs
end
end
end
end Go.Ab
