import Derived.Test.YtmnmeiibmgcddaaGreatDoorKg2
import Derived.Test.YtmnmeiibmgcddaaGreatDoorKg1
import Derived.Test.YtmnmeiibmgcddaaGreatDoorOg3
import Derived.Test.YtmnmeiibmgcddaaGreatDoorKg0
import Derived.Test.YtmnmeiibmgcddaaGreatDoorAm5
import Derived.KernelRfl
set_option linter.all false
namespace Go.Ab
open Go
set_option maxRecDepth 100000
noncomputable section

section
def lw:Nat:=2000000
def Yr (l:List LN):Bool:=l.all fun t=>!aG 100 (t.length:Int)
def ZL (v:Va):Bool:=!aG 100 (v.s.length:Int)&&(!aG 40 (v.I.length:Int)&&(!aG 40 (v.L.length:Int)&&Yr v.L))
def uQ (l:List Va):Bool:=l.all ZL&&aL (l.length:Int) 20
section
variable {m:Nat} (hm:2000010<=m)
include hm
def ú (l:List Va)(i:Nat)(hi:i<l.length)(hL:l[i].L.length<lw){Er:R}(k1:_->R){Z:R}(hk:∀b,k1 (l.map Va.e,(i:Int),(l[i].L.length:Int),b)=Z):itL (fI (dC lay0.tab m) m Er k1) m (l.map Va.e,(i:Int),0)=bif Yr l[i].L then Z else Er:=by
 have hl:l[i].L.length<2000000:=hL;refine(bA l[i].L (fun q j=>itL (fI (dC lay0.tab m) m Er k1) q (l.map Va.e,(i:Int),j)) (fun t=>aG 100 (t.length:Int)) (fun _=>Er) Z (fun q j hj=>?_) (fun q=>?_) (by omega)).trans ?_
 ·rw[bb];simp only[fI,aU,bf,bw hi,bG,Va.e,FT,show l[i].r.L=l[i].L.map Da.str from rfl,lβ,hZ (show(j:Int)<(l[i].L.length:Int) by omega),be,bw hj,y8,wS (show j<eH by unfold eH;omega)];exact mj _ _ _
 ·rw[bb];simp only[fI,aU,bf,bw hi,bG,Va.e,FT,show l[i].r.L=l[i].L.map Da.str from rfl,lβ,eT,bo];exact hk _
 ·unfold Yr;rw[jY];cases l[i].L.findIdx? fun t=>aG 100 (t.length:Int)<;>rfl
def qp (l:List Va)(hl:l.length<lw)(hL:∀v∈l,v.L.length<lw):Ω (m+1) 11 [pL 5 (l.map Va.e)] []=some (pB (uQ l),[]):=by
 apply JL m (l.map Va.e);unfold xa;have hl':l.length<2000000:=hl;refine(bA l (fun q i=>itL (fH (dC lay0.tab m) m _ _) q (l.map Va.e,i)) (fun v=>!ZL v) (fun _=>some (pB false,[])) (some (pB (aL (l.length:Int) 20),[])) (fun q i hi=>?_) (fun q=>?_) (by omega)).trans ?_
 ·rw[bb];have h2:=fun(k1:_->R) Z hk=>ú hm l i hi (hL _ (lρ hi)) (Er:=some (pB false,[])) k1 (Z:=Z) hk
  simp only[fH,lβ,hZ (show(i:Int)<(l.length:Int) by omega),be,aU,bf,bw hi,bG,Va.e,FT];show iL (aG 100 (l[i].s.length:Int)) _ (iL (aG 40 ((l[i].I.map iE).length:Int)) _ (iL (aG 40 ((l[i].L.map Da.str).length:Int)) _ _))=_;rw[lβ,lβ,h2 _ (itL (fH (dC lay0.tab m) m (some (pB false,[])) (fun x=>some (pB (aL (↑(List.length x.1)) 20),[]))) q (l.map Va.e,((i+1:Nat):Int))) (fun b=>by simp only[wS (show i<eH by unfold eH;omega)])];unfold ZL;cases aG 100 (l[i].s.length:Int)<;>cases aG 40 (l[i].I.length:Int)<;>cases aG 40 (l[i].L.length:Int)<;>cases Yr l[i].L<;>rfl
 ·rw[bb];simp only[fH,lβ,eT,bo]
 ·unfold uQ;rw[gL];cases l.findIdx? fun v=>!ZL v<;>rfl
def vy (v:Va):Bool:=Yr v.L&&(aL (v.s.length:Int) 100&&(aL (v.I.length:Int) 40&&aL (v.L.length:Int) 40))
def Rl (v:Va)(hL:v.L.length<lw):Ω (m+1) 35 [.p v.e] []=dX (vy v):=by
 apply RG m v.r;unfold Hu;have hl:v.L.length<2000000:=hL;refine(bA v.L (fun q j=>itL (jW (dC lay0.tab m) m _ _) q (j,v.r)) (fun t=>aG 100 (t.length:Int)) (fun _=>dX false) (dX (aL (v.s.length:Int) 100&&(aL (v.I.length:Int) 40&&aL (v.L.length:Int) 40))) (fun q j hj=>?_) (fun q=>?_) (by omega)).trans ?_
 ·rw[bb];simp only[jW,show v.r.L=v.L.map Da.str from rfl,lβ,hZ (show(j:Int)<(v.L.length:Int) by omega),be,aU,bf,bw hj,bG,y8,wS (show j<eH by unfold eH;omega)];exact mj _ _ _
 ·rw[bb];simp only[jW,show v.r.L=v.L.map Da.str from rfl,show v.r.I=v.I.map iE from rfl,show v.r.S=v.s from rfl,lβ,eT,bo];cases aL (v.s.length:Int) 100<;>cases aL (v.I.length:Int) 40<;>cases aL (v.L.length:Int) 40<;>rfl
 ·unfold vy Yr;rw[jY];cases v.L.findIdx? fun t=>aG 100 (t.length:Int)<;>rfl
end
end
section
def KH (f:Fe):Bool:=!aG 100 (f.name.length:Int)&&vy f.init
def Gq (m:Cm):Bool:=!aG 100 (m.name.length:Int)&&(!aG 20 (m.params.length:Int)&&(!aG 40 (m.locals.length:Int)&&(!aG 120 (m.code.length:Int)&&m.code.all fun y=>vy y.v)))
def Kq (t:Ct):Bool:=!aG 100 (t.name.length:Int)&&(!aG 20 (t.fields.length:Int)&&(!aG 20 (t.methods.length:Int)&&(t.fields.all KH&&t.methods.all Gq)))
def vz (c:List Ct):Bool:=!aG 20 (c.length:Int)&&c.all Kq
structure Bt (t:Ct):Prop where
 f:t.fields.length<lw
 m:t.methods.length<lw
 fv:∀f∈t.fields,f.init.L.length<lw
 mc:∀m∈t.methods,m.code.length<lw/\∀y∈m.code,y.v.L.length<lw
structure Bc (c:List Ct):Prop where
 n:c.length<lw
 t:∀t∈c,Bt t
section
variable {m:Nat} (hm:2000020<=m)
include hm
def VF (v:Va)(hL:v.L.length<lw):Ω m 35 [.p (.agg v.c)] []=dX (vy v):=by
 obtain⟨k,rfl,hk⟩:=fuel (show 2000019+1<=m from hm);exact Rl (m:=k) (by omega) v hL
variable {Er:R}
def ą (c:List Ct)(t:Ct)(ht:Bt t)(i:Nat)(k0 k1:_->R)(h0:∀x,k0 x=Er):itL (gm (dC lay0.tab m) m k0 k1) m ((i:Int),0,de c,t.r)=bif t.fields.all KH then k1 ((i:Int),(t.fields.length:Int),de c,t.r)else Er:=by
 have hl:t.fields.length<2000000:=ht.f;refine(bA t.fields (fun q j=>itL (gm (dC lay0.tab m) m k0 k1) q ((i:Int),j,de c,t.r)) (fun f=>!KH f) (fun _=>Er) (k1 ((i:Int),(t.fields.length:Int),de c,t.r)) (fun q j hj=>?_) (fun q=>?_) (by omega)).trans ?_
 ·rw[bb];have hs:=aa (VF hm t.fields[j].init (ht.fv _ (lρ hj)));simp only[Va.c]at hs;simp only[gm,show t.r.Fields=t.fields.map Fe.e from rfl,lβ,hZ (show(j:Int)<(t.fields.length:Int) by omega),be,aU,bf,bw hj,bG,YN,Fe.r,hs,aY,aJ,aB,h0,wS (show j<eH by unfold eH;omega)];unfold KH;cases aG 100 (t.fields[j].name.length:Int)<;>cases vy t.fields[j].init<;>rfl
 ·rw[bb];simp only[gm,show t.r.Fields=t.fields.map Fe.e from rfl,lβ,eT,bo]
 ·rw[gL];cases t.fields.findIdx? fun f=>!KH f<;>rfl
def ć (c:List Ct)(t:Ct)(me:Cm)(hl:me.code.length<lw)(hy:∀y∈me.code,y.v.L.length<lw)(i k:Nat)(k0 k1:_->R)(h0:∀x,k0 x=Er):itL (gn (dC lay0.tab m) m k0 k1) m ((i:Int),(k:Int),0,de c,t.r,me.r)=bif me.code.all fun y=>vy y.v then k1 ((i:Int),(k:Int),(me.code.length:Int),de c,t.r,me.r)else Er:=by
 have hl:me.code.length<2000000:=hl;refine(bA me.code (fun q j=>itL (gn (dC lay0.tab m) m k0 k1) q ((i:Int),(k:Int),j,de c,t.r,me.r)) (fun y=>!vy y.v) (fun _=>Er) (k1 ((i:Int),(k:Int),(me.code.length:Int),de c,t.r,me.r)) (fun q j hj=>?_) (fun q=>?_) (by omega)).trans ?_
 ·rw[bb];have hs:=aa (VF hm me.code[j].v (hy _ (lρ hj)));simp only[Va.c]at hs;simp only[gn,show me.r.Code=me.code.map Cd.e from rfl,lβ,hZ (show(j:Int)<(me.code.length:Int) by omega),be,aU,bf,bw hj,bG,Vf,Cd.r,hs,aY,aJ,aB,h0,wS (show j<eH by unfold eH;omega)];cases vy me.code[j].v<;>rfl
 ·rw[bb];simp only[gn,show me.r.Code=me.code.map Cd.e from rfl,lβ,eT,bo]
 ·rw[gL];cases me.code.findIdx? fun y=>!vy y.v<;>rfl
def Ć (c:List Ct)(t:Ct)(ht:Bt t)(i:Nat)(k0 k1:_->R)(h0:∀x,k0 x=Er):itL (fE (dC lay0.tab m) m k0 k1) m ((i:Int),0,de c,t.r)=bif t.methods.all Gq then k1 ((i:Int),(t.methods.length:Int),de c,t.r)else Er:=by
 have hl:t.methods.length<2000000:=ht.m;refine(bA t.methods (fun q j=>itL (fE (dC lay0.tab m) m k0 k1) q ((i:Int),j,de c,t.r)) (fun f=>!Gq f) (fun _=>Er) (k1 ((i:Int),(t.methods.length:Int),de c,t.r)) (fun q j hj=>?_) (fun q=>?_) (by omega)).trans ?_
 ·rw[bb];obtain⟨g1,g2⟩:=ht.mc _ (lρ hj);have h4:=ć hm c t t.methods[j] g1 g2 i j (Er:=Er) (fun x=>k0 (x.1,x.2.1,x.2.2)) (fun x=>itL (fE (dC lay0.tab m) m k0 k1) q (x.1,ag .i64 (x.2.1+1),x.2.2.2.1,x.2.2.2.2.1)) (fun _=>h0 _);simp only[fE,show t.r.Methods=t.methods.map Cm.e from rfl,lβ,hZ (show(j:Int)<(t.methods.length:Int) by omega),be,aU,bf,bw hj,bG,FQ,h0];simp only[h0]at h4;show iL (aG 100 (t.methods[j].name.length:Int)) _ (iL (aG 20 ((t.methods[j].params.map iE).length:Int)) _ (iL (aG 40 ((t.methods[j].locals.map iE).length:Int)) _ (iL (aG 120 ((t.methods[j].code.map Cd.e).length:Int)) _ _)))=_;rw[lβ,lβ,lβ];unfold Gq;rw[show itL (gn (dC lay0.tab m) m _ _) m ((i:Int),(j:Int),0,de c,t.r,t.methods[j].r)=_ from h4];simp only[wS (show j<eH by unfold eH;omega)];cases aG 100 (t.methods[j].name.length:Int)<;>cases aG 20 (t.methods[j].params.length:Int)<;>cases aG 40 (t.methods[j].locals.length:Int)<;>cases aG 120 (t.methods[j].code.length:Int)<;>cases t.methods[j].code.all (fun y=>vy y.v)<;>rfl
 ·rw[bb];simp only[fE,show t.r.Methods=t.methods.map Cm.e from rfl,lβ,eT,bo]
 ·rw[gL];cases t.methods.findIdx? fun f=>!Gq f<;>rfl
def Rb (c:List Ct)(hc:Bc c):Ω (m+1) 10 [.p (de c).e] []=dX (vz c):=by
 apply Ry m (de c);unfold Hm vz;have hl:c.length<2000000:=hc.n;show iL (aG 20 ((c.map Ct.e).length:Int)) _ (itL (eW _ _ _ _ _) _ (0,de c))=_;rw[lβ];have run:itL (eW (dC lay0.tab m) m (fun _=>dX false) (fun _=>dX false) (fun _=>dX true)) m (0,de c)=dX (c.all Kq):=by
  refine(bA c (fun q j=>itL (eW (dC lay0.tab m) m (fun _=>dX false) (fun _=>dX false) (fun _=>dX true)) q (j,de c)) (fun t=>!Kq t) (fun _=>dX false) (dX true) (fun q j hj=>?_) (fun q=>?_) (by omega)).trans ?_
  ·rw[bb];have ht:=hc.t _ (lρ hj);have h3:=Ć hm c c[j] ht j (Er:=dX false) (fun _=>dX false) (fun x=>itL (eW (dC lay0.tab m) m (fun _=>dX false) (fun _=>dX false) (fun _=>dX true)) q (ag .i64 (x.1+1),x.2.2.1)) (fun _=>rfl);have h2:=ą hm c c[j] ht j (Er:=dX false) (fun _=>dX false) (fun x=>itL (fE (dC lay0.tab m) m (fun _=>dX false) (fun x=>itL (eW (dC lay0.tab m) m (fun _=>dX false) (fun _=>dX false) (fun _=>dX true)) q (ag .i64 (x.1+1),x.2.2.1))) m (x.1,0,x.2.2.1,x.2.2.2)) (fun _=>rfl)
   simp only[h3]at h2;simp only[eW,show(de c).Types=c.map Ct.e from rfl,lβ,hZ (show(j:Int)<(c.length:Int) by omega),be,aU,bf,bw hj,bG,Cs];show iL (aG 100 (c[j].name.length:Int)) _ (iL (aG 20 ((c[j].fields.map Fe.e).length:Int)) _ (iL (aG 20 ((c[j].methods.map Cm.e).length:Int)) _ _))=_;rw[lβ,lβ];rw[show itL (gm (dC lay0.tab m) m _ _) m ((j:Int),0,de c,c[j].r)=_ from h2];unfold Kq;simp only[wS (show j<eH by unfold eH;omega)];cases aG 100 (c[j].name.length:Int)<;>cases aG 20 (c[j].fields.length:Int)<;>cases aG 20 (c[j].methods.length:Int)<;>cases c[j].fields.all KH<;>cases c[j].methods.all Gq<;>rfl
  ·rw[bb];simp only[eW,show(de c).Types=c.map Ct.e from rfl,lβ,eT,bo]
  ·rw[gL];cases c.findIdx? fun t=>!Kq t<;>rfl
 cases aG 20 (c.length:Int)with
 |true=>rfl
 |false=>exact run
end
end
def Lw (v:Va):fd v v=true:=by
 unfold fd;simp only[cE,ma,decide_true,Bool.and_self]
structure Yw (g:HK):Prop where
 v:Lg g.v
 a:g.ar.length<1501/\∀v∈g.ar,Lg v
 l:g.mc.ls.length<1501/\∀v∈g.mc.ls,Lg v
 f:g.fs.length<1501/\∀v∈g.fs,Lg v
 e:g.es.length<1501
structure VB (v:Va):Prop where
 L:v.L.length<lw
 v:EY v
structure LB (l:List Va):Prop where
 n:l.length<lw
 v:∀v∈l,VB v
def zS {l:List Va}(h:uQ l=true):l.length<=20/\∀v∈l,Lg v:=by
 unfold uQ at h;rw[lγ,bj,lδ,mε]at h;refine⟨by omega,fun v hv=>?_⟩
 have:=h.1 v hv;unfold ZL at this;simp only[lγ,Bool.not_eq_true',bX,lζ]at this;exact⟨by omega,by omega⟩
def QE {c:List Ct}(h:vz c=true):AJ c:=by
 unfold vz at h;simp only[lγ,Bool.not_eq_true',bX,lζ,mε]at h;refine⟨by omega,fun t ht=>?_⟩
 have h1:=h.2 t ht;unfold Kq at h1;simp only[lγ,Bool.not_eq_true',bX,lζ,mε]at h1;refine⟨by omega,by omega,fun m hm=>?_⟩
 have h2:=h1.2.2.2.2 m hm;unfold Gq at h2;simp only[lγ,Bool.not_eq_true',bX,lζ]at h2;exact⟨by omega,by omega,by omega⟩
def ø:Yw Ly:=⟨⟨by simp[Ly,v0],by simp[Ly,v0]⟩,⟨by simp[Ly],by simp[Ly]⟩,⟨by simp[Ly,mc0],by simp[Ly,mc0]⟩,⟨by simp[Ly],by simp[Ly]⟩,by simp[Ly]⟩
def ě (e u:Int){fs:List Va}(h:fs.length<1501/\∀v∈fs,Lg v):Yw (lq e u fs):=⟨⟨by simp[lq,v0],by simp[lq,v0]⟩,⟨by simp[lq],by simp[lq]⟩,⟨by simp[lq,mc0],by simp[lq,mc0]⟩,h,by simp[lq]⟩
def Ĳ {s:Xs}{t:Ct}{S:List SV}{X:Xt}(hc:AJ s.c)(ht:t∈s.c)(hx:UT s t S)(h:Gd s t S X)(hd:X.done=true):Yw (Ie s X):=by
 have hfl:=h.fs.len;rw[lβ]at hfl;have hf:X.fs.length<1501/\∀v∈X.fs,Lg v:=⟨by have:=(hc.s t ht).f;omega,fun v hv=>lr (h.fs.wk v hv)⟩
 have he:X.es.length<1501:=by have:=h.es.n;omega
 have hm0:(mc0.ls.length<1501/\∀v∈mc0.ls,Lg v):=⟨by simp[mc0],by simp[mc0]⟩
 rcases h.dn hd with⟨h1,h2,h3⟩|⟨h1,h2,pc,x,v,u,q,-,h4,-,-,h5,h6,h7,-,-,-,h8⟩
 ·refine⟨lr (xQ h2),?_,?_,hf,he⟩
  ·show X.ar.length<1501/\∀v∈X.ar,Lg v;rw[h3];exact⟨by simp,by simp⟩
  ·show(bif az X.ok 2 then(⟨s.ty,s.me,X.pc,X.ls⟩:Mc)else mc0:Mc).ls.length<1501/\∀v∈(bif az X.ok 2 then(⟨s.ty,s.me,X.pc,X.ls⟩:Mc)else mc0:Mc).ls,Lg v;rw[h1];exact hm0
 ·refine⟨?_,⟨?_,fun v hv=>lr (h8.wk v hv)⟩,?_,hf,he⟩
  ·show Lg X.ov;rw[h2];exact⟨by simp[v0],by simp[v0]⟩
  ·show X.ar.length<1501;rw[h8.len];exact((hc.s u (nJ h6)).s q (nJ h7)).p
  ·show(bif az X.ok 2 then(⟨s.ty,s.me,X.pc,X.ls⟩:Mc)else mc0:Mc).ls.length<1501/\∀v∈(bif az X.ok 2 then(⟨s.ty,s.me,X.pc,X.ls⟩:Mc)else mc0:Mc).ls,Lg v;rw[h1];refine⟨?_,fun v hv=>lr (h.ls v hv)⟩
   show X.ls.length<1501;rw[h5.n];exact hx.f.z.l
def P2 {s:Xs}{t:Ct}{S:List SV}(hc:AJ s.c)(ht:t∈s.c)(hx:UT s t S)(hky:s.ky.length<=32){fs:List Va}(hfs:fs.length<1501/\∀v∈fs,Lg v)(f:Int):∀(N:Nat) (u:Int) (X:Xt),Gd s t S X->Yw (jk s f fs N u X)
 |0,u,X,_=>ø
 |N+1,u,X,h=>by
  unfold jk;cases hd:X.done with
  |true=>exact Ĳ hc ht hx h hd
  |false=>
   rw[cond_false];cases aL u f with
   |false=>exact ě _ _ hfs
   |true=>
    obtain⟨y,hy,hg⟩:=I2 hx hky h hd;rw[cond_true,hy];simp only;cases he:az y.2 0 with
    |false=>exact ě _ _ hfs
    |true=>exact P2 hc ht hx hky hfs f N (u+1) _ ((hg (eqI_t.1 he)).fu u)
def X6 {c:List Ct}(hc:AJ c)(hcv:ZR c){x:Mc}{key:LN}{fs:List Va}{rp:Va}{fuel:Int}(hx:∀v∈x.ls,EY v)(hfs:∀v∈fs,EY v)(hrp:EY rp)(h:kf c x key fs rp fuel=true):∃P,Jo (S0 c x key) P/\P (X0 x fs rp):=by
 obtain⟨t,S,h1,h2,h3,-⟩:=yo hc hcv hx hfs hrp h;exact⟨_,Iv h1 h3,h2⟩
def VH {p:Int}(h:0<=p){k:Int}(hk:0<k):0<=Int.tmod p k/\Int.tmod p k<k:=⟨Int.tmod_nonneg _ h,Int.tmod_lt_of_pos _ hk⟩
section
def Ti:LN->LN->Bool
 |[],[]=>true
 |a::r,b::s=>Nat.beq a b&&Ti r s
 |_,_=>false
def Il:∀{a b:LN},Ti a b=true->a=b
 |[],[],_=>rfl
 |[],_::_,h=>by cases h
 |_::_,[],h=>by cases h
 |a::r,b::s,h=>by
  simp only[Ti,lγ]at h;rw[lθ h.1,Il h.2]
def qS (P:Program)(k:IntKind)(t:TypeId):Bool:=match P.underlying t with|some (.int k')=>decide (k'=k)|_=>false
def uF (P:Program)(t:TypeId):Bool:=match P.underlying t with|some .string=>true|_=>false
def mq (P:Program)(t e z:Nat):Bool:=match P.underlying t with|some (.slice e')=>Nat.beq e' e&&Nat.beq (P.cellsOf e) z|_=>false
def mt (P:Program)(t:Nat)(ts:LN):Bool:=match P.underlying t with|some (.struct fs)=>Ti (fs.toList.map (·.type)) ts|_=>false
def zm (C:TypeId->LD->Prop):List TypeId->LD->Prop
 |[],xs=>xs=[]
 |t::r,xs=>∃ys zs,xs=ys++zs/\C t ys/\zm C r zs
def ut {C:TypeId->LD->Prop}:∀{fs:List Field} {xs:LD},pf C fs xs->zm C (fs.map (·.type)) xs
 |[],_,h=>h
 |f::r,xs,⟨ys,zs,h1,h2,h3⟩=>⟨ys,zs,h1,h2,ut h3⟩
section
variable {P:Program} {B:TypeId->Nat} {n t:Nat} {xs:LD} {x:Da}
def ii {k:IntKind}(h:qS P k t=true)(hc:bZ P B (n+1) t xs):∃i,xs=[.int k i]/\(Lit.int k i).wf=true:=by
 unfold qS at h;simp only[bZ]at hc;split at h
 ·rename_i hu;rw[hu]at hc;have:=of_decide_eq_true h;subst this;exact hc
 ·cases h
def q9 (h:uF P t=true)(hc:bZ P B (n+1) t xs):∃s,xs=[.str s]:=by
 unfold uF at h;simp only[bZ]at hc;split at h
 ·rename_i hu;rw[hu]at hc;obtain⟨s,rfl,_⟩:=hc;exact⟨s,rfl⟩
 ·cases h
def vQ {e z:Nat}(h:mq P t e z=true)(hc:bZ P B (n+1) t xs):∃es,xs=[.slice z es]/\es.length<=B e/\∀x∈es,gf P (bZ P B n) e x:=by
 unfold mq at h;simp only[bZ]at hc;split at h
 ·rename_i hu;rw[hu]at hc;rw[lγ]at h;obtain⟨es,rfl,_,h2,h3⟩:=hc;have h4:=lθ h.1;subst h4;rw[lθ h.2];exact⟨es,rfl,h2,h3⟩
 ·cases h
variable {ts:LN}
def vR (h:mt P t ts=true)(hc:bZ P B (n+1) t xs):zm (bZ P B n) ts xs:=by
 unfold mt at h;simp only[bZ]at hc;split at h
 ·rename_i hu;rw[hu]at hc;rw[<-Il h];exact ut hc
 ·cases h
def nN {C:TypeId->LD->Prop}(h:mt P t ts=true)(hc:gf P C t x):∃cs,x= .agg cs/\C t cs:=by
 unfold mt at h;unfold gf at hc;split at h
 ·rename_i hu;have:gA P t=true:=by unfold gA;rw[hu]
  rw[this]at hc;exact hc
 ·cases h
def Ia {k:IntKind}{C:TypeId->LD->Prop}(h:qS P k t=true)(hc:gf P C t x):C t [x]:=by
 unfold qS at h;unfold gf at hc;split at h
 ·rename_i hu;have:gA P t=false:=by unfold gA;rw[hu]
  rw[this]at hc;exact hc
 ·cases h
def Ib {C:TypeId->LD->Prop}(h:uF P t=true)(hc:gf P C t x):C t [x]:=by
 unfold uF at h;unfold gf at hc;split at h
 ·rename_i hu;have:gA P t=false:=by unfold gA;rw[hu]
  rw[this]at hc;exact hc
 ·cases h
end
def hC {α:Type}{f:α->Da}{Q:α->Prop}:∀{es:LD},(∀x∈es,∃a,x=f a/\Q a)->∃l:List α,es=l.map f/\∀a∈l,Q a
 |[],_=>⟨[],rfl,fun _ h=>by cases h⟩
 |x::es,h=>by
  obtain⟨a,rfl,ha⟩:=h x (lυ ..);obtain⟨l,rfl,hl⟩:=hC (es:=es) fun y hy=>h y (mα _ hy)
  refine⟨a::l,rfl,fun b hb=>?_⟩
  rcases lω.1 hb with rfl|hb
  ·exact ha
  ·exact hl b hb
noncomputable section
abbrev Bn:TypeId->Nat:=fun _=>1048576
abbrev CT (n t:Nat)(xs:LD):Prop:=bZ prog0 Bn n t xs
abbrev DT (n t:Nat)(x:Da):Prop:=gf prog0 (bZ prog0 Bn n) t x
def LY:qS prog0 .i64 3=true:=by kernel_rfl
def Vw:uF prog0 9=true:=by kernel_rfl
def ô:mq prog0 42 3 1=true:=by kernel_rfl
def õ:mq prog0 43 9 1=true:=by kernel_rfl
def Vy:mt prog0 45 [3,3,9,42,43]=true:=by kernel_rfl
def PT:mq prog0 25 45 5=true:=by kernel_rfl
def Vt:mt prog0 87 [9,3,45]=true:=by kernel_rfl
def XD:mq prog0 58 87 7=true:=by kernel_rfl
def Vu:mt prog0 89 [3,3,3,45]=true:=by kernel_rfl
def XE:mq prog0 62 89 8=true:=by kernel_rfl
def Zc:mt prog0 64 [9,42,3,42,62]=true:=by kernel_rfl
def Zd:mq prog0 59 64 5=true:=by kernel_rfl
def Ze:mt prog0 61 [9,58,59]=true:=by kernel_rfl
def Zf:mq prog0 22 61 3=true:=by kernel_rfl
def PS:mt prog0 24 [22]=true:=by kernel_rfl
def Vv:mt prog0 27 [3,3,3,25]=true:=by kernel_rfl
def Vx:qS prog0 .u16 57=true:=by kernel_rfl
variable {xs:LD}
def WB {n:Nat}(h:CT (n+2) 43 xs):∃l:List LN,xs=[.slice 1 (l.map .str)]/\l.length<=1048576:=by
 obtain⟨es,rfl,h1,h2⟩:=vQ õ h;obtain⟨l,rfl,_⟩:=hC (f:=Da.str) (Q:=fun _=>True) (es:=es) fun x hx=>by
  obtain⟨i,e⟩:=q9 Vw (Ib Vw (h2 x hx));simp only[lχ,and_true]at e;exact⟨i,e,trivial⟩
 exact⟨l,rfl,by simpa using h1⟩
def WY {P:Program}{t e z:Nat}{x:Da}{C:TypeId->LD->Prop}(h:mq P t e z=true)(hc:gf P C t x):C t [x]:=by
 unfold mq at h;unfold gf at hc;split at h
 ·rename_i hu;have:gA P t=false:=by unfold gA;rw[hu]
  rw[this]at hc;exact hc
 ·cases h
def Vs {i:Int}(h:(Lit.int .i64 i).wf=true):lB i:=by
 simp only[Lit.wf,lγ,lδ]at h;have h1:IntKind.i64.min= -9223372036854775808:=rfl;have h2:IntKind.i64.max=9223372036854775807:=rfl;rw[h1,h2]at h;exact⟨by omega,by omega⟩
def y6 {n:Nat}(h:CT (n+2) 42 xs):∃l:LI,xs=[.slice 1 (l.map iE)]/\∀i∈l,lB i:=by
 obtain⟨es,rfl,h1,h2⟩:=vQ ô h;obtain⟨l,rfl,hl⟩:=hC (f:=iE) (Q:=lB) (es:=es) fun x hx=>by
  obtain⟨i,e,hw⟩:=ii LY (Ia LY (h2 x hx));simp only[lχ,and_true]at e;exact⟨i,e,Vs hw⟩
 exact⟨l,rfl,hl⟩
def Oz {n:Nat}(h:CT (n+3) 45 xs):∃v:Va,xs=v.c/\VB v:=by
 obtain⟨_,_,rfl,h1,_,_,rfl,h2,_,_,rfl,h3,_,_,rfl,h4,_,_,rfl,h5,rfl⟩:=vR Vy h;obtain⟨k,rfl,_⟩:=ii LY h1;obtain⟨m,rfl,hm⟩:=ii LY h2;obtain⟨s,rfl⟩:=q9 Vw h3;obtain⟨I,rfl,hI⟩:=y6 h4;obtain⟨L,rfl,hL⟩:=WB h5;exact⟨⟨k,m,s,I,L⟩,rfl,by show L.length<2000000;omega,Vs hm,hI⟩
def Vl {n:Nat}{x:Da}(h:DT (n+3) 45 x):∃v:Va,x=v.e/\VB v:=by
 obtain⟨cs,rfl,g⟩:=nN Vy h;obtain⟨v,rfl,hv⟩:=Oz g;exact⟨v,rfl,hv⟩
def OA {n:Nat}(h:CT (n+4) 25 xs):∃l:List Va,xs=[.slice 5 (l.map Va.e)]/\LB l:=by
 obtain⟨es,rfl,h1,h2⟩:=vQ PT h;obtain⟨l,rfl,hl⟩:=hC (f:=Va.e) (Q:=VB) (es:=es) fun x hx=>Vl (h2 x hx)
 rw[lβ]at h1;exact⟨l,rfl,by show l.length<2000000;exact Nat.lt_of_le_of_lt h1 (by decide),hl⟩
def YU {n:Nat}{x:Da}(h:DT (n+4) 87 x):∃a:Fe,x=a.e/\VB a.init:=by
 obtain⟨cs,rfl,g⟩:=nN Vt h;obtain⟨_,_,rfl,h1,_,_,rfl,h2,_,_,rfl,h3,rfl⟩:=vR Vt g;obtain⟨s,rfl⟩:=q9 Vw h1;obtain⟨k,rfl,_⟩:=ii LY h2;obtain⟨v,rfl,hv⟩:=Oz h3;exact⟨⟨s,k,v⟩,rfl,hv⟩
def YV {n:Nat}{x:Da}(h:DT (n+4) 89 x):∃a:Cd,x=a.e/\VB a.v:=by
 obtain⟨cs,rfl,g⟩:=nN Vu h;obtain⟨_,_,rfl,h1,_,_,rfl,h2,_,_,rfl,h3,_,_,rfl,h4,rfl⟩:=vR Vu g;obtain⟨o,rfl,_⟩:=ii LY h1;obtain⟨a,rfl,_⟩:=ii LY h2;obtain⟨b,rfl,_⟩:=ii LY h3;obtain⟨v,rfl,hv⟩:=Oz h4;exact⟨⟨o,a,b,v⟩,rfl,hv⟩
def Õ {n:Nat}{x:Da}(h:DT (n+6) 64 x):∃a:Cm,x=a.e/\a.code.length<lw/\∀y∈a.code,VB y.v:=by
 obtain⟨cs,rfl,g⟩:=nN Zc h;obtain⟨_,_,rfl,h1,_,_,rfl,h2,_,_,rfl,h3,_,_,rfl,h4,_,_,rfl,h5,rfl⟩:=vR Zc g;obtain⟨s,rfl⟩:=q9 Vw h1;obtain⟨ps,rfl,_⟩:=y6 h2;obtain⟨k,rfl,_⟩:=ii LY h3;obtain⟨ls,rfl,_⟩:=y6 h4;obtain⟨is,rfl,hl,h5⟩:=vQ XE h5;obtain⟨is,rfl,hv⟩:=hC (f:=Cd.e) (Q:=fun a=>VB a.v) (es:=is) fun x hx=>YV (h5 x hx)
 rw[lβ]at hl;exact⟨⟨s,ps,k,ls,is⟩,rfl,Nat.lt_of_le_of_lt hl (by decide),hv⟩
def Ö {n:Nat}{x:Da}(h:DT (n+8) 61 x):∃a:Ct,x=a.e/\Bt a/\∀m∈a.methods,∀y∈m.code,EY y.v:=by
 obtain⟨cs,rfl,g⟩:=nN Ze h;obtain⟨_,_,rfl,h1,_,_,rfl,h2,_,_,rfl,h3,rfl⟩:=vR Ze g;obtain⟨s,rfl⟩:=q9 Vw h1;obtain⟨fs,rfl,hf,h2⟩:=vQ XD h2;obtain⟨ms,rfl,hm,h3⟩:=vQ Zd h3;obtain⟨fs,rfl,hv⟩:=hC (f:=Fe.e) (Q:=fun a=>VB a.init) (es:=fs) fun x hx=>YU (h2 x hx)
 obtain⟨ms,rfl,hw⟩:=hC (f:=Cm.e) (Q:=fun a=>a.code.length<lw/\∀y∈a.code,VB y.v) (es:=ms) fun x hx=>Õ (h3 x hx)
 rw[lβ]at hf hm;exact⟨⟨s,fs,ms⟩,rfl,⟨Nat.lt_of_le_of_lt hf (by decide),Nat.lt_of_le_of_lt hm (by decide),fun f h=>(hv f h).L,fun m h=>⟨(hw m h).1,fun y hy=>((hw m h).2 y hy).L⟩⟩,fun m h y hy=>((hw m h).2 y hy).v⟩
def WW {n:Nat}{x:Da}(h:DT (n+10) 24 x):∃c:List Ct,x=(de c).e/\Bc c/\ZR c:=by
 obtain⟨cs,rfl,g⟩:=nN PS h;obtain⟨_,_,rfl,h1,rfl⟩:=vR PS g;obtain⟨ts,rfl,hl,h1⟩:=vQ Zf h1;obtain⟨c,rfl,hp⟩:=hC (f:=Ct.e) (Q:=fun a=>Bt a/\∀m∈a.methods,∀y∈m.code,EY y.v) (es:=ts) fun x hx=>Ö (h1 x hx)
 rw[lβ]at hl;exact⟨c,rfl,⟨Nat.lt_of_le_of_lt hl (by decide),fun t ht=>(hp t ht).1⟩,fun t ht=>(hp t ht).2⟩
def YW {n:Nat}{x:Da}(h:DT (n+5) 27 x):∃m:Mc,x=m.e/\LB m.ls:=by
 obtain⟨cs,rfl,g⟩:=nN Vv h;obtain⟨_,_,rfl,h1,_,_,rfl,h2,_,_,rfl,h3,_,_,rfl,h4,rfl⟩:=vR Vv g;obtain⟨a,rfl,_⟩:=ii LY h1;obtain⟨b,rfl,_⟩:=ii LY h2;obtain⟨c,rfl,_⟩:=ii LY h3;obtain⟨l,rfl,hl⟩:=OA h4;exact⟨⟨a,b,c,l⟩,rfl,hl⟩
def YX {n:Nat}{x:Da}(h:DT (n+1) 9 x):∃s,x= .str s:=by
 obtain⟨s,e⟩:=q9 Vw (Ib Vw h);simp only[lχ,and_true]at e;exact⟨s,e⟩
def WX {n:Nat}{x:Da}(h:DT (n+4) 25 x):∃l:List Va,x= .slice 5 (l.map Va.e)/\LB l:=by
 obtain⟨l,e,h1⟩:=OA (WY PT h);simp only[lχ,and_true]at e;exact⟨l,e,h1⟩
def Vk {n:Nat}{x:Da}(h:DT (n+1) 57 x):∃i,x= .int .u16 i/\0<=i/\i<=65535:=by
 obtain⟨i,e,hw⟩:=ii Vx (Ia Vx h);simp only[lχ,and_true]at e;simp only[Lit.wf,lγ,lδ]at hw;have h1:IntKind.u16.min=0:=rfl;have h2:IntKind.u16.max=65535:=rfl;rw[h1,h2]at hw;exact⟨i,e,hw.1,hw.2⟩
def call0_ok (L:Letters)(N:Nat):dZ prog0 globs0 (Ω N):=pd (P:=prog0) (G:=globs0) uT (lay0.okM L mvG) N
def Rc {n:Nat}:Ω (n+1) 9 [] []=some (pB true,[]):=by kernel_rfl
end
end
def g_ {s:Xs}{P:Xt->Prop}(hI:Jo s P)(f:Int)(st:List Va)(hne:∀X y,P X->pX s X=some y->y.2≠0->True):∀(N:Nat) (u:Int) (X:Xt),P X->0<=X.fu->X.fu<=f->1<=u->u<=f+1->f+2<=u+N->(∃er fu,jk s f st N u X=lq er fu st/\er≠0/\0<=fu/\fu<=f)\/∃Y,jk s f st N u X=Ie s Y/\P Y/\Y.done=true/\0<=Y.fu/\Y.fu<=f
 |0,u,X,_,_,_,_,_,_=>by omega
 |N+1,u,X,hP,h0,h1,h2,h3,h4=>by
  unfold jk;cases hdn:X.done with
  |true=>exact .inr ⟨X,rfl,hP,hdn,h0,h1⟩
  |false=>
   rw[cond_false];cases hl:aL u f with
   |false=>
    rw[bj,lζ]at hl;refine .inl ⟨17,qX u f,rfl,by omega,?_⟩
    unfold qX;rw[hZ (show f<u by omega),cond_true];omega
   |true=>
    rw[bj,lδ]at hl;obtain⟨y,hy,hPy⟩:=hI.g X hP hdn;rw[cond_true,hy];simp only;cases he:az y.2 0 with
    |false=>
     rw[cE,lζ]at he;refine .inl ⟨y.2,qX u f,rfl,he,?_⟩;unfold qX;rw[Q5 (show ¬f<u by omega),cond_false];omega
    |true=>exact g_ hI f st hne N (u+1) _ (hPy (eqI_t.1 he) u) (by show 0<=u;omega) (by show u<=f;omega) (by omega) (by omega) (by omega)
def L_ {ks:LI}{set:Nat}{ls:List Va}(h:jF ks set ls):Dl ((List.range ks.length).map fun i=>set.testBit i) ls ks=true:=by
 unfold Dl;rw[mε];intro p hp;obtain⟨i,hi,rfl⟩:=qι hp;have hl:=h.n;have hi2:i<ks.length:=by rw[qα,qα,lβ,List.length_range]at hi;omega
 rw[List.getElem_zip,List.getElem_zip];simp only[List.getElem_map,List.getElem_range];rcases h.a i ks[i] (ls[i]'(by omega)) (lε _) (lε _)with h|⟨h,hb⟩
 ·rw[h.1];rfl
 ·rw[h,hb,Lw];simp
def E_:∀{seen ss:List LN},qG seen ss=true->(∀s∈ss,s∉seen)/\ss.Nodup
 |seen,[],_=>⟨(fun _ h=>by cases h),List.nodup_nil⟩
 |seen,s::r,h=>by
  unfold qG at h;simp only[lγ,Bool.not_eq_true',qκ,lδ]at h;obtain⟨-,h1,h2⟩:=h;obtain⟨g1,g2⟩:=E_ h2;refine⟨fun x hx hm=>?_,List.nodup_cons.2 ⟨fun hm=>g1 s hm (qδ.2 (.inr (List.mem_singleton.2 rfl))),g2⟩⟩
  rcases lω.1 hx with rfl|hx
  ·exact h1 _ hm rfl
  ·exact g1 x hx (qδ.2 (.inl hm))
def e_ {α:Type}{f:α->LN}{l:List α}{seen:List LN}(h:qG seen (l.map f)=true){i:Nat}{x:α}(hx:l[i]?=some x):l.findIdx? (fun t=>cg (f t) (f x))=some i:=by
 obtain⟨hi,rfl⟩:=List.getElem?_eq_some_iff.1 hx;rw[qη];refine⟨hi,by rw[ma];exact lν rfl,fun j hj=>?_⟩
 rw[ma,lδ];intro e;have hn:=(E_ h).2;have hm:(l.map f)[j]'(by rw[lβ];omega)=(l.map f)[i]'(by rw[lβ];omega):=by rw[List.getElem_map,List.getElem_map,e]
 have:=(List.getElem_inj hn).1 hm;omega
variable {a:Int} {q:Cm} {ar:List Va}
def M_ {c:List Ct}(hv:Hi c=0){b:Int}{t:Ct}(ht:dj c a=some t)(hq:dj t.methods b=some q)(har:FvL q.params ar):G_ c t.name q.name ar=(⟨a,b,0,ar++List.replicate (q.locals.length - ar.length) v0⟩,0):=by
 have hf:=(Č hv).1;have hft:=hf;unfold CP at hf;simp only[lγ,mε]at hf;have htt:=hf.2.2.1 t (nJ ht);unfold vT at htt;simp only[lγ]at htt;obtain⟨a0,a1,a2⟩:=jH ht;obtain⟨b0,b1,b2⟩:=jH hq;have h1:c.findIdx? (fun u=>cg u.name t.name)=some a.toNat:=e_ (f:=Yp) hf.2.1 a2;have h2:t.methods.findIdx? (fun u=>cg u.name q.name)=some b.toNat:=e_ (f:=Zn) htt.2.2.2.1 b2;unfold G_;rw[eqI_t.2 hv,cond_true,h1];simp only;rw[a2];simp only;rw[h2];simp only;rw[b2];simp only;rw[har.fit,cond_true,mσ a0,mσ b0]
def I_ {c:List Ct}(hv:Hi c=0){b:Int}{t:Ct}(ht:dj c a=some t)(hq:dj t.methods b=some q):la c a b=some q:=by
 unfold la wM;rw[eqI_t.2 hv,cond_true,ht];exact hq
def F_ {c:List Ct}{t:Ct}{S:List SV}(hf:HI c t q)(hx:Í c t q S)(har:FvL q.params ar){v:SV}(hv:S[0]?=some v):jF q.locals v.set (ar++List.replicate (q.locals.length - ar.length) v0):=by
 obtain⟨w,hw,-,hwb⟩:=hx.z;rw[hv]at hw;cases hw;have hl:=har.len;have hpl:=congrArg List.length hf.pl;rw[mγ]at hpl;refine⟨by rw[mη,mμ];omega,fun i k u hk hu=>?_⟩
 by_cases hi:i<q.params.length
 ·rw[lι (by omega)]at hu;have hk2:q.params[i]?=some k:=by
   rw[<-hf.pl,List.getElem?_take,if_pos hi];exact hk
  obtain⟨w,hw,hfw⟩:=har.get hk2;rw[hu]at hw;cases hw;exact .inl hfw
 ·rw[lσ (by omega),List.getElem?_replicate]at hu;split at hu
  ·cases hu;refine .inr ⟨rfl,?_⟩;have:=congrArg (fun n:Nat=>n.testBit i) hwb;simp only[Nat.testBit_and,Nat.testBit_two_pow_sub_one,show decide (i<q.params.length)=false from mθ hi,Bool.and_false]at this;exact this.symm
  ·cases hu
def H_ {c:List Ct}(hc:AJ c){x:Mc}(hq:la c x.ty x.me=some q){pc:Nat}(hpc:x.pc=(pc:Int))(hcl:pc<q.code.length)(hcb:xC q x.pc=true)(hls:∀(t:Ct) (S:List SV) (v:SV),dj c x.ty=some t->dj t.methods x.me=some q->HI c t q->jG c t q=some S->S[pc]?=some v->jF q.locals v.set x.ls):ot c x=true:=by
 obtain⟨t,S,g1,g2,g3,g4,g5,g6,g7,g8,g9,g10⟩:=Qb hc hq;obtain⟨v,hv,-,has⟩:=U8 g8 g9 g10.n (p:=x.pc) ⟨by omega,by omega⟩
 obtain⟨-,-,hv2⟩:=jH hv;have hlc:=hls t S v g2 g4 g6 g7 (by rw[hpc]at hv2;exact hv2);rw[VM hq,has,L_ hlc,hcb,lν hlc.n,Q5 (show ¬x.pc<0 by omega),bj,mθ (show ¬(q.code.length:Int)<=x.pc by omega)];rfl
def s_ {c:List Ct}(hc:AJ c)(hv:Hi c=0){b:Int}{t:Ct}(ht:dj c a=some t)(hq:dj t.methods b=some q)(har:FvL q.params ar):ot c ⟨a,b,0,ar++List.replicate (q.locals.length - ar.length) v0⟩=true:=by
 have hme:=I_ hv ht hq;have hf:HI c t q:=by
  obtain⟨t2,S,g1,g2,g3,g4,g5,g6,g7,g8,g9,g10⟩:=Qb hc hme;rw[ht]at g2;cases g2;exact g6
 refine H_ hc (x:=⟨a,b,0,_⟩) hme (pc:=0) rfl hf.n rfl fun t2 S v h1 h2 h3 h4 h5=>?_
 exact F_ h3 (R2 h3 h4) har h5
def D_ {α:Type}[DecidableEq α]{xs ys:List α}(hl:xs.length=ys.length):decide (xs=ys)=((xs.zip ys).all fun p=>!(!decide (p.1=p.2))):=by
 rw[mζ,mε,lδ];constructor
 ·rintro rfl p hp
  obtain⟨i,hi,rfl⟩:=qι hp;simp
 ·intro ha;refine List.ext_getElem hl fun i h1 h2=>?_
  have:=ha (xs[i],ys[i]) (by rw[<-List.getElem_zip (h:=by simp;omega)];exact lρ _);simpa using this
variable {m:Nat}
def t_ (xs ys:LI)(h:xs.length<1501\/ys.length<1501)(hm:1503<=m):Ω m 93 [pL 1 (xs.map iE),pL 1 (ys.map iE)] []=dX (decide (xs=ys)):=by
 replace hm:=fuel hm;obtain⟨m,rfl,hm⟩:=hm;apply z_ m (xs.map iE) (ys.map iE);unfold Ϩ;simp only[lβ,cE,pp];by_cases hl:(xs.length:Int)=ys.length
 ·rw[if_pos hl];have hl':xs.length=ys.length:=by omega
  refine(bA (xs.zip ys) (fun q i=>itL (Ś _ m _ _) q (xs.map iE,ys.map iE,i)) (fun p=>!decide (p.1=p.2)) (fun i=>some (pB false,[])) (some (pB true,[])) (fun q i hi=>?_) (fun q=>?_) (by simp;omega)).trans ?_
  ·have hx:i<xs.length:=by simp at hi;omega
   have hy:i<ys.length:=by omega
   rw[bb];simp only[Ś,lβ,hZ (show((i:Int)<(xs.length:Int)) by omega),be,aU,bf,bw hx,bw hy,bG,dI,wS (show i<eH by unfold eH;omega),List.getElem_zip,cE];exact mj _ _ _
  ·rw[bb];simp only[Ś,lβ,show((xs.zip ys).length:Int)=xs.length by simp;omega,eT,bo]
  ·rw[D_ hl',jY];cases(xs.zip ys).findIdx? fun p=>!decide (p.1=p.2)<;>rfl
 ·rw[if_neg hl,mθ (by rintro rfl;exact hl rfl)]
def u_ (xs ys:List LN)(h:xs.length<1501\/ys.length<1501)(hm:1503<=m):Ω m 94 [pL 1 (xs.map .str),pL 1 (ys.map .str)] []=dX (decide (xs=ys)):=by
 replace hm:=fuel hm;obtain⟨m,rfl,hm⟩:=hm;apply A_ m (xs.map .str) (ys.map .str);unfold ϩ;simp only[lβ,cE,pp];by_cases hl:(xs.length:Int)=ys.length
 ·rw[if_pos hl];have hl':xs.length=ys.length:=by omega
  refine(bA (xs.zip ys) (fun q i=>itL (ś _ m _ _) q (xs.map .str,ys.map .str,i)) (fun p=>!decide (p.1=p.2)) (fun i=>some (pB false,[])) (some (pB true,[])) (fun q i hi=>?_) (fun q=>?_) (by simp;omega)).trans ?_
  ·have hx:i<xs.length:=by simp at hi;omega
   have hy:i<ys.length:=by omega
   rw[bb];simp only[ś,lβ,hZ (show((i:Int)<(xs.length:Int)) by omega),be,aU,bf,bw hx,bw hy,bG,y8,wS (show i<eH by unfold eH;omega),List.getElem_zip,ma];exact mj _ _ _
  ·rw[bb];simp only[ś,lβ,show((xs.zip ys).length:Int)=xs.length by simp;omega,eT,bo]
  ·rw[D_ hl',jY];cases(xs.zip ys).findIdx? fun p=>!decide (p.1=p.2)<;>rfl
 ·rw[if_neg hl,mθ (by rintro rfl;exact hl rfl)]
def v_ (a b:Va)(hi:a.I.length<1501\/b.I.length<1501)(hl:a.L.length<1501\/b.L.length<1501)(hm:1504<=m):Ω m 50 [.p a.e,.p b.e] []=dX (fd a b):=by
 replace hm:=fuel hm;obtain⟨m,rfl,hm⟩:=hm;apply B_ m a.r b.r;unfold Ϫ;show iL (az a.k b.k) _ _=_;have h1:=aa (t_ (m:=m) a.I b.I hi hm);have h2:=aa (u_ (m:=m) a.L b.L hl hm);simp only[Va.r,h1,h2,aY,aJ,aB,fd];cases az a.k b.k<;>cases az a.n b.n<;>cases cg a.s b.s<;>cases decide (a.I=b.I)<;>rfl
def ť:List Va->List Va->Bool
 |[],[]=>true
 |a::l,b::r=>fd a b&&ť l r
 |_,_=>false
def Ο (h:∀v,fd v v=true):∀l,ť l l=true
 |[]=>rfl
 |a::l=>by simp only[ť,h,Ο h l,Bool.and_self]
def Ξ:∀{a b:List Va},a.length≠b.length->ť a b=false
 |[],[],h=>absurd rfl h
 |[],_::_,_=>rfl
 |_::_,[],_=>rfl
 |a::l,b::r,h=>by simp only[ť,Ξ (a:=l) (b:=r) (by simpa using h),Bool.and_false]
def Ρ:∀(a b:List Va),a.length=b.length->ť a b=(a.zip b).all fun p=>!(!fd p.1 p.2)
 |[],[],_=>rfl
 |a::l,b::r,h=>by simp only[ť,List.zip_cons_cons,List.all_cons,Bool.not_not,Ρ l r (by simpa using h)]
def h_ (xs ys:List Va)(hx0:xs.length<1501)(hv:∀v∈xs,v.I.length<1501/\v.L.length<1501)(hm:1505<=m):Ω m 21 [pL 5 (xs.map Va.e),pL 5 (ys.map Va.e)] []=dX (ť xs ys):=by
 replace hm:=fuel hm;obtain⟨m,rfl,hm⟩:=hm;apply l_ m (xs.map Va.e) (ys.map Va.e);unfold ύ;simp only[lβ,cE,pp];by_cases hl:(xs.length:Int)=ys.length
 ·rw[if_pos hl];have hl':xs.length=ys.length:=by omega
  refine(bA (xs.zip ys) (fun q i=>itL (Ŗ _ m _ _) q (xs.map Va.e,ys.map Va.e,i)) (fun p=>!fd p.1 p.2) (fun i=>some (pB false,[])) (some (pB true,[])) (fun q i hi=>?_) (fun q=>?_) (by simp;omega)).trans ?_
  ·have hx:i<xs.length:=by simp at hi;omega
   have hy:i<ys.length:=by omega
   obtain⟨h1,h2⟩:=hv _ (lρ hx);have hs:=aa (v_ xs[i] ys[i] (.inl h1) (.inl h2) (m:=m) hm);rw[bb];simp only[Ŗ,lβ,hZ (show((i:Int)<(xs.length:Int)) by omega),be,aU,bf,bw hx,bw hy,bG,OS,wS (show i<eH by unfold eH;omega),List.getElem_zip];refine(hs _).trans ?_;simp only[aY,aJ,aB];exact mj _ _ _
  ·rw[bb];simp only[Ŗ,lβ,show((xs.zip ys).length:Int)=xs.length by simp;omega,eT,bo]
  ·rw[Ρ _ _ hl',jY];cases(xs.zip ys).findIdx? fun p=>!fd p.1 p.2<;>rfl
 ·rw[if_neg hl,Ξ (by omega)]
def ϴ (v:Va):Bool:=(!az v.k 1&&(!az v.k 2&&!az v.n 0))||((!az v.k 3&&!cg v.s [])||((!az v.k 4&&aG 0 (j3 v.I))||(!az v.k 5&&aG 0 (j3 v.L))))
def ϑ (v:Va):Bool:=aG v.k 0||(aG 5 v.k||((az v.k 2&&(!az v.n 0&&!az v.n 1))||(aG 64 (j3 v.s)||(aG 16 (j3 v.I)||aG 16 (j3 v.L)))))
def O_ (cc:ae)(n:Nat)(k0:Bool×aw->R)(v:Va):ŝ cc n k0 v.r=k0 (ϴ v,v.r):=by
 unfold ŝ ϴ j3;simp only[Va.r,lβ];cases az v.k 1<;>cases az v.k 2<;>cases az v.n 0<;>cases az v.k 3<;>cases cg v.s []<;>cases az v.k 4<;>cases aG 0 (v.I.length:Int)<;>cases az v.k 5<;>cases aG 0 (v.L.length:Int)<;>rfl
def P_ (cc:ae)(n:Nat)(k0:Bool×aw->R)(v:Va):Ş cc n k0 v.r=k0 (ϑ v,v.r):=by
 unfold Ş ϑ j3;simp only[Va.r,lβ];cases aG v.k 0<;>cases aG 5 v.k<;>cases az v.k 2<;>cases az v.n 0<;>cases az v.n 1<;>cases aG 64 (v.s.length:Int)<;>cases aG 16 (v.I.length:Int)<;>cases aG 16 (v.L.length:Int)<;>rfl
def N_ (v:Va):ra v=(!ϴ v&&(!ϑ v&&v.L.all fun t=>!aG 64 (j3 t))):=by
 unfold ra ϴ ϑ xz xA HZ t8;have h12:az v.k 1=true->az v.k 2=false:=fun h=>by rw[eqI_t.1 h];rfl
 cases h:az v.k 1
 ·cases aG v.k 0<;>cases aG 5 v.k<;>cases az v.k 2<;>cases az v.n 0<;>cases az v.n 1<;>cases az v.k 3<;>cases cg v.s []<;>cases az v.k 4<;>cases aG 0 (j3 v.I)<;>cases az v.k 5<;>cases aG 0 (j3 v.L)<;>first|rfl|(cases aG 64 (j3 v.s)<;>cases aG 16 (j3 v.I)<;>cases aG 16 (j3 v.L)<;>rfl)
 ·rw[h12 h];cases aG v.k 0<;>cases aG 5 v.k<;>cases az v.n 0<;>cases az v.n 1<;>cases az v.k 3<;>cases cg v.s []<;>cases az v.k 4<;>cases aG 0 (j3 v.I)<;>cases az v.k 5<;>cases aG 0 (j3 v.L)<;>first|rfl|(cases aG 64 (j3 v.s)<;>cases aG 16 (j3 v.I)<;>cases aG 16 (j3 v.L)<;>rfl)
def i_ (v:Va)(hm:30<=m):Ω m 28 [.p v.e] []=dX (ra v):=by
 replace hm:=fuel hm;obtain⟨m,rfl,hm⟩:=hm;apply m_ m v.r;unfold ώ;rw[N_];simp only[O_,P_];cases ϴ v
 ·cases h2:ϑ v
  ·have hl:v.L.length<=16:=by
    simp only[ϑ,qε]at h2;have h3:=h2.2.2.2.2.2;rw[bX,lζ]at h3;unfold j3 at h3;omega
   simp only[bo,Bool.not_false,Bool.true_and];refine(bA v.L (fun q i=>itL (ŗ _ m _ _) q (i,v.r)) (fun t=>aG 64 (j3 t)) (fun i=>some (pB false,[])) (some (pB true,[])) (fun q i hi=>?_) (fun q=>?_) (by omega)).trans ?_
   ·rw[bb];simp only[ŗ,show v.r.L=v.L.map Da.str from rfl,lβ,hZ (show((i:Int)<(v.L.length:Int)) by omega),be,aU,bf,bw hi,bG,y8,wS (show i<eH by unfold eH;omega)];exact mj _ _ _
   ·rw[bb];simp only[ŗ,show v.r.L=v.L.map Da.str from rfl,lβ,eT,bo]
   ·rw[jY];cases v.L.findIdx? fun t=>aG 64 (j3 t)<;>rfl
  ·rfl
 ·rfl
def f_ (c:List Ct)(x:Mc)(fs:List Va)(g:HK)(h:AS g.es)(hm:1000<=m)(k0:_->R)(k1:_->R):itL (p6 (dC lay0.tab m) m k0 k1) m (fs.map Va.e,0,de c,x.r,g.r)=k1 (fs.map Va.e,(g.es.length:Int),de c,x.r,g.r):=by
 have hn:=h.n;refine(bA g.es (fun q i=>itL (p6 (dC lay0.tab m) m k0 k1) q (fs.map Va.e,i,de c,x.r,g.r)) (fun _=>false) (fun _=>none) (k1 (fs.map Va.e,(g.es.length:Int),de c,x.r,g.r)) (fun q i hi=>?_) (fun q=>?_) (by omega)).trans ?_
 ·rw[bb];obtain⟨⟨a1,a2⟩,⟨a3,a4⟩,a5,a6⟩:=h.a _ (lρ hi);simp only[p6,show g.r.Effects=g.es.map Ef.e from rfl,lβ,hZ (show(i:Int)<(g.es.length:Int) by omega),be,aU,bf,bw hi,bG,YM,wS (show i<eH by unfold eH;omega)];rw[Q5 (show ¬g.es[i].k<1 by omega),bo,Q5 (show ¬3<g.es[i].k by omega),bo,Q5 (show ¬(g.es[i].n.length:Int)<1 by omega),bo,Q5 (show ¬32<(g.es[i].n.length:Int) by omega),bo];cases h2:az g.es[i].k 2 with
  |true=>
   obtain⟨b1,b2⟩:=a5 (eqI_t.1 h2);rw[be,Q5 (show ¬g.es[i].a<1 by omega),bo,Q5 (show ¬g.es[i].b<1 by omega),bo,show az g.es[i].k 3=false by rw[eqI_t.1 h2];rfl];rfl
  |false=>
   cases h3:az g.es[i].k 3 with
   |true=>
    obtain⟨b1,b2⟩:=a6 (eqI_t.1 h3);rw[b1,b2];rfl
   |false=>rfl
 ·rw[bb];simp only[p6,show g.r.Effects=g.es.map Ef.e from rfl,lβ,eT,bo]
 ·rw[mτ.2 fun _ _=>rfl]
def a_ (c:List Ct)(x:Mc)(key:LN)(fs:List Va)(rp:Va)(p5:Int)(hbc:Bc c)(hcv:ZR c)(hxs:LB x.ls)(hfs:LB fs)(hrp:VB rp)(h5:0<=p5)(hm:2000100<=m)(haw:Ω m 9 [] []=some (pB true,[])):Ω (m+1) 6 [.p (de c).e,.p x.e,pS key,pL 5 (fs.map Va.e),.p rp.e,.p (.int .u16 p5)] []=dX true:=by
 apply d_ m (de c) x.r key (fs.map Va.e) rp.r p5;unfold Θ;obtain⟨k,rfl,hk⟩:=fuel (show 2000099+1<=m from hm);have a1:=aa haw;rw[a1];simp only[aY,aJ,aB,be];refine(aa (Rb (m:=k) (by omega) c hbc) _).trans ?_;simp only[aY,aJ,aB];cases hsm:vz c with
 |false=>rfl
 |true=>
 rw[be];refine(aa (qp (m:=k) (by omega) x.ls hxs.n fun v hv=>(hxs.v v hv).L) _).trans ?_;simp only[aY,aJ,aB];cases hlx:uQ x.ls with
 |false=>rfl
 |true=>
 rw[be,aa (qp (m:=k) (by omega) fs hfs.n fun v hv=>(hfs.v v hv).L)];simp only[aY,aJ,aB];cases hlf:uQ fs with
 |false=>rfl
 |true=>
 rw[be];refine(aa (qp (m:=k) (by omega) [rp] (by simp[lw]) fun v hv=>by rw[List.mem_singleton.1 hv];exact hrp.L) _).trans ?_;simp only[aY,aJ,aB];cases hlr:uQ [rp]with
 |false=>rfl
 |true=>
 rw[be];cases hkey:aG 100 (key.length:Int)with
 |true=>rfl
 |false=>
 rw[bo];obtain⟨x1,x2⟩:=zS hlx;obtain⟨f1,f2⟩:=zS hlf;have hrl:=(zS hlr).2 rp lυ;have hsz:=QE hsm;obtain⟨t1,t2⟩:=VH h5 (show(0:Int)<2000 by omega);have w1:ag .i64 (Int.tmod p5 2000)=Int.tmod p5 2000:=fO (by omega) (by omega);generalize hn1:Int.tmod p5 2000=n1 at*
 have hx':∀v∈x.ls,EY v:=fun v hv=>(hxs.v v hv).v
 have hf':∀v∈fs,EY v:=fun v hv=>(hfs.v v hv).v
 have r1:=fun n=>aa (VU (m:=k+1) hsz x key fs rp n (by omega) (by omega) x2 f2 hrl (X6 hsz hcv hx' hf' hrp.v) (by omega))
 rw[w1];refine(r1 n1 _).trans ?_;rw[c3,aR,aY];show cG (Lt c x key fs rp n1).1.r.e _=_;have dS:∀(g:HK) K,cG g.r.e K=K g.r:=fun _ _=>rfl
 rw[dS];simp only[aR,aY,bW,aB];unfold Lt;cases hok:kf c x key fs rp n1 with
 |false=>rfl
 |true=>
 obtain⟨t,S,q1,q2,q3,q4,q5,q6,q7⟩:=yo hsz hcv hx' hf' hrp.v hok;have hI:=Iv q1 q3;have hlg:=P2 (fs:=fs) hsz q5 q1 q3 ⟨by omega,f2⟩ n1 (n1.toNat+1) 1 (X0 x fs rp) q2
 have res:=g_ hI n1 fs (fun _ _ _ _ _=>trivial) (n1.toNat+1) 1 (X0 x fs rp) q2 (by show(0:Int)<=0;omega) (by show(0:Int)<=n1;omega) (by omega) (by omega) (by omega);simp only[cond_true];generalize jk (S0 c x key) n1 fs (n1.toNat+1) 1 (X0 x fs rp)=g at res hlg;rw[show az 0 0=true from rfl,Bool.not_true,bo];refine(aa (VV hsz x.ty g.fs hlg.f.1 (m:=k+1) (by omega)) _).trans ?_;simp only[aY,aJ,aB];unfold kf at hok;simp only[lγ]at hok;obtain⟨q,hq⟩:∃q,la c x.ty x.me=some q:=⟨_,q6⟩;obtain⟨t2,S2,m1,m2,m3,m4,m5,m6,m7,m8,m9,m10⟩:=Qb hsz hq;rw[q4]at m2;cases m2;have hSq:(S0 c x key).q=q:=by unfold S0;rw[hq];rfl
 rcases res with⟨er,fu,rfl,e1,e2,e3⟩|⟨Y,rfl,hY,hd,e2,e3⟩
 ·rw[show QV c x.ty (lq er fu fs).fs=true from hok.2.2.1,be];show iL (aG fu 0) _ (iL (aG n1 fu) _ (iL (aG 16 (([]:LD).length:Int)) _ _))=_;rw[Q5 (show ¬fu<0 by omega),bo,Q5 (show ¬n1<fu by omega),bo,show aG 16 (([]:LD).length:Int)=false from rfl,bo,f_ c x fs (lq er fu fs) ⟨by simp[lq],fun e he=>by cases he⟩ (by omega)];show iL (az 3 1) _ (iL (az 3 2) _ (iL (az 3 3) (iL (!az er 0) _ _) _))=_;have he:az er 0=false:=by rw[cE];exact mθ e1
  rw[show az 3 1=false from rfl,show az 3 2=false from rfl,show az 3 3=true from rfl,bo,bo,be,he,Bool.not_false,be];refine(aa (h_ fs fs (by omega) (fun v hv=>⟨(f2 v hv).I,(f2 v hv).L⟩) (m:=k+1) (by omega)) _).trans ?_;rw[Ο Lw];rfl
 ·have hYe:=hY.es;have hfit:QV c x.ty (Ie (S0 c x key) Y).fs=true:=by
   unfold QV wM;rw[eqI_t.2 m1,cond_true,q4];exact hY.fs.fit
  rw[hfit,be];show iL (aG Y.fu 0) _ (iL (aG n1 Y.fu) _ (iL (aG 16 ((Y.es.map Ef.e).length:Int)) _ _))=_;have hen:=hYe.n;rw[Q5 (show ¬Y.fu<0 by omega),bo,Q5 (show ¬n1<Y.fu by omega),bo,lβ,Q5 (show ¬16<(Y.es.length:Int) by omega),bo,f_ c x fs (Ie (S0 c x key) Y) hYe (by omega)];have hty:bU (de c).Types x.r.Type_=some t.e:=by
   show bU (c.map Ct.e) x.ty=_;rw[aU,q4];rfl
  have hme:bU t.r.Methods x.r.Method=some q.e:=by
   show bU (t.methods.map Cm.e) x.me=_;rw[aU,m4];rfl
  rcases hY.dn hd with⟨o1,o2,o3⟩|⟨o1,o2,pc,y,v,u,z,o3,o4,o5,o6,o7,o8,o9,o10,o11,o12,o13⟩
  ·rw[hSq]at o2;show iL (az Y.ok 1) (dC lay0.tab (k+1) 28 [.p Y.ov.e] [] _) _=_;rw[o1,show az 1 1=true from rfl,be,aa (i_ Y.ov (m:=k+1) (by omega))];have hv:=o2.1;unfold jj at hv;rw[lγ]at hv;simp only[aY,aJ,aB,hv.2,be,hty,bG,Cs,hme,FQ];show iL (az Y.ov.k q.res) _ _=_;rw[hv.1];rfl
  ·rw[hSq]at o4 o7;replace o8:dj c y.a=some u:=o8;have hmc:(Ie (S0 c x key) Y).mc=⟨x.ty,x.me,Y.pc,Y.ls⟩:=by
    show(bif az Y.ok 2 then(⟨x.ty,x.me,Y.pc,Y.ls⟩:Mc)else mc0)=_;rw[o1];rfl
   generalize hg:Ie (S0 c x key) Y=g at hmc hlg;have g1:g.k=2:=by rw[<-hg];exact o1
   have g2:g.tT=u.name:=by rw[<-hg];exact o10
   have g3:g.mn=z.name:=by rw[<-hg];exact o11
   have g4:g.tK=Y.tK:=by rw[<-hg];rfl
   have g5:g.ar=Y.ar:=by rw[<-hg];rfl
   show iL (az g.k 1) _ (iL (az g.k 2) (dC lay0.tab (k+1) 12 [.p (de c).e,pS g.tT,pS g.mn,pL 5 (g.ar.map Va.e)] [] _) _)=_;rw[g1,show az 2 1=false from rfl,show az 2 2=true from rfl,bo,be,aa (w_ hsz g.tT g.mn g.ar hlg.a.1 hlg.a.2 (m:=k+1) (by omega)),g2,g3,g5,M_ m1 o8 o9 o13];have dM:∀(q:Mc) K,ű q.e K=K q.r:=fun _ _=>rfl
   simp only[c3,aR,aY,dM,bW,aB];have hcl:pc<q.code.length:=(List.getElem?_eq_some_iff.1 o4).1;have hS:S=S2\/True:= .inr trivial;have hpc1:pc+1<q.code.length:=by
    have:=(List.getElem?_eq_some_iff.1 o6).1;have hn:=q1.x.o.n;rw[hSq]at hn;omega
   have hcb:xC q g.mc.pc=true:=by
    rw[hmc];show xC q Y.pc=true;unfold xC;rw[o3,hZ (show(0:Int)<((pc+1:Nat):Int) by omega),cond_true,show((pc+1:Nat):Int) - 1=(pc:Int) by omega,oL,o4];show az y.op 30=true;rw[o5];rfl
   have hvm:ot c g.mc=true:=by
    refine H_ hsz (q:=q) (by rw[hmc];exact hq) (pc:=pc+1) (by rw[hmc];exact o3) hpc1 hcb fun t3 S3 v3 h1 h2 h3 h4 h5=>?_
    replace h1:dj c x.ty=some t3:=by rw[hmc]at h1;exact h1
    rw[q4]at h1;cases h1;rw[hSq,h4]at q7;cases q7;rw[o6]at h5;cases h5;rw[hmc];exact o7
   have hvn:=s_ hsz m1 o8 o9 o13;have haw2:R8 c g.mc=z.res:=by
    unfold R8;rw[show g.mc.pc=((pc+1:Nat):Int) by rw[hmc];exact o3,show az ((pc+1:Nat):Int) 0=false by rw[cE];exact mθ (by omega),cond_false,show la c g.mc.ty g.mc.me=some q by rw[hmc];exact hq,Option.bind_some,show((pc+1:Nat):Int) - 1=(pc:Int) by omega,oL,o4,Option.bind_some];unfold fA;rw[o8,Option.bind_some,o9];rfl
   refine(aa (Jf hsz g.mc (m:=k+1) (by omega)) _).trans ?_;simp only[c3,aR,aY,bW,aJ,aB,hvm,haw2,cond_true,be];rw[show az 0 0=true from rfl,be];refine(aa (Jh hsz ⟨y.a,y.b,0,Y.ar++List.replicate (z.locals.length - Y.ar.length) v0⟩ (m:=k+1) (by omega)) _).trans ?_;simp only[aY,aJ,aB,hvn,be];refine(aa (Jh hsz g.mc (m:=k+1) (by omega)) _).trans ?_;simp only[aY,aJ,aB,hvm,be];have hk:g.tK.length<=32:=by rw[g4];exact o12
   have e1:az g.mc.ty x.ty=true:=by rw[hmc];exact eqI_t.2 rfl
   have e2:az g.mc.me x.me=true:=by rw[hmc];exact eqI_t.2 rfl
   have e3:aL (g.tK.length:Int) 32=true:=by rw[bj];exact lν (by omega)
   have hu:bU (de c).Types y.a=some u.e:=by
    show bU (c.map Ct.e) y.a=_;rw[aU,o8];rfl
   have hz:bU u.r.Methods y.b=some z.e:=by
    show bU (u.methods.map Cm.e) y.b=_;rw[aU,o9];rfl
   show iL (az g.mc.ty x.ty) (iL (az g.mc.me x.me) (iL (aL (g.tK.length:Int) 32) (cL (bU (de c).Types y.a) _) _) _) _=_;rw[e1,e2,e3,be,be,be,hu,bG,Cs];show cL (bU u.r.Methods y.b) _=_;rw[hz,bG,FQ];show iL (az z.res z.res) _ _=_;rw[eqI_t.2 rfl];rfl
def run_VMSound:∀xs,Pw (gf prog0 (bZ prog0 Bn 12)) [24,27,9,25,45,57] xs->∃N,Ω N 6 (xs.map .p) []=some (pB true,[]):=by
 intro xs h;obtain⟨x1,r1,rfl,h1,h⟩:=h.cons_inv;obtain⟨x2,r2,rfl,h2,h⟩:=h.cons_inv;obtain⟨x3,r3,rfl,h3,h⟩:=h.cons_inv;obtain⟨x4,r4,rfl,h4,h⟩:=h.cons_inv;obtain⟨x5,r5,rfl,h5,h⟩:=h.cons_inv;obtain⟨x6,r6,rfl,h6,h⟩:=h.cons_inv;obtain rfl:=h.nil_inv;obtain⟨c,rfl,hc,hv⟩:=WW (n:=2) h1;obtain⟨x,rfl,hx⟩:=YW (n:=7) h2;obtain⟨key,rfl⟩:=YX (n:=11) h3;obtain⟨fs,rfl,hf⟩:=WX (n:=8) h4;obtain⟨rp,rfl,hr⟩:=Vl (n:=9) h5;obtain⟨p5,rfl,hp,_⟩:=Vk (n:=11) h6;exact⟨2000100+1,a_ (m:=2000100) c x key fs rp p5 hc hv hx hf hr hp (Nat.le_refl _) (Rc (n:=2000099))⟩
end
end Go.Ab
