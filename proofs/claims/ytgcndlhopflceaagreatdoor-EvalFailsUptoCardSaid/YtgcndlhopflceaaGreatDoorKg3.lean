import Derived.Test.YtgcndlhopflceaaGreatDoorKg2
import Derived.Test.YtgcndlhopflceaaGreatDoorOg3
import Derived.Test.YtgcndlhopflceaaGreatDoorKg1
import Derived.Lib.ItoaLen
import Derived.Test.YtgcndlhopflceaaGreatDoorKg0
set_option linter.all false
namespace Go.Ab
open Go
set_option maxRecDepth 100000
noncomputable section
def Tg (v:Va):Bool:=!aP 100 (v.s.length:Int)&&(!aP 40 (v.I.length:Int)&&(!aP 40 (v.L.length:Int)&&v.L.all fun t=>!aP 100 (t.length:Int)))
def qf (l:List Va):Bool:=(l.all Tg)&&bw (l.length:Int) 20
variable {m:Nat}
def abe (l:List Va){i:Nat}(hi:i<l.length)(k0:R)(k1:LD×Int×Int×Bool->R)(h:l[i].L.length<m)(hb:l[i].L.length<1000000000000):itL (kI (ct lay0.tab m) m k0 k1) m (l.map Va.e,(i:Int),0)=bif(l[i].L.all fun t=>!aP 100 (t.length:Int))then k1 (l.map Va.e,(i:Int),(l[i].L.length:Int),false)else k0:=by
 refine(bp l[i].L (fun q j=>itL (kI _ m _ _) q (l.map Va.e,(i:Int),j)) (fun t=>aP 100 (t.length:Int)) (fun _=>k0) (k1 (l.map Va.e,(i:Int),(l[i].L.length:Int),false)) (fun q j hj=>?_) (fun q=>?_) h).trans ?_
 ·rw[nt];simp only[kI,aO,bi,aU hi,bo,Va.e,pR,show ∀v:Va,v.r.L=v.L.map .str from fun _=>rfl,lβ,ej (show((j:Int)<(l[i].L.length:Int)) by omega),aQ,aU hj,uw,wS (show j<cr by unfold cr;omega)];exact fY _ _ _
 ·rw[nt];simp only[kI,aO,bi,aU hi,bo,Va.e,pR,show ∀v:Va,v.r.L=v.L.map .str from fun _=>rfl,lβ,cH,aR]
 ·rw[lP];cases l[i].L.findIdx? fun t=>aP 100 (t.length:Int)<;>rfl
def Qb (l:List Va)(h:l.length<m)(hv:∀v∈l,v.L.length<m)(hb:l.length<1000000000000/\∀v∈l,v.L.length<1000000000000):Ω (m+1) 12 [pL 5 (l.map Va.e)] []=some (pB (qf l),[]):=by
 apply QQ m (l.map Va.e);unfold Bq;refine(bp l (fun q i=>itL (kH _ m _ _) q (l.map Va.e,i)) (fun v=>!Tg v) (fun _=>some (pB false,[])) (some (pB (bw (l.length:Int) 20),[])) (fun q i hi=>?_) (fun q=>?_) h).trans ?_
 ·have h2:=abe (m:=m) l hi;rw[nt];simp only[kH,lβ,ej (show((i:Int)<(l.length:Int)) by omega),aQ,aO,bi,aU hi,bo,Va.e,pR,show ∀v:Va,v.r.S=v.s from fun _=>rfl,show ∀v:Va,v.r.I.length=v.I.length from fun v=>lβ _,show ∀v:Va,v.r.L.length=v.L.length from fun v=>lβ _];rw[h2 _ _ (hv _ (lν _)) (hb.2 _ (lν _))];unfold Tg;rw[wS (show i<cr by unfold cr;have:=hb.1;omega)];cases aP 100 (l[i].s.length:Int)<;>cases aP 40 (l[i].I.length:Int)<;>cases aP 40 (l[i].L.length:Int)<;>cases(l[i].L.all fun t=>!aP 100 (t.length:Int))<;>rfl
 ·rw[nt];simp only[kH,lβ,cH,aR]
 ·unfold qf;rw[fd];cases l.findIdx? fun v=>!Tg v<;>rfl
def Xb (p:fW):Bool:=qf p.f&&qf [p.r]
def zQ (p:List Ac)(args:List Va)(ip:List fW)(lm:Int):Bool:=uU p&&(qf args&&(!aP 12 (ip.length:Int)&&(!aP 300 lm&&ip.all Xb)))
structure LBI (m:Nat)(args:List Va)(ip:List fW):Prop where
 al:args.length<m
 av:∀v∈args,v.L.length<m
 fl:∀p∈ip,p.f.length<m
 fv:∀p∈ip,∀v∈p.f,v.L.length<m
 rl:∀p∈ip,p.r.L.length<m
def Qa {n:Nat}(p:List Ac)(args:List Va)(ip:List fW)(lm:Int)(hp:p.length<n)(h:∀a∈p,N8 n a)(hi:LBI n args ip)(hn:20<=n)(hb:n<1000000000000):Ω (n+3) 6 [pD p,pL 5 (args.map Va.e),pL 6 (ip.map fW.e),pI lm] []=some (pB (zQ p args ip lm),[]):=by
 apply QP (n+2) ⟨p.map Ac.e⟩ (args.map Va.e) (ip.map fW.e) lm;unfold Bp zQ;show ct lay0.tab (n+2) 11 [pD p] [] _=_;rw[aa (YK (n:=n) p hp h)];have ev:=fun(l:List Va) h1 h2 h3=>aa (Qb (m:=n+1) l h1 h2 h3)
 simp only[bk,aF,aC];rw[ev args (by have:=hi.al;omega) (fun v hv=>by have:=hi.av v hv;omega) ⟨by have:=hi.al;omega,fun v hv=>by have:=hi.av v hv;omega⟩];simp only[bk,aF,aC,lβ];cases uU p
 ·rfl
 cases qf args
 ·rfl
 cases h12:aP 12 (ip.length:Int);rotate_left
 ·rfl
 cases aP 300 lm;rotate_left
 ·rfl
 rw[dJ,lμ]at h12;simp only[Bool.not_true,aR,Bool.not_false,Bool.true_and];refine(bp ip (fun q i=>itL (kG _ (n+2) _ _) q (ip.map fW.e,i)) (fun v=>!Xb v) (fun _=>some (pB false,[])) (some (pB true,[])) (fun q i hi2=>?_) (fun q=>?_) (by omega)).trans ?_
 ·have hm:=lν hi2;rw[nt];simp only[kG,lβ,ej (show((i:Int)<(ip.length:Int)) by omega),aQ,aO,bi,aU hi2,bo,HW];show ct lay0.tab (n+2) 12 [pL 5 (ip[i].f.map Va.e)] [] _=_;rw[ev ip[i].f (by have:=hi.fl _ hm;omega) (fun v hv=>by have:=hi.fv _ hm v hv;omega) ⟨by have:=hi.fl _ hm;omega,fun v hv=>by have:=hi.fv _ hm v hv;omega⟩];simp only[bk,aF,aC];unfold Xb;cases qf ip[i].f
  ·rfl
  ·rw[Bool.not_true,aR];show ct lay0.tab (n+2) 12 [pL 5 ([ip[i].r].map Va.e)] [] _=_;rw[ev [ip[i].r] (by simp;omega) (fun v hv=>by rw[List.mem_singleton.1 hv];have:=hi.rl _ hm;omega) ⟨by simp,fun v hv=>by rw[List.mem_singleton.1 hv];have:=hi.rl _ hm;omega⟩]
   simp only[bk,aF,aC,wS (show i<cr by unfold cr;omega)];cases qf [ip[i].r]<;>rfl
 ·rw[nt];simp only[kG,lβ,cH,aR]
 ·rw[fd];cases ip.findIdx? fun v=>!Xb v<;>rfl
structure Dd (c:CS)(j:Nat)(x:No):Prop where
 kb:∀q∈x.kids,∃e:Nat,q=e/\e<j
 k1:x.op=1->cj c.ki (j:Int)=some x.v.k
 k2:x.op=2->∃v,cj c.va (j:Int)=some v/\cj c.ki (j:Int)=some v.kind
 k3:x.op=3->cj c.ki (j:Int)=some 3
 k4:x.op=4\/x.op=5->∃k,cj c.ki (j:Int)=some k/\k≠4/\k≠5
 k6:x.op=6->∃ks k,x.kids.map (cj c.ki)=ks.map some/\cj c.ki (j:Int)=some k/\iY x.name ks=(k,0)
 k8:x.op=8\/x.op=9->∃v q r,cj c.va (j:Int)=some v/\x.kids=q::r/\cj c.ki q=some v.kind
structure Kq (c c':CS)(b:Nat):Prop where
 ki:∀j:Nat,j<b->cj c'.ki (j:Int)=cj c.ki (j:Int)
 va:∀j:Nat,j<b->cj c'.va (j:Int)=cj c.va (j:Int)
def Kq.refl (c:CS)(b:Nat):Kq c c b:=⟨fun _ _=>rfl,fun _ _=>rfl⟩
def Kq.trans {a b c:CS}{k k':Nat}(h:Kq a b k)(g:Kq b c k')(hk:k<=k'):Kq a c k:=⟨fun j hj=>(g.ki j (by omega)).trans (h.ki j hj),fun j hj=>(g.va j (by omega)).trans (h.va j hj)⟩
variable {c':CS} {x:No}
def Dd.kq {c:CS}{b j:Nat}(h:Dd c j x)(g:Kq c c' b)(hj:j<b):Dd c' j x:=by
 have hk:∀q∈x.kids,cj c'.ki q=cj c.ki q:=fun q hq=>by
  obtain⟨e,rfl,he⟩:=h.kb q hq;exact g.ki e (by omega)
 refine⟨h.kb,fun o=>?_,fun o=>?_,fun o=>?_,fun o=>?_,fun o=>?_,fun o=>?_⟩
 ·rw[g.ki j hj];exact h.k1 o
 ·rw[g.ki j hj,g.va j hj];exact h.k2 o
 ·rw[g.ki j hj];exact h.k3 o
 ·rw[g.ki j hj];exact h.k4 o
 ·obtain⟨ks,k,h1,h2,h3⟩:=h.k6 o;exact⟨ks,k,by rw[<-h1];exact List.map_congr_left hk,by rw[g.ki j hj];exact h2,h3⟩
 ·obtain⟨v,q,r,h1,h2,h3⟩:=h.k8 o;exact⟨v,q,r,by rw[g.va j hj];exact h1,h2,by rw[hk q (by rw[h2];exact lη)];exact h3⟩
def VC (s:LN)(x y:Int):(Ds s x y).2=true->(Ds s x y).1≠4/\(Ds s x y).1≠5:=by
 unfold Ds;have z (b:Bool):((2:Int),b).2=true->((2:Int),b).1≠4/\((2:Int),b).1≠5:=fun _=>⟨show(2:Int)≠4 by decide,show(2:Int)≠5 by decide⟩
 have w (b:Bool):((1:Int),b).2=true->((1:Int),b).1≠4/\((1:Int),b).1≠5:=fun _=>⟨show(1:Int)≠4 by decide,show(1:Int)≠5 by decide⟩
 cases be s [38,38];rotate_left
 ·exact z _
 cases be s [124,124];rotate_left
 ·exact z _
 cases be s [60];rotate_left
 ·exact z _
 cases be s [60,61];rotate_left
 ·exact z _
 cases be s [62];rotate_left
 ·exact z _
 cases be s [62,61];rotate_left
 ·exact z _
 cases be s [43];rotate_left
 ·intro h;simp only[cond_true,cond_false,lγ,qα,bE,lε]at h ⊢
  omega
 cases be s [45];rotate_left
 ·exact w _
 cases be s [42];rotate_left
 ·exact w _
 cases be s [47];rotate_left
 ·exact w _
 cases be s [37];rotate_left
 ·exact w _
 exact z _
variable {ks:LI}
def ab1 {c:CS}{i k:Int}(h:SF c i x ks=some (k,c'))(h0:c'.er=0):(x.op=1->k=x.v.k)/\(x.op=3->k=3)/\(x.op=4\/x.op=5->k≠4/\k≠5)/\(x.op=6->iY x.name ks=(k,0)):=by
 unfold SF yS at h;refine⟨fun o=>?_,fun o=>?_,fun o=>?_,fun o=>?_⟩
 ·rw[o]at h;simp at h;exact h.1.symm
 ·rw[o]at h;simp at h;exact h.1.symm
 ·rcases o with o|o
  ·rw[o]at h;simp only[show ¬((4:Int)=7) by decide,show(4:Int)<=6 by decide,show ¬((4:Int)=1) by decide,show ¬((4:Int)=3) by decide,show ¬((4:Int)=2) by decide,if_true,if_false]at h;match ks,h with
   |a::r,h=>
    simp only[lα,lζ]at h;rw[<-h.1];cases be x.name [33]<;>decide
  ·rw[o]at h;simp only[show ¬((5:Int)=7) by decide,show(5:Int)<=6 by decide,show ¬((5:Int)=1) by decide,show ¬((5:Int)=3) by decide,show ¬((5:Int)=2) by decide,show ¬((5:Int)=4) by decide,if_true,if_false]at h;match ks,h with
   |a::b::r,h=>
    simp only[lα,lζ]at h;rw[<-h.2]at h0;rw[<-h.1];exact VC _ _ _ (F3 h0)
 ·rw[o]at h;simp only[show ¬((6:Int)=7) by decide,show(6:Int)<=6 by decide,show ¬((6:Int)=1) by decide,show ¬((6:Int)=3) by decide,show ¬((6:Int)=2) by decide,show ¬((6:Int)=4) by decide,show ¬((6:Int)=5) by decide,if_true,if_false,lα,lζ]at h;have he:(iY x.name ks).2=0:=by
   by_cases hz:(iY x.name ks).2=0
   ·exact hz
   ·rw[<-h.2]at h0;unfold wz at h0;rw[if_neg hz]at h0;exact absurd h0 (pi hz)
  rw[<-h.1,<-he]
def ab2 {c:CS}{i:Nat}{k:Int}(h:SF c (i:Int) x ks=some (k,c'))(h0:c'.er=0):c'.ki=c.ki/\(∀j:Int,j≠i->cj c'.va j=cj c.va j)/\(x.op=2->∃v,cj c'.va (i:Int)=some v/\k=v.kind)/\(x.op=8\/x.op=9->∃v r,cj c'.va (i:Int)=some v/\ks=v.kind::r):=by
 have hr:=aaX h h0;cases hr with
 |same h2 h8 h9=>exact⟨rfl,fun _ _=>rfl,fun o=>absurd o h2,fun o=>o.elim (fun o=>absurd o h8) (fun o=>absurd o h9)⟩
 | @var v h2 hf=>exact⟨rfl,fun j hj=>by simp only[fX,if_neg hj],fun _=>⟨v,by simp only[fX,if_true],rfl⟩,fun o=>by omega⟩
 | @lett y r h8 hks=>exact⟨rfl,fun j hj=>by simp only[fX,if_neg hj],fun o=>by omega,fun _=>⟨⟨y,c.lo.length,false⟩,r,by simp only[fX,if_true],hks⟩⟩
 | @asg v r h9 hks hf=>exact⟨rfl,fun j hj=>by simp only[fX,if_neg hj],fun o=>by omega,fun _=>⟨v,r,by simp only[fX,if_true],hks⟩⟩
def Typed (ns:List No)(c:CS)(lo hi:Nat):Prop:=∀j,lo<=j->j<hi->∀x,ns[j]?=some x->Dd c j x
def Typed.kq {ns:List No}{c c':CS}{lo hi b:Nat}(h:Typed ns c lo hi)(g:Kq c c' b)(hb:hi<=b):Typed ns c' lo hi:=fun j h1 h2 x hx=>(h j h1 h2 x hx).kq g (by omega)
def Ŧ (ns:List No)(f:Nat):Prop:=∀(lo i:Nat),To ns lo i->∀(c:CS) (d:Bool) (k:Int) (c':CS),c.ns=ns->eE f c (i:Int) d=some (k,c')->c'.er=0->Typed ns c' lo (i+1)/\Kq c c' lo/\(∀x,ns[i]?=some x->x.op<=7->cj c'.ki (i:Int)=some k)
def Xp {ns:List No}{f:Nat}(hv:Ŧ ns f):∀(l:LI) (lo hi:Nat),Ch ns lo l hi->∀(c:CS) (ks:LI) (c':CS),c.ns=ns->ep (fun c k=>eE f c k false) c l=some (ks,c')->c'.er=0->Typed ns c' lo hi/\Kq c c' lo/\(∀q∈l,∃e:Nat,q=e/\e<hi)/\
  ((∀k∈l,∀y,dL ns k=some y->y.op<=7)->l.map (cj c'.ki)=ks.map some)
 |[],lo,hi,h,c,ks,c',hc,hk,h0=>by
  cases h;simp only[ep,lα,lζ]at hk;obtain⟨rfl,rfl⟩:=hk;exact⟨fun j h1 h2=>by omega,Kq.refl _ _,fun q hq=>(by cases hq),fun _=>rfl⟩
 |_::l,lo,hi,h,c,ks,c',hc,hk,h0=>by
  cases h with
  | @cons _ q _ _ h1 h2=>
   simp only[ep]at hk;cases e1:eE f c (q:Int) false with
   |none=>rw[e1]at hk;cases hk
   |some r1=>
    obtain⟨y,c1⟩:=r1;rw[e1]at hk;simp only at hk;cases e2:ep (fun c k=>eE f c k false) c1 l with
    |none=>rw[e2]at hk;cases hk
    |some r2=>
     obtain⟨ys,c2⟩:=r2;rw[e2]at hk;simp only[lα,lζ]at hk;obtain⟨rfl,rfl⟩:=hk;have z1:c1.er=0:=xl (fun c k r e=>uX f c k false r e) l c1 e2 h0;have s1:=eT f c q false _ e1;obtain⟨a1,a2,a3⟩:=hv lo q h1 c false y c1 hc e1 z1;obtain⟨b1,b2,b3,b4⟩:=Xp hv l (q+1) hi h2 c1 ys c2 (s1.ns.trans hc) e2 h0;have l1:=h1.le;have l2:=h2.le;refine⟨fun j h3 h4 x hx=>?_,a2.trans b2 (by omega),fun z hz=>?_,fun ho=>?_⟩
     ·by_cases hj:j<q+1
      ·exact(a1 j h3 hj x hx).kq b2 hj
      ·exact b1 j (by omega) h4 x hx
     ·rcases mδ.1 hz with rfl|hz
      ·exact⟨q,rfl,by omega⟩
      ·exact b3 z hz
     ·simp only[List.map_cons];rw[b4 fun k hk=>ho k (lρ _ hk),b2.ki q (by omega)];have hq:q<ns.length:=h1.lt;rw[a3 ns[q] (lδ hq) (ho q lη _ (aU hq))]
def į {ns:List No}{f:Nat}(hv:Ŧ ns f):∀(l:LI) (lo hi:Nat),Ch ns lo l hi->∀(c:CS) (d:Bool) (c':CS),c.ns=ns->lz (eE f) c l d=some c'->c'.er=0->Typed ns c' lo hi/\Kq c c' lo/\(∀q∈l,∃e:Nat,q=e/\e<hi)
 |[],lo,hi,h,c,d,c',hc,hk,h0=>by
  cases h;simp only[lz,lα]at hk;subst hk;exact⟨fun j h1 h2=>by omega,Kq.refl _ _,fun q hq=>by cases hq⟩
 |_::l,lo,hi,h,c,d,c',hc,hk,h0=>by
  cases h with
  | @cons _ q _ _ h1 h2=>
   simp only[lz]at hk;cases e1:eE f c (q:Int) d with
   |none=>rw[e1]at hk;cases hk
   |some r1=>
    obtain⟨y,c1⟩:=r1;rw[e1]at hk;simp only at hk;have z1:c1.er=0:=Du (fun c k d r e=>uX f c k d r e) l c1 _ hk h0;have s1:=eT f c q d _ e1;obtain⟨a1,a2,_⟩:=hv lo q h1 c d y c1 hc e1 z1;obtain⟨b1,b2,b3⟩:=į hv l (q+1) hi h2 c1 _ c' (s1.ns.trans hc) hk h0;have l1:=h1.le;have l2:=h2.le;refine⟨fun j h3 h4 x hx=>?_,a2.trans b2 (by omega),fun z hz=>?_⟩
    ·by_cases hj:j<q+1
     ·exact(a1 j h3 hj x hx).kq b2 hj
     ·exact b1 j (by omega) h4 x hx
    ·rcases mδ.1 hz with rfl|hz
     ·exact⟨q,rfl,by omega⟩
     ·exact b3 z hz
def Yy {ns:List No}(hb:∀x∈ns,x.op=6\/x.op=8\/x.op=9->∀k∈x.kids,∀y,dL ns k=some y->y.op<=7):∀f,Ŧ ns f
 |0,lo,i,hs,c,d,k,c',hc,h,h0=>by simp[eE]at h
 |f+1,lo,i,hs,c,d,k,c',hc,h,h0=>by
  have hle:=hs.le;cases hs with
  | @mk _ _ x hx hch=>
   have hx':dL c.ns (i:Int)=some x:=by rw[hc,cd];exact hx
   have hxm:x∈ns:=lξ hx;simp only[eE,hx']at h;by_cases h18:x.op=18
   ·rw[if_pos h18]at h;unfold lA at h;cases e1:lz (eE f) c x.kids false with
    |none=>rw[e1]at h;cases h
    |some c1=>
     rw[e1]at h;simp only[lα,lζ]at h;have hfin:c'={c1 with sc:=c.sc}:=by
      rw[<-h.2];split
      ·rename_i he;rw[<-h.2,if_pos he]at h0;exact dO h0
      ·rfl
     have z1:c1.er=0:=by rw[hfin]at h0;exact h0
     obtain⟨a1,a2,a3⟩:=į (Yy hb f) x.kids lo i hch c false c1 hc e1 z1;have kk:∀b,Kq c1 c' b:=fun b=>by rw[hfin];exact⟨fun _ _=>rfl,fun _ _=>rfl⟩
     refine⟨fun j h3 h4 y hy=>?_,a2.trans (kk lo) (Nat.le_refl _),fun y hy ho=>?_⟩
     ·by_cases hj:j<i
      ·exact(a1 j h3 hj y hy).kq (kk i) hj
      ·obtain rfl:j=i:=by omega
       rw[hx]at hy;obtain rfl:=Option.some.inj hy;exact⟨a3,fun o=>by omega,fun o=>by omega,fun o=>by omega,fun o=>by omega,fun o=>by omega,fun o=>by omega⟩
     ·rw[hx]at hy;obtain rfl:=Option.some.inj hy;omega
   ·rw[if_neg h18]at h;cases e1:ep (fun c k=>eE f c k false) c x.kids with
    |none=>rw[e1]at h;cases h
    |some r1=>
     obtain⟨ks,c1⟩:=r1;rw[e1]at h;simp only at h;by_cases z1:c1.er=0
     ·rw[if_pos z1]at h;cases e2:SF c1 (i:Int) x ks with
      |none=>rw[e2]at h;cases h
      |some r2=>
       obtain⟨k2,c2⟩:=r2;rw[e2]at h;simp only[lα,lζ]at h;obtain⟨rfl,rfl⟩:=h;rw[PB]at h0;rw[dO h0];have z2:=nk h0;obtain⟨a1,a2,a3,a4⟩:=Xp (Yy hb f) x.kids lo i hch c ks c1 hc e1 z1;obtain⟨d1,d2,d3,d4⟩:=ab1 e2 z2;obtain⟨v1,v2,v3,v4⟩:=ab2 e2 z2;obtain⟨n1,_⟩:=CB c2 (i:Int) x k2;have kk:Kq c1 (eP c2 (i:Int) x k2) i:=⟨fun j hj=>by rw[sw,if_neg (by omega),v1],fun j hj=>by rw[n1];exact v2 _ (by omega)⟩
       have ki:x.op<=7->cj (eP c2 (i:Int) x k2).ki (i:Int)=some k2:=fun ho=>by rw[sw,if_pos ⟨ho,rfl⟩]
       refine⟨fun j h3 h4 y hy=>?_,a2.trans kk hch.le,fun y hy ho=>?_⟩
       ·by_cases hj:j<i
        ·exact(a1 j h3 hj y hy).kq kk hj
        ·obtain rfl:j=i:=by omega
         rw[hx]at hy;obtain rfl:=Option.some.inj hy;have hkid:x.op=6\/x.op=8\/x.op=9->x.kids.map (cj (eP c2 (j:Int) x k2).ki)=ks.map some:=fun ho=>by
          rw[<-a4 (hb x hxm ho)];exact List.map_congr_left fun q hq=>by
           obtain⟨e,rfl,he⟩:=a3 q hq;exact kk.ki e he
         refine⟨a3,fun o=>?_,fun o=>?_,fun o=>?_,fun o=>?_,fun o=>?_,fun o=>?_⟩
         ·rw[ki (by omega),d1 o]
         ·obtain⟨v,g1,g2⟩:=v3 o;exact⟨v,by rw[n1];exact g1,by rw[ki (by omega),g2]⟩
         ·rw[ki (by omega),d2 o]
         ·exact⟨k2,ki (by omega),d3 o⟩
         ·exact⟨ks,k2,hkid (.inl o),ki (by omega),d4 o⟩
         ·obtain⟨v,r,g1,g2⟩:=v4 o;have hk:=hkid (.inr o);rw[g2]at hk;cases hkk:x.kids with
          |nil=>rw[hkk]at hk;cases hk
          |cons q t=>
           rw[hkk]at hk;simp only[List.map_cons,lτ]at hk;exact⟨v,q,t,by rw[n1];exact g1,rfl,hk.1⟩
       ·rw[hx]at hy;obtain rfl:=Option.some.inj hy;exact ki ho
     ·rw[if_neg z1]at h;simp only[lα,lζ]at h;rw[<-h.2]at h0;exact absurd h0 z1
variable {fs:List (LN×Vr)}
def Z3 {f:Nat}{pr:List Ac}{m:Me}{c:CS}(h:eX f pr fs m=some (some c))(h0:c.er=0)(ht:∃k:Nat,To m.nodes 0 k/\k+1=m.nodes.length)(hb:∀x∈m.nodes,x.op=6\/x.op=8\/x.op=9->∀k∈x.kids,∀y,dL m.nodes k=some y->y.op<=7):Typed m.nodes c 0 m.nodes.length:=by
 unfold eX at h;cases hp:mc (CS.init pr fs m) m.params with
 |none=>rw[hp]at h;cases h
 |some o=>
  cases o with
  |none=>rw[hp]at h;cases h
  |some c1=>
   rw[hp]at h;simp only at h;obtain⟨k,hs,hk⟩:=ht;have he:((m.nodes.length:Int) - 1)=(k:Int):=by omega
   rw[he]at h;cases hv:eE f c1 (k:Int) false with
   |none=>rw[hv]at h;cases h
   |some r=>
    obtain⟨y,c2⟩:=r;rw[hv]at h;simp only[lα]at h;subst h;have hst:=j5 _ _ hp;rw[<-hk];exact(Yy hb f 0 k hs c1 false y c2 hst.ns hv h0).1
def F1 {v:Va}(h:kg v=true)(hn:ji v.n)(hi:∀x∈v.I,ji x):Wk v:=by
 unfold kg HJ vn cT at h;simp only[lγ,Bool.not_eq_true',qβ,dJ,bE,lμ,mζ,Bool.and_eq_false_iff,Bool.not_eq_false',lε]at h;obtain⟨_,_,⟨a1,a2,a3⟩,⟨b1,b2,b3⟩,d⟩:=h;have z:∀{α:Type} (l:List α),¬(0<(l.length:Int))->l=[]:=fun l h=>lθ (by omega)
 refine⟨hn,hi,by omega,by omega,by omega,fun t ht=>?_,fun hk=>?_,fun hk=>?_,fun hk=>?_⟩
 ·have:=d t ht;omega
 ·exact z _ (a3.elim id fun h=>by omega)
 ·exact z _ (a2.elim id fun h=>by omega)
 ·rcases a1 with a1|a1
  ·rw[la,lε]at a1;exact a1
  ·omega
def PZ {n:Int}(h:ji n):Wk (W9 n):=⟨h,(fun x hx=>by cases hx),by simp[W9],by simp[W9],by simp[W9],(fun x hx=>by cases hx),fun _=>rfl,fun _=>rfl,fun _=>rfl⟩
def Ak (b:Bool):Wk (Rp b):=⟨by cases b<;>(unfold Rp ji;simp),(fun x hx=>by cases hx),by simp[Rp],by simp[Rp],by simp[Rp],(fun x hx=>by cases hx),fun _=>rfl,fun _=>rfl,fun _=>rfl⟩
def kf:Wk v0:=⟨Tl,(fun x hx=>by cases hx),by simp[v0],by simp[v0],by simp[v0],(fun x hx=>by cases hx),fun _=>rfl,fun _=>rfl,fun _=>rfl⟩
def P0 {s:LN}(h:s.length<=64):Wk ⟨3,0,s,[],[]⟩:=⟨Tl,(fun x hx=>by cases hx),h,by simp,by simp,(fun x hx=>by cases hx),fun _=>rfl,fun _=>rfl,fun h=>absurd rfl h⟩
def abh (o:LN)(v:Va):Wk (S_ o v).1:=by
 unfold S_;cases be o [33]
 ·exact PZ (Ī _ _ Tl)
 ·exact Ak _
variable {a:Va}
def abg (o:LN){b:Va}(ha:Wk a)(hb:Wk b):Wk (Ż o a b).1:=by
 unfold Ż;cases be o [61,61];rotate_left
 ·exact Ak _
 cases be o [33,61];rotate_left
 ·exact Ak _
 cases be o [60];rotate_left
 ·exact Ak _
 cases be o [60,61];rotate_left
 ·exact Ak _
 cases be o [62];rotate_left
 ·exact Ak _
 cases be o [62,61];rotate_left
 ·exact Ak _
 cases h:be o [43]&&az a.k 3
 ·exact PZ (Ī _ _ ha.n)
 ·simp only[cond_true,cond_false];cases h6:aP 64 (a.s.length+b.s.length:Nat)
  ·rw[dJ,lμ]at h6;exact P0 (by rw[mγ];omega)
  ·exact kf
def Lk (k:Int)(v:Va):Prop:=k=4\/k=5->v.k≠3
def KV2:LI->List Va->Prop
 |[],[]=>True
 |k::l,v::r=>Lk k v/\KV2 l r
 |_,_=>False
def KV2.len:∀{l:LI} {r:List Va},KV2 l r->l.length=r.length
 |[],[],_=>rfl
 |_::l,_::r,h=>by simp[KV2.len h.2]
 |[],_::_,h=>h.elim
 |_::_,[],h=>h.elim
def pX {k:Int}{v:Va}(h:¬(k=4\/k=5)):Lk k v:=fun g=>absurd g h
def Xi {n:Int}(h:ji n):(za n).length<=64:=by
 unfold za;rw[lβ];have:=Lib.itoa_length_le n h.1 h.2;omega
def okB (k:Int)(o:Option (Va×Int)):Prop:=∃r,o=some r/\Wk r.1/\(r.2=0->Lk k r.1)
def Nn (ha:Wk a)(hk:a.k≠3):(a.k=4->Ga a=a.I.length)/\(a.k≠4->Ga a=a.L.length):=by
 have hs:=ha.k3 hk;refine⟨fun h=>?_,fun h=>?_⟩
 ·unfold Ga;rw[hs,ha.k4 h];simp
 ·unfold Ga;rw[hs,ha.kn h];simp
def ű {b:Va}{k:Int}(ha:Wk a)(hb:Wk b)(hk:a.k≠3):okB k (bif az (Ga a:Nat) 16 then some (v0,5)else bif az a.k 4 then some (⟨a.k,a.n,a.s,a.I++[b.n],a.L⟩,0)else some (⟨a.k,a.n,a.s,a.I,a.L++[b.s]⟩,0)):=by
 obtain⟨s1,s2⟩:=Nn ha hk;cases h16:az (Ga a:Nat) 16
 ·rw[bE,lμ]at h16;have hI:=ha.I;have hL:=ha.L;cases h4:az a.k 4
  ·rw[bE,lμ]at h4;have:=s2 h4;refine⟨_,rfl,⟨ha.n,ha.i,ha.s,ha.I,by rw[mγ,List.length_singleton];omega,fun t ht=>?_,fun h=>absurd h h4,ha.kn,ha.k3⟩,fun _ _=>hk⟩
   rcases mσ.1 ht with h|h
   ·exact ha.e t h
   ·rw[List.mem_singleton.1 h];exact hb.s
  ·rw[bE,lε]at h4;have:=s1 h4;refine⟨_,rfl,⟨ha.n,fun x hx=>?_,ha.s,by rw[mγ,List.length_singleton];omega,ha.L,ha.e,ha.k4,fun h=>absurd h4 h,ha.k3⟩,fun _ _=>hk⟩
   rcases mσ.1 hx with h|h
   ·exact ha.i x h
   ·rw[List.mem_singleton.1 h];exact hb.n
 ·exact⟨_,rfl,kf,fun h=>by cases h⟩
variable {α:Type}
def m9 {P:α->Prop}{l:List α}{i:Nat}{y:α}(h:∀x∈l,P x)(hy:P y):∀x∈l.set i y,P x:=fun x hx=>by
 rcases List.mem_or_eq_of_mem_set hx with h1|h1
 ·exact h x h1
 ·rw[h1];exact hy
def sR {l:List Sg}{k:Int}(h:SX ks (some l)=(k,0)):∃g∈l,g.1=ks/\g.2=k:=by
 unfold SX at h;simp only at h;cases hf:l.find? fun g=>decide (g.1=ks)with
 |none=>rw[hf]at h;cases h
 |some g=>
  rw[hf]at h;simp only[lζ,and_true]at h;exact⟨g,List.mem_of_find?_eq_some hf,by simpa using List.find?_some hf,h⟩
def aah {b:Va}(ha:Wk a)(hb:Wk b)(hk:a.k≠3)(r2:List Va){k:Int}(hkl:¬(k=4\/k=5)):okB k (Z_ [97,116] (a::b::r2)):=by
 obtain⟨s1,s2⟩:=Nn ha hk;show okB k (bif aP b.n 0 then some (v0,20)else bif bw (Ga a:Nat) b.n then some (v0,20)else bif az a.k 4 then a.I[b.n.toNat]?.map (fun x=>(W9 x,0))else a.L[b.n.toNat]?.map (fun t=>(⟨3,0,t,[],[]⟩,0)));cases h1:aP b.n 0;rotate_left
 ·exact⟨_,rfl,kf,fun h=>by cases h⟩
 cases h2:bw (Ga a:Nat) b.n;rotate_left
 ·exact⟨_,rfl,kf,fun h=>by cases h⟩
 rw[dJ,lμ]at h1;rw[bW,lμ]at h2;cases h4:az a.k 4
 ·rw[bE,lμ]at h4;have:=s2 h4;have hi:b.n.toNat<a.L.length:=by omega
  rw[cond_false,cond_false,cond_false,lδ hi];exact⟨_,rfl,P0 (ha.e _ (lν _)),fun _=>pX hkl⟩
 ·rw[bE,lε]at h4;have:=s1 h4;have hi:b.n.toNat<a.I.length:=by omega
  rw[cond_false,cond_false,cond_true,lδ hi];exact⟨_,rfl,PZ (ha.i _ (lν _)),fun _=>pX hkl⟩
def H_ {b c:Va}(ha:Wk a)(hb:Wk b)(hc:Wk c)(hk:a.k≠3)(r2:List Va)(k:Int):okB k (Z_ [115,101,116] (a::b::c::r2)):=by
 obtain⟨s1,s2⟩:=Nn ha hk;show okB k (bif aP b.n 0 then some (v0,20)else bif bw (Ga a:Nat) b.n then some (v0,20)else bif az a.k 4 then a.I[b.n.toNat]?.map (fun _=>(⟨a.k,a.n,a.s,a.I.set b.n.toNat c.n,a.L⟩,0))else a.L[b.n.toNat]?.map (fun _=>(⟨a.k,a.n,a.s,a.I,a.L.set b.n.toNat c.s⟩,0)));cases h1:aP b.n 0;rotate_left
 ·exact⟨_,rfl,kf,fun h=>by cases h⟩
 cases h2:bw (Ga a:Nat) b.n;rotate_left
 ·exact⟨_,rfl,kf,fun h=>by cases h⟩
 rw[dJ,lμ]at h1;rw[bW,lμ]at h2;cases h4:az a.k 4
 ·rw[bE,lμ]at h4;have:=s2 h4;have hi:b.n.toNat<a.L.length:=by omega
  rw[cond_false,cond_false,cond_false,lδ hi];exact⟨_,rfl,⟨ha.n,ha.i,ha.s,ha.I,by rw[List.length_set];exact ha.L,m9 ha.e hc.s,fun h=>absurd h h4,ha.kn,ha.k3⟩,fun _ _=>hk⟩
 ·rw[bE,lε]at h4;have:=s1 h4;have hi:b.n.toNat<a.I.length:=by omega
  rw[cond_false,cond_false,cond_true,lδ hi];exact⟨_,rfl,⟨ha.n,m9 ha.i hc.n,ha.s,by rw[List.length_set];exact ha.I,ha.L,ha.e,ha.k4,fun h=>absurd h4 h,ha.k3⟩,fun _ _=>hk⟩
def aam {o:LN}{k:Int}{l:List Va}(h:iY o ks=(k,0))(hk:KV2 ks l)(hw:∀v∈l,Wk v)(hl:l.length<=16):okB k (Z_ o l):=by
 by_cases h1:o=[105,110,116,115]
 ·subst h1;have e:(iY [105,110,116,115] ks).1=4:=rfl;refine⟨(⟨4,0,[],l.map Va.n,[]⟩,0),rfl,⟨Tl,fun x hx=>?_,by simp,by simp;omega,by simp,(fun x hx=>by cases hx),fun _=>rfl,fun h=>absurd rfl h,fun _=>rfl⟩,fun _ _=>show(4:Int)≠3 by decide⟩
  obtain⟨v,hv,rfl⟩:=List.mem_map.1 hx;exact(hw v hv).n
 by_cases h2:o=[115,116,114,105,110,103,115]
 ·subst h2;refine⟨(⟨5,0,[],[],l.map Va.s⟩,0),rfl,⟨Tl,(fun x hx=>by cases hx),by simp,by simp,by simp;omega,fun x hx=>?_,fun h=>absurd h (show(5:Int)≠4 by decide),fun _=>rfl,fun _=>rfl⟩,fun _ _=>show(5:Int)≠3 by decide⟩
  obtain⟨v,hv,rfl⟩:=List.mem_map.1 hx;exact(hw v hv).s
 have e1:be o [105,110,116,115]=false:=by rw[la];exact mε h1
 have e2:be o [115,116,114,105,110,103,115]=false:=by rw[la];exact mε h2
 unfold iY at h;rw[e1,e2,cond_false,cond_false]at h;by_cases h3:o=[108,101,110]
 ·subst h3;obtain⟨g,hg,g1,g2⟩:=sR (l:=[([3],1),([4],1),([5],1)]) h;have hk1:ks.length=1/\k=1:=by
   simp only[mδ,List.not_mem_nil,or_false]at hg;rcases hg with rfl|rfl|rfl<;>exact⟨by rw[<-g1];rfl,g2.symm⟩
  match l,hk.len,hk1.1 with
  |a::t,_,_=>
   have ha:=hw a lη;have:=ha.s;have:=ha.I;have:=ha.L;exact⟨(W9 (Ga a:Nat),0),rfl,PZ (by unfold ji Ga;omega),fun _=>pX (by omega)⟩
  |[],e1,e2=>rw[e2]at e1;cases e1
 by_cases h4:o=[115,116,114]
 ·subst h4;obtain⟨g,hg,g1,g2⟩:=sR (l:=[([1],3)]) h;simp only[mδ,List.not_mem_nil,or_false]at hg;subst hg;have hlen:=hk.len;rw[<-g1]at hlen;match l,hlen with
  |a::t,_=>
   exact⟨(⟨3,0,za a.n,[],[]⟩,0),rfl,P0 (Xi (hw a lη).n),fun _=>pX (by rw[<-g2];decide)⟩
 by_cases h5:o=[97,112,112,101,110,100]
 ·subst h5;obtain⟨g,hg,g1,g2⟩:=sR (l:=[([4,1],4),([5,3],5)]) h;simp only[mδ,List.not_mem_nil,or_false]at hg;have hks:∃p q,ks=[p,q]/\(p=4\/p=5):=by rcases hg with rfl|rfl<;>exact⟨_,_,g1.symm,by decide⟩
  obtain⟨p,q,rfl,hp⟩:=hks;match l,hk,hw with
  |[a,b],hk,hw=>exact ű (hw a lη) (hw b (lρ _ lη)) (hk.1 hp)
  |a::b::c::t,hk,_=>exact hk.2.2.elim
 by_cases h6:o=[97,116]
 ·subst h6;obtain⟨g,hg,g1,g2⟩:=sR (l:=[([4,1],1),([5,1],3)]) h;simp only[mδ,List.not_mem_nil,or_false]at hg;have hks:∃p q,ks=[p,q]/\(p=4\/p=5)/\¬(k=4\/k=5):=by rcases hg with rfl|rfl<;>exact⟨_,_,g1.symm,by decide,by rw[<-g2];decide⟩
  obtain⟨p,q,rfl,hp,hkk⟩:=hks;match l,hk,hw with
  |a::b::t,hk,hw=>exact aah (hw a lη) (hw b (lρ _ lη)) (hk.1 hp) t hkk
 by_cases h7:o=[115,101,116]
 ·subst h7;obtain⟨g,hg,g1,g2⟩:=sR (l:=[([4,1,1],4),([5,1,3],5)]) h;simp only[mδ,List.not_mem_nil,or_false]at hg;have hks:∃p q s,ks=[p,q,s]/\(p=4\/p=5):=by rcases hg with rfl|rfl<;>exact⟨_,_,_,g1.symm,by decide⟩
  obtain⟨p,q,s,rfl,hp⟩:=hks;match l,hk,hw with
  |a::b::c::t,hk,hw=>exact H_ (hw a lη) (hw b (lρ _ lη)) (hw c (lρ _ (lρ _ lη))) (hk.1 hp) t k
 ·exfalso;unfold P_ at h;have f:∀{t:LN},o≠t->be o t=false:=fun hne=>by rw[la];exact mε hne
  rw[f h3,f h6,f h5,f h7,f h4]at h;cases h
structure AC (x:dR)(c:CS):Prop where
 body:cU x.bs x.ti x.mi=some c
 ty:Typed x.ns c 0 x.ns.length
 kv:∀n∈x.ns,eu x.ns n=true/\pQ n=true
 cn:∀n∈x.ns,ji n.v.n
 sl:∀n v,cj c.va n=some v->(v.field=true/\∃f,dL x.a.fields v.slot=some f/\f.kind=v.kind)\/(v.field=false/\∃pa,dL c.lo v.slot=some pa/\pa.kind=v.kind)
 ky:x.ky.length<=64
 il:x.ip.length<=12
 ff:∀p∈x.ip,fR p.f (x.a.fields.map Fe.kind)=true
 fw:∀p∈x.ip,∀v∈p.f,Wk v
 ir:∀p∈x.ip,kg p.r=true->Wk p.r
 lm:0<=x.lm/\x.lm<=300
structure Rn (x:dR)(c:CS)(s:TS):Prop where
 sd:s.sd=false
 n1:1<=s.nx
 n2:s.nx<=x.ip.length
 fl:KV2 (x.a.fields.map Fe.kind) s.fs
 fw:∀v∈s.fs,Wk v
 ll:KV2 (c.lo.map Pa.kind) s.ls
 lw:∀v∈s.ls,Wk v
 es:s.es.length<=16
 r1:0<=s.rd
 r2:s.rd<=x.lm
 sg:s.sg.length+1=s.nx
 so:∀g∈s.sg,g.k=2/\g.er=0
 fb:s.fb=false
 eb:s.eb=false
structure Gd (x:dR)(sg:List qr):Prop where
 l1:1<=sg.length
 l2:sg.length<=x.ip.length
 ok:∀i g,sg[i]?=some g->(i+1<sg.length->g.k=2)/\(g.k=3->(∃p,x.ip[i]?=some p/\g.fs=p.f)/\g.ef=[]/\g.er≠0)/\(g.k≠3->g.er=0)
structure Sp (x:dR)(s:TS):Prop where
 sd:s.sd=true
 gd:Gd x s.sg
variable {x:dR}
def D1 {l:List qr}{g:qr}(hl:l.length+1<=x.ip.length)(so:∀g∈l,g.k=2/\g.er=0)(hg:(g.k=3->(∃p,x.ip[l.length]?=some p/\g.fs=p.f)/\g.ef=[]/\g.er≠0)/\(g.k≠3->g.er=0)):Gd x (l++[g]):=by
 refine⟨by simp,by simpa using hl,fun i h hi=>?_⟩
 rcases mα i l.length with h1|h1
 ·rw[lι h1]at hi;obtain⟨a,b⟩:=so h (lξ hi);exact⟨fun _=>a,fun e=>by omega,fun _=>b⟩
 ·rw[lυ h1]at hi;have h2:i - l.length=0:=by
   rcases Nat.eq_zero_or_pos (i - l.length)with h2|h2
   ·exact h2
   ·rw[lπ (by simp only[List.length_singleton];omega)]at hi;cases hi
  rw[h2]at hi;obtain rfl:=Option.some.inj hi;obtain rfl:i=l.length:=by omega
  exact⟨fun h3=>by simp at h3,hg⟩
def Ny {c:CS}(hp:AC x c){s:TS}(h:Rn x c s){e:Int}(he:e≠0):∃s',pU x s e=some s'/\Sp x s':=by
 have hil:=hp.il;have h1:=h.n1;have h2:=h.n2;have h3:=h.sg;have hi:s.nx - 1<x.ip.length:=by omega
 refine⟨_,by unfold pU;rw[qJ ⟨h1,by unfold cr;omega,by omega⟩,lδ hi];rfl,rfl,?_⟩
 exact D1 (by omega) h.so ⟨fun _=>⟨⟨_,by rw[show s.sg.length=s.nx - 1 by omega,lδ hi],rfl⟩,rfl,he⟩,fun h=>absurd rfl h⟩
def KV2.get:∀{ks:LI} {l:List Va},KV2 ks l->∀{j:Nat} {k:Int},ks[j]?=some k->∃v,l[j]?=some v/\Lk k v
 |[],_,_,j,k,h=>by simp at h
 |k0::ks,v::l,h,0,k,hk=>by
  simp only[List.getElem?_cons_zero,lα]at hk;subst hk;exact⟨v,rfl,h.1⟩
 |k0::ks,v::l,h,j+1,k,hk=>by
  simp only[List.getElem?_cons_succ]at hk ⊢
  exact h.2.get hk
 |_::_,[],h,_,_,_=>h.elim
def KV2.set:∀{ks:LI} {l:List Va},KV2 ks l->∀{j:Nat} {k:Int} {w:Va},ks[j]?=some k->Lk k w->KV2 ks (l.set j w)
 |[],_,_,j,k,_,h,_=>by simp at h
 |k0::ks,v::l,h,0,k,w,hk,hw=>by
  simp only[List.getElem?_cons_zero,lα]at hk;subst hk;exact⟨hw,h.2⟩
 |k0::ks,v::l,h,j+1,k,w,hk,hw=>by
  simp only[List.getElem?_cons_succ]at hk;exact⟨h.1,h.2.set hk hw⟩
 |_::_,[],h,_,_,_,_,_=>h.elim
def w7 {β:Type}{f:α->β}{l:List α}{i:Int}{a:α}(h:dL l i=some a):∃j:Nat,i=j/\(l.map f)[j]?=some (f a):=by
 obtain⟨j,h1,h2⟩:=mY h;exact⟨j,h1,by rw[lσ,h2];rfl⟩
def Rs (x:dR)(c:CS)(s:TS)(k:Int->Prop)(v:Va)(s':TS):Prop:=(s'=s/\∀q,k q->Lk q v)\/Sp x s'
def Xw {x:dR}{c:CS}{ev:TS->Int->Option (Va×TS)}{s:TS}(hs:s.sd=false):∀(l:LI),(∀q∈l,∃v s',ev s q=some (v,s')/\Wk v/\Rs x c s (fun k=>cj c.ki q=some k) v s')->
  ∀acc,∃r s',lS ev s l acc=some (r,s')/\((s'=s/\∃t,r=acc++t/\t.length=l.length/\(∀v∈t,Wk v)/\∀ks,l.map (cj c.ki)=ks.map some->KV2 ks t)\/Sp x s')
 |[],_,acc=>⟨acc,s,rfl,.inl ⟨rfl,[],by simp,rfl,(fun v hv=>by cases hv),fun ks h=>by cases ks with|nil=>trivial|cons _ _=>cases h⟩⟩
 |q::l,h,acc=>by
  obtain⟨v,s1,e1,wv,g⟩:=h q lη;simp only[lS,e1];rcases g with⟨rfl,g⟩|g
  ·rw[hs,cond_false];obtain⟨r,s',e2,g2⟩:=Xw hs l (fun q' hq=>h q' (lρ _ hq)) (acc++[v]);refine⟨r,s',e2,?_⟩;rcases g2 with⟨rfl,t,h1,h2,h3,h4⟩|g2
   ·refine .inl ⟨rfl,v::t,by rw[h1];simp,by simp[h2],fun w hw=>?_,fun ks hks=>?_⟩
    ·rcases mδ.1 hw with rfl|hw
     ·exact wv
     ·exact h3 w hw
    ·cases ks with
     |nil=>cases hks
     |cons k ks=>
      simp only[List.map_cons,lτ]at hks;exact⟨g k hks.1,h4 ks hks.2⟩
   ·exact .inr g2
  ·rw[g.sd,cond_true];exact⟨[],s1,rfl,.inr g⟩
def f8 {x:No}{a b:Int}(h:eN x a b=true):a<=(x.kids.length:Int)/\(x.kids.length:Int)<=b:=by
 unfold eN at h;simpa[bW]using h
def pc {c:CS}(hp:AC x c){i:Nat}{n:No}(hn:x.ns[i]?=some n){f:Int->Bool}(h:dq x.ns n 0 f=true):∀q∈n.kids,∃(e:Nat) (y:No),q=e/\e<i/\x.ns[e]?=some y/\f y.op=true:=by
 intro q hq;have hi:i<x.ns.length:=Cj hn;obtain⟨e,rfl,he⟩:=(hp.ty i (Nat.zero_le _) hi n hn).kb q hq;unfold dq at h;rw[List.drop_zero,mζ]at h;have:=h _ hq;unfold iT at this;rw[cd,lδ (by omega)]at this;exact⟨e,x.ns[e],rfl,he,lδ (by omega),this⟩
def aao {c:CS}(hp:AC x c){s:TS}(h:Rn x c s){v:Va}{e:Int}(hv:Wk v)(k:Int->Prop)(hk:e=0->∀q,k q->Lk q v):∃w s',RP x s v e=some (w,s')/\Wk w/\Rs x c s k w s':=by
 unfold RP;by_cases he:e=0
 ·subst he;exact⟨v,s,rfl,hv,.inl ⟨rfl,hk rfl⟩⟩
 ·obtain⟨s',h1,h2⟩:=Ny hp h he;rw[bE,mε he,cond_false,h1];exact⟨v0,s',rfl,kf,.inr h2⟩
def WT {o:Int}(h:fi o=true):o=1\/o=2\/o=3\/o=4\/o=5\/o=6:=by
 unfold fi at h;rw[lγ,bW,bW,lε,lε]at h;omega
def V6 {n:No}(ho:n.op=1)(h:pQ n=true)(hn:ji n.v.n):Wk n.v/\¬(n.v.k=4\/n.v.k=5):=by
 unfold pQ V7 at h;rw[ho]at h;have h:(bif be n.name []then(bif kg n.v then(bif az n.v.k 1 then bif bw 0 n.v.n then true else bif az n.v.k 2 then true else az n.v.k 3 else bif az n.v.k 2 then true else az n.v.k 3)else false)else false)=true:=h;have hv:kg n.v=true:=by
  cases hv:kg n.v with
  |true=>rfl
  |false=>rw[hv]at h;cases hq:be n.name []<;>rw[hq]at h<;>simp at h
 have hk:n.v.k=1\/n.v.k=2\/n.v.k=3:=by
  rw[hv,bE,bE,bE]at h;by_cases h1:n.v.k=1
  ·exact .inl h1
  by_cases h2:n.v.k=2
  ·exact .inr (.inl h2)
  by_cases h3:n.v.k=3
  ·exact .inr (.inr h3)
  ·rw[mε h1,mε h2,mε h3]at h;cases hq:be n.name []<;>rw[hq]at h<;>simp at h
 have hI:n.v.I=[]:=by
  unfold kg HJ cT at hv;simp only[lγ,Bool.not_eq_true',qβ,dJ,bE,lμ,Bool.and_eq_false_iff,Bool.not_eq_false',lε]at hv;obtain⟨_,_,⟨_,a2,_⟩,_⟩:=hv;exact lθ (by rcases a2 with a2|a2<;>omega)
 exact⟨F1 hv hn (fun x hx=>by rw[hI]at hx;cases hx),by omega⟩
def abf {c:CS}(hp:AC x c){s:TS}(h:Rn x c s){i:Nat}{vr:Vr}(hv:cj c.va (i:Int)=some vr):∃v,À x s (i:Int)=some v/\Wk v/\Lk vr.kind v:=by
 unfold À;have he:rP x (i:Int)=some vr:=by unfold rP Tf;rw[hp.body];exact hv
 rw[qJ h.fb,he];simp only;rcases hp.sl _ _ hv with⟨hf,f,h1,h2⟩|⟨hf,f,h1,h2⟩
 ·obtain⟨j,e1,e2⟩:=w7 (f:=Fe.kind) h1;obtain⟨v,g1,g2⟩:=h.fl.get e2;rw[hf,cond_true,e1,cd,g1];exact⟨v,rfl,h.fw v (lξ g1),by rw[<-h2];exact g2⟩
 ·obtain⟨j,e1,e2⟩:=w7 (f:=Pa.kind) h1;obtain⟨v,g1,g2⟩:=h.ll.get e2;rw[hf,cond_false,e1,cd,g1];exact⟨v,rfl,h.lw v (lξ g1),by rw[<-h2];exact g2⟩
def aaH {x:dR}{c:CS}(hp:AC x c):∀(f:Nat) (s:TS) (i:Nat) (n:No),Rn x c s->x.ns[i]?=some n->fi n.op=true->i<f->∃v s',tV x f s (i:Int)=some (v,s')/\Wk v/\Rs x c s (fun k=>cj c.ki (i:Int)=some k) v s'
 |0,_,_,_,_,_,_,h=>by omega
 |f+1,s,i,n,hs,hn,ho,hf=>by
  have hi:i<x.ns.length:=Cj hn;have hty:=hp.ty i (Nat.zero_le _) hi n hn;obtain⟨hkv,hcv⟩:=hp.kv n (lξ hn);have hcn:=hp.cn n (lξ hn);suffices h:∃v s',Tv x (tV x f) s (At n i)=some (v,s')/\Wk v/\Rs x c s (fun k=>cj c.ki (i:Int)=some k) v s' by
   obtain⟨v,s',h1,h2,h3⟩:=h;refine⟨v,s',?_,h2,h3⟩;simp only[tV,cd,hn,h1];exact qJ h2 _
  have kid:∀q∈n.kids,(∃(e:Nat) (y:No),q=e/\e<i/\x.ns[e]?=some y/\fi y.op=true)->∃v s',tV x f s q=some (v,s')/\Wk v/\Rs x c s (fun k=>cj c.ki q=some k) v s':=by
   intro q hq ⟨e,y,h1,h2,h3,h4⟩;subst h1;exact aaH hp f s e y hs h3 h4 (by omega)
  -- an operation on the kids' values
  have oper:∀(M:Nat) (lo hi:Int),eN n lo hi=true->dq x.ns n 0 fi=true->hi<=16->(∀l:List Va,l.length=n.kids.length->(∀v∈l,Wk v)->(∀ks,n.kids.map (cj c.ki)=ks.map some->KV2 ks l)->∃v e,eOp M n.name l=some (v,e)/\Wk v/\(e=0->∀k,cj c.ki (i:Int)=some k->Lk k v))->∃v s',Tv x (tV x f) s (.o M n n)=some (v,s')/\Wk v/\Rs x c s (fun k=>cj c.ki (i:Int)=some k) v s':=by
   intro M lo hi hc ha hh hop;have hka:=pc hp hn ha;obtain⟨r,s1,e1,g⟩:=Xw hs.sd n.kids (fun q hq=>kid q hq (hka q hq)) [];simp only[Tv,e1];rcases g with⟨rfl,t,h1,h2,h3,h4⟩|g
   ·rw[List.nil_append]at h1;subst h1;obtain⟨v,e,o1,o2,o3⟩:=hop r h2 h3 h4;have hcl:=f8 hc;rw[hs.sd,cond_false,qJ (show r.length<=100 by omega),o1];exact aao hp hs o2 _ o3
   ·rw[g.sd,cond_true];exact⟨v0,s1,rfl,kf,.inr g⟩
  rcases WT ho with h|h|h|h|h|h
  ·have hc:At n i= .c n:=by unfold At;rw[h];rfl
   rw[hc];obtain⟨w,hk⟩:=V6 h hcv hcn;refine⟨n.v,s,rfl,w,.inl ⟨rfl,fun q hq=>?_⟩⟩
   rw[hty.k1 h]at hq;obtain rfl:=Option.some.inj hq;exact pX hk
  ·have hc:At n i= .v i:=by unfold At;rw[h];rfl
   rw[hc];obtain⟨vr,h1,h2⟩:=hty.k2 h;obtain⟨v,e1,e2,e3⟩:=abf hp hs h1;simp only[Tv,e1];refine⟨v,s,rfl,e2,.inl ⟨rfl,fun q hq=>?_⟩⟩
   rw[h2]at hq;obtain rfl:=Option.some.inj hq;exact e3
  ·have hc:At n i= .s:=by unfold At;rw[h];rfl
   rw[hc];refine⟨_,s,rfl,P0 hp.ky,.inl ⟨rfl,fun q hq=>?_⟩⟩
   rw[hty.k3 h]at hq;obtain rfl:=Option.some.inj hq;exact pX (by decide)
  ·have hc:At n i= .o 112 n n:=by unfold At;rw[h];rfl
   have hv:(eN n 1 1&&dq x.ns n 0 fi)=true:=by unfold eu at hkv;rw[h]at hkv;exact hkv
   rw[lγ]at hv;rw[hc];refine oper 112 1 1 hv.1 hv.2 (by decide) fun l hl hw _=>?_
   have:=f8 hv.1;match l,hl,hw with
   |a::t,_,_=>
    refine⟨(S_ n.name a).1,(S_ n.name a).2,rfl,abh _ _,fun _ k hk=>?_⟩
    obtain⟨k',g1,g2,g3⟩:=hty.k4 (.inl h);rw[g1]at hk;obtain rfl:=Option.some.inj hk;exact pX (by omega)
   |[],hl,_=>simp only[List.length_nil]at hl;omega
  ·have hv:(eN n 2 2&&dq x.ns n 0 fi)=true:=by unfold eu at hkv;rw[h]at hkv;exact hkv
   rw[lγ]at hv;have hk4:∀k,cj c.ki (i:Int)=some k->¬(k=4\/k=5):=fun k hk=>by
    obtain⟨k',g1,g2,g3⟩:=hty.k4 (.inr h);rw[g1]at hk;obtain rfl:=Option.some.inj hk;omega
   have hcl:=f8 hv.1;have logic:∀d:Int,∃v s',Tv x (tV x f) s (.l n d)=some (v,s')/\Wk v/\Rs x c s (fun k=>cj c.ki (i:Int)=some k) v s':=by
    intro d;have hka:=pc hp hn hv.2;match hk:n.kids with
    |[]=>rw[hk]at hcl;simp only[List.length_nil]at hcl;omega
    |[a]=>rw[hk]at hcl;simp only[List.length_cons,List.length_nil]at hcl;omega
    |a::b::r=>
     obtain⟨v,s1,e1,wv,g⟩:=kid a (by rw[hk];exact lη) (hka a (by rw[hk];exact lη));simp only[Tv,hk,e1];rcases g with⟨rfl,g⟩|g
     ·rw[hs.sd,Bool.false_or];cases az v.n d
      ·rw[cond_false];obtain⟨w,s2,e2,ww,g2⟩:=kid b (by rw[hk];exact lρ _ lη) (hka b (by rw[hk];exact lρ _ lη));refine⟨w,s2,e2,ww,?_⟩;rcases g2 with⟨rfl,_⟩|g2
       ·exact .inl ⟨rfl,fun q hq=>pX (hk4 q hq)⟩
       ·exact .inr g2
      ·exact⟨v,_,rfl,wv,.inl ⟨rfl,fun q hq=>pX (hk4 q hq)⟩⟩
     ·rw[g.sd,Bool.true_or,cond_true];exact⟨v,s1,rfl,wv,.inr g⟩
   have hc:At n i=(bif be n.name [38,38]then .l n 0 else bif be n.name [124,124]then .l n 1 else .o 115 n n):=by unfold At;rw[h];rfl
   rw[hc];cases be n.name [38,38]
   ·cases be n.name [124,124]
    ·refine oper 115 2 2 hv.1 hv.2 (by decide) fun l hl hw _=>?_
     match l,hl,hw with
     |a::b::t,_,hw=>exact⟨(Ż n.name a b).1,(Ż n.name a b).2,rfl,abg _ (hw a lη) (hw b (lρ _ lη)),fun _ k hk=>pX (hk4 k hk)⟩
     |[],hl,_=>simp only[List.length_nil]at hl;omega
     |[a],hl,_=>simp only[List.length_cons,List.length_nil]at hl;omega
    ·exact logic 1
   ·exact logic 0
  ·have hc:At n i= .o 117 n n:=by unfold At;rw[h];rfl
   have hv:(eN n 0 16&&dq x.ns n 0 fi)=true:=by unfold eu at hkv;rw[h]at hkv;exact hkv
   rw[lγ]at hv;rw[hc];have hcl:=f8 hv.1;refine oper 117 0 16 hv.1 hv.2 (by decide) fun l hl hw hkk=>?_
   obtain⟨ks,k,g1,g2,g3⟩:=hty.k6 h;obtain⟨⟨v,e⟩,o1,o2,o3⟩:=aam g3 (hkk ks g1) hw (by omega);refine⟨v,e,o1,o2,fun he q hq=>?_⟩
   rw[g2]at hq;obtain rfl:=Option.some.inj hq;exact o3 he
def mu (x:dR)(s:TS):Nat:=(x.ip.length - s.nx)*301+s.rd.toNat
def Ok2 (x:dR)(c:CS)(s s':TS):Prop:=(Rn x c s'/\mu x s'<=mu x s)\/Sp x s'
def L7:∀(l:List Va) (ks:LI),fR l ks=true->KV2 ks l
 |[],[],_=>trivial
 |v::l,k::ks,h=>by
  simp only[fR,qF,lγ,bE,lε]at h;exact⟨fun hk=>by rw[h.1.1];omega,L7 l ks h.2⟩
 |[],_::_,h=>by cases h
 |_::_,[],h=>by cases h
def DS {c:CS}(hp:AC x c){s:TS}(hs:Rn x c s){e:Nat}{y:No}(h1:x.ns[e]?=some y)(h2:fi y.op=true):∃v s',tV x (eF x) s (e:Int)=some (v,s')/\Wk v/\Rs x c s (fun k=>cj c.ki (e:Int)=some k) v s':=
 aaH hp (eF x) s e y hs h1 h2 (by unfold eF;have:=Cj h1;omega)
def Xv {c:CS}(hp:AC x c){s:TS}(hs:Rn x c s){i:Nat}{n:No}(hn:x.ns[i]?=some n)(ha:dq x.ns n 0 fi=true):∃r s',lS (tV x (eF x)) s n.kids []=some (r,s')/\((s'=s/\r.length=n.kids.length/\(∀v∈r,Wk v))\/Sp x s'):=by
 obtain⟨r,s',e1,g⟩:=Xw (x:=x) (c:=c) (ev:=tV x (eF x)) hs.sd n.kids (fun q hq=>by
  obtain⟨e,y,rfl,h2,h3,h4⟩:=pc hp hn ha q hq;exact DS hp hs h3 h4) []
 refine⟨r,s',e1,?_⟩;rcases g with⟨g0,t,h1,h2,h3,_⟩|g
 ·rw[List.nil_append]at h1;subst h1;exact .inl ⟨g0,h2,h3⟩
 ·exact .inr g
def Nx {c:CS}(hp:AC x c){s0 s:TS}(h:Rn x c s){e:Int}(he:e≠0):∃s',pU x s e=some s'/\Ok2 x c s0 s':=by
 obtain⟨s',h1,h2⟩:=Ny hp h he;exact⟨s',h1,.inr h2⟩
def V0 {c:CS}(hp:AC x c){s:TS}(hs:Rn x c s){i:Nat}{n:No}(hn:x.ns[i]?=some n)(h7:n.op=7):∃v s',yN x s (i:Int)=some (v,s')/\Wk v/\((Rn x c s'/\mu x s'<=mu x s/\∀k,cj c.ki (i:Int)=some k->Lk k v)\/Sp x s'):=by
 obtain⟨hkv,_⟩:=hp.kv n (lξ hn);have hv:(eN n 1 17&&dq x.ns n 0 fi)=true:=by unfold eu at hkv;rw[h7]at hkv;exact hkv
 rw[lγ]at hv;have hcl:=f8 hv.1;obtain⟨r,s1,e1,g⟩:=Xv hp hs hn hv.2;unfold yN;rw[cd,hn];simp only[e1];rcases g with⟨rfl,hl,hw⟩|g
 ·rw[hs.sd,cond_false];match r,hl,hw with
  |[],hl,_=>simp only[List.length_nil]at hl;omega
  |a::r,hl,hw=>
   simp only;have h1:=hs.n1;have h2:=hs.n2;have h3:=hs.sg;have hil:=hp.il;simp only[List.length_cons]at hl;cases ha:aP 32 (a.s.length:Int)
   ·rw[cond_false,qJ ⟨hs.fb,hs.eb,by omega,by omega⟩];have so2:∀g∈s1.sg++[(⟨2,v0,n.name,a.s,n.v.s,r,0,s1.fs,s1.es⟩:qr)],g.k=2/\g.er=0:=fun g hg=>by
     rcases mσ.1 hg with hg|hg
     ·exact hs.so g hg
     ·rw[List.mem_singleton.1 hg];exact⟨rfl,rfl⟩
    have gd2:Gd x (s1.sg++[(⟨2,v0,n.name,a.s,n.v.s,r,0,s1.fs,s1.es⟩:qr)]):=D1 (by omega) hs.so ⟨fun h=>absurd h (show ¬((2:Int)=3) by decide),fun _=>rfl⟩
    cases hq:az (s1.nx:Int) (x.ip.length:Int)
    ·rw[bE,lμ]at hq;rw[cond_false];have hlt:s1.nx<x.ip.length:=by omega
     have hmem:x.ip[s1.nx]∈x.ip:=lν _;rw[lδ hlt];simp only;cases hf:fR [x.ip[s1.nx].r] [rO x (i:Int)]
     ·exact⟨v0,_,rfl,kf,.inr ⟨rfl,gd2⟩⟩
     ·have hfit:=hf;simp only[fR,qF,lγ,bE,lε]at hfit;have hbg:s1.nx<cr:=by unfold cr;omega
      refine⟨x.ip[s1.nx].r,{s1 with nx:=s1.nx+1,fs:=x.ip[s1.nx].f,es:=[],rd:=x.lm,fb:=false,eb:=false,sd:=false,sg:=s1.sg++[⟨2,v0,n.name,a.s,n.v.s,r,0,s1.fs,s1.es⟩]},?_,hp.ir _ hmem hfit.1.2,.inl ⟨?_,?_,fun k hk=>?_⟩⟩
      ·rw[cond_true];unfold H3;show Option.map _ (gd (s1.nx<cr) ((x.ip[s1.nx]?).map _))=_;rw[qJ hbg,lδ hlt];rfl
      ·exact⟨rfl,by simp,by simp;omega,L7 _ _ (hp.ff _ hmem),hp.fw _ hmem,hs.ll,hs.lw,by simp,hp.lm.1,Int.le_refl _,by simp;omega,so2,rfl,rfl⟩
      ·unfold mu;have hlm:=hp.lm;simp only;have:(x.ip.length - s1.nx)=(x.ip.length - (s1.nx+1))+1:=by omega
       rw[this,mμ];omega
      ·intro h;have:rO x (i:Int)=k:=by unfold rO ï;rw[hp.body];simp only[hk,Option.getD_some]
       rw[hfit.1.1,this];omega
    ·exact⟨v0,_,rfl,kf,.inr ⟨rfl,gd2⟩⟩
   ·rw[cond_true];obtain⟨s',t1,t2⟩:=Ny hp hs (show(5:Int)≠0 by decide);rw[t1];exact⟨v0,s',rfl,kf,.inr t2⟩
 ·rw[g.sd,cond_true];exact⟨v0,s1,rfl,kf,.inr g⟩
def abd {c:CS}(hp:AC x c){s:TS}(hs:Rn x c s){i:Nat}{n:No}(hn:x.ns[i]?=some n)(ho:uK n.op=true):∃v s',H5 x s (i:Int)=some (v,s')/\Wk v/\((Rn x c s'/\mu x s'<=mu x s/\∀k,cj c.ki (i:Int)=some k->Lk k v)\/Sp x s'):=by
 unfold H5;rw[cd,hn];simp only;by_cases h7:n.op=7
 ·rw[h7];exact V0 hp hs hn h7
 ·rw[bE,mε h7,cond_false];have he:fi n.op=true:=by
   unfold uK up at ho;rw[bE,mε h7,Bool.or_false]at ho;exact ho
  obtain⟨v,s',h1,h2,h3⟩:=DS hp hs hn he;refine⟨v,s',h1,h2,?_⟩;rcases h3 with⟨rfl,h3⟩|h3
  ·exact .inl ⟨hs,Nat.le_refl _,h3⟩
  ·exact .inr h3
def aa0 {c:CS}(hp:AC x c){s:TS}(h:Rn x c s){i:Nat}{vr:Vr}(hv:cj c.va (i:Int)=some vr){w:Va}(hw:Wk w)(hk:Lk vr.kind w):∃s',RR x s (i:Int) w=some s'/\Rn x c s'/\mu x s'=mu x s:=by
 unfold RR;have he:rP x (i:Int)=some vr:=by unfold rP Tf;rw[hp.body];exact hv
 rw[qJ h.fb,he];simp only;rcases hp.sl _ _ hv with⟨hf,f,h1,h2⟩|⟨hf,f,h1,h2⟩
 ·obtain⟨j,e1,e2⟩:=w7 (f:=Fe.kind) h1;obtain⟨v,g1,g2⟩:=h.fl.get e2;rw[hf,cond_true,e1,cd,g1];refine⟨_,rfl,⟨h.sd,h.n1,h.n2,?_,m9 h.fw hw,h.ll,h.lw,h.es,h.r1,h.r2,h.sg,h.so,h.fb,h.eb⟩,rfl⟩;rw[Int.toNat_natCast];exact h.fl.set e2 (by rw[h2];exact hk)
 ·obtain⟨j,e1,e2⟩:=w7 (f:=Pa.kind) h1;obtain⟨v,g1,g2⟩:=h.ll.get e2;rw[hf,cond_false,e1,cd,g1];refine⟨_,rfl,⟨h.sd,h.n1,h.n2,h.fl,h.fw,?_,m9 h.lw hw,h.es,h.r1,h.r2,h.sg,h.so,h.fb,h.eb⟩,rfl⟩;rw[Int.toNat_natCast];exact h.ll.set e2 (by rw[h2];exact hk)
def ĺ {c:CS}(hp:AC x c){s:TS}(h:Rn x c s){v:Va}(hv:Wk v):∃s',RQ s v=some s'/\Sp x s':=by
 have h1:=h.n1;have h2:=h.n2;have h3:=h.sg;have hil:=hp.il;refine⟨_,by unfold RQ;rw[qJ ⟨h.fb,h.eb,by omega,hv⟩],rfl,?_⟩
 exact D1 (by omega) h.so ⟨fun h=>absurd h (show(1:Int)≠3 by decide),fun _=>rfl⟩
variable {q:Int}
def Rk {l:List Va}{c:Nat}(h:(q=1/\2<=l.length)\/(q=2/\3<=l.length)\/(q=3/\1<=l.length)):∃e er,Rj q l c=some (e,er)/\(er=0->c<16):=by
 unfold Rj;have z:∀(c:Nat) (e:Ef),∃e' er,some (e,(5:Int))=some (e',er)/\(er=0->c<16):=fun c e=>⟨e,5,rfl,fun h=>by cases h⟩
 match l,h with
 |[],h=>simp at h
 |a::r,h=>
  simp only;cases h16:bw 16 (c:Int);rotate_left
  ·exact z c F8
  rw[bW,lμ]at h16;have w:∀e:Ef,∃e' er,some (e,(0:Int))=some (e',er)/\(er=0->c<16):=fun e=>⟨e,0,rfl,fun _=>by omega⟩
  cases be a.s [];rotate_left
  ·exact z c F8
  cases aP 32 (a.s.length:Int);rotate_left
  ·exact z c F8
  rcases h with⟨rfl,h⟩|⟨rfl,h⟩|⟨rfl,h⟩
  ·cases r with
   |nil=>simp at h
   |cons b r=>exact w _
  ·cases r with
   |nil=>simp at h
   |cons b r=>
    cases r with
    |nil=>simp at h
    |cons d r=>
     show ∃e er,(bif aP b.n 1 then some (F8,(5:Int))else bif aP 1073741824 b.n then some (F8,5)else bif aP d.n 1 then some (F8,5)else bif aP 1073741824 d.n then some (F8,5)else some (⟨2,a.s,b.n,d.n⟩,0))=some (e,er)/\_;cases aP b.n 1;rotate_left
     ·exact z c F8
     cases aP 1073741824 b.n;rotate_left
     ·exact z c F8
     cases aP d.n 1;rotate_left
     ·exact z c F8
     cases aP 1073741824 d.n;rotate_left
     ·exact z c F8
     exact w _
  ·exact w _
def Vq {c:CS}(hp:AC x c){s:TS}(hs:Rn x c s){i:Nat}{n:No}(hn:x.ns[i]?=some n)(ha:dq x.ns n 0 fi=true)(hq:(q=1/\2<=n.kids.length)\/(q=2/\3<=n.kids.length)\/(q=3/\1<=n.kids.length)):∃s',LX x s n q=some s'/\Ok2 x c s s':=by
 obtain⟨r,s1,e1,g⟩:=Xv hp hs hn ha;unfold LX;simp only[e1];rcases g with⟨rfl,hl,hw⟩|g
 ·have hes:=hs.es;rw[hs.sd,cond_false,qJ (show s1.es.length<1000 by omega)];obtain⟨e,er,h1,h2⟩:=Rk (q:=q) (l:=r) (c:=s1.es.length) (by rw[hl];exact hq);rw[h1];simp only;by_cases he:er=0
  ·subst he;have h3:=h2 rfl;rw[show az 0 0=true from rfl,cond_true,qJ hs.eb];exact⟨_,rfl,.inl ⟨⟨rfl,hs.n1,hs.n2,hs.fl,hs.fw,hs.ll,hs.lw,by simp only[mγ,List.length_singleton];omega,hs.r1,hs.r2,hs.sg,hs.so,hs.fb,hs.eb⟩,Nat.le_refl _⟩⟩
  ·rw[bE,mε he,cond_false];exact Nx hp hs he
 ·rw[g.sd,cond_true];exact⟨s1,rfl,.inr g⟩
def Ok2.trans {c:CS}{a b d:TS}(h:Rn x c b/\mu x b<=mu x a)(g:Ok2 x c b d):Ok2 x c a d:=by
 rcases g with g|g
 ·exact .inl ⟨g.1,mψ g.2 h.2⟩
 ·exact .inr g
def aba {f:Nat}{s:TS}{i:Int}(hf:1<=f)(h:s.sd=true):Ks x f s i=some s:=by
 obtain⟨f,rfl⟩:∃k,f=k+1:=⟨f - 1,by omega⟩
 simp only[Ks,h,cond_true]
def D9 {c:CS}(hp:AC x c){i:Nat}{n:No}(hn:x.ns[i]?=some n)(hq:q∈n.kids):∃(e:Nat) (y:No),q=e/\e<i/\x.ns[e]?=some y/\iT x.ns q=y.op:=by
 have hi:i<x.ns.length:=Cj hn;obtain⟨e,rfl,he⟩:=(hp.ty i (Nat.zero_le _) hi n hn).kb q hq;exact⟨e,x.ns[e],rfl,he,lδ (by omega),by unfold iT;rw[cd,lδ (by omega)];rfl⟩
def Ou {o:Int}(h:Dt o=true):o=18:=by unfold Dt at h;rw[bE,lε]at h;exact h
def ē {o:Int}(h:Bd o=true):8<=o/\o<=18:=by
 unfold Bd at h;rw[lγ,bW,bW,lε,lε]at h;omega
def StT (x:dR)(c:CS)(st:TS->Int->Option TS)(b:Nat):Prop:=∀s i n,Rn x c s->x.ns[i]?=some n->8<=n.op/\n.op<=18->i<b->∃s',st s (i:Int)=some s'/\Ok2 x c s s'
variable {st:TS->Int->Option TS}
def abq {c:CS}(hp:AC x c){i:Nat}{n:No}(hst:StT x c st i)(hn:x.ns[i]?=some n)(hk:Pd x.ns n 3=true){s:TS}(hs:Rn x c s):∃s',eBr x st s n=some s'/\Ok2 x c s s':=by
 unfold Pd at hk;simp only[lγ]at hk;obtain⟨h1,h2,h3⟩:=hk;have hcl:=f8 h1;have self:Ok2 x c s s:= .inl ⟨hs,Nat.le_refl _⟩;unfold eBr;match hkk:n.kids with
 |[]=>rw[hkk]at hcl;simp only[List.length_nil]at hcl;omega
 |a::r=>
  rw[hkk]at h2 hcl;obtain⟨e,y,rfl,he,hy,ho⟩:=D9 hp hn (q:=a) (by rw[hkk];exact lη);simp only[List.headD_cons]at h2;rw[ho]at h2;obtain⟨v,s1,g1,g2,g3⟩:=DS hp hs hy h2;simp only[g1];have VD:∀q∈r,∃s',st s q=some s'/\Ok2 x c s s':=fun q hq=>by
   obtain⟨e2,y2,rfl,he2,hy2,ho2⟩:=D9 hp hn (q:=q) (by rw[hkk];exact lρ _ hq);unfold dq at h3;rw[hkk,List.drop_succ_cons,List.drop_zero,mζ]at h3;have:=Ou (h3 _ hq);rw[ho2]at this;exact hst s e2 y2 hs hy2 (by omega) he2
  rcases g3 with⟨rfl,_⟩|g3
  ·rw[hs.sd,cond_false];cases az v.n 1
   ·rw[cond_false];match r,VD with
    |[_,d],VD=>exact VD d (lρ _ lη)
    |[],_=>exact⟨_,rfl,self⟩
    |[_],_=>exact⟨_,rfl,self⟩
    |_::_::_::_,_=>exact⟨_,rfl,self⟩
   ·rw[cond_true];match r,VD,hcl with
    |b::_,VD,_=>exact VD b lη
    |[],_,hcl=>simp only[List.length_cons,List.length_nil]at hcl;omega
  ·rw[g3.sd,cond_true];exact⟨s1,rfl,.inr g3⟩
def aaj {b:Bool}(h:b=false)(x y:α):(bif b then x else y)=y:=by subst h;rfl
def XB {n:No}{q:Nat}{s:TS}(h:s.sd=false):pT x st n (q+1) s=bif az s.rd 0 then pU x s 17 else match n.kids with
  |a::r=>gd (0<=s.rd/\s.rd<1000000)<|(match tV x (eF x) {s with rd:=s.rd - 1} a with
   |none=>none
   |some (v,s')=>bif s'.sd||az v.n 0 then some s' else match r with
    |b::_=>(match st s' b with
     |none=>none
     |some s''=>pT x st n q s'')
    |[]=>none)
  |[]=>none:=by
 simp only[pT];exact aaj h _ _
def XC {x:dR}{c:CS}(hp:AC x c){st:TS->Int->Option TS}{i:Nat}{n:No}(hst:StT x c st i)(hn:x.ns[i]?=some n)(hk:Pd x.ns n 2=true):∀(q:Nat) (s:TS),Rn x c s->mu x s+2<=q->∃s',pT x st n q s=some s'/\Ok2 x c s s'
 |0,_,_,h=>by omega
 |q+1,s,hs,hq=>by
  have hk':=hk;unfold Pd at hk';simp only[lγ]at hk';obtain⟨h1,h2,h3⟩:=hk';have hcl:=f8 h1;have hr1:=hs.r1;have hr2:=hs.r2;have hlm:=hp.lm;rw[XB hs.sd];by_cases hr:s.rd=0
  ·rw[hr];exact Nx hp hs (show(17:Int)≠0 by decide)
  rw[bE,mε hr,cond_false];match hkk:n.kids with
  |[]=>rw[hkk]at hcl;simp only[List.length_nil]at hcl;omega
  |[_]=>rw[hkk]at hcl;simp only[List.length_cons,List.length_nil]at hcl;omega
  |a::b::r=>
   rw[hkk]at h2 hcl;simp only;rw[qJ (show 0<=s.rd/\s.rd<1000000 by omega)];obtain⟨e,y,rfl,he,hy,ho⟩:=D9 hp hn (q:=a) (by rw[hkk];exact lη);simp only[List.headD_cons]at h2;rw[ho]at h2;have hs2:Rn x c {s with rd:=s.rd - 1}:=⟨hs.sd,hs.n1,hs.n2,hs.fl,hs.fw,hs.ll,hs.lw,hs.es,by simp only;omega,by simp only;omega,hs.sg,hs.so,hs.fb,hs.eb⟩
   have hmu:mu x {s with rd:=s.rd - 1}+1=mu x s:=by unfold mu;simp only;omega
   obtain⟨v,s1,g1,g2,g3⟩:=DS hp hs2 hy h2;rw[g1];simp only;rcases g3 with⟨rfl,_⟩|g3
   ·rw[show(({s with rd:=s.rd - 1}:TS).sd||az v.n 0)=az v.n 0 by rw[hs2.sd,Bool.false_or]];cases az v.n 0
    ·rw[cond_false];obtain⟨e2,y2,rfl,he2,hy2,ho2⟩:=D9 hp hn (q:=b) (by rw[hkk];exact lρ _ lη);unfold dq at h3;rw[hkk,List.drop_succ_cons,List.drop_zero,mζ]at h3;have hb:=Ou (h3 _ lη);rw[ho2]at hb;obtain⟨s2,k1,k2⟩:=hst _ e2 y2 hs2 hy2 (by omega) he2;rw[k1];simp only;rcases k2 with k2|k2
     ·obtain⟨s3,m1,m2⟩:=XC hp hst hn hk q s2 k2.1 (by omega);exact⟨s3,m1,m2.trans ⟨k2.1,by omega⟩⟩
     ·refine⟨s2,?_,.inr k2⟩;obtain⟨q,rfl⟩:∃k,q=k+1:=⟨q - 1,by omega⟩
      simp only[pT,k2.sd,cond_true]
    ·exact⟨_,rfl,.inl ⟨hs2,by omega⟩⟩
   ·rw[g3.sd,Bool.true_or,cond_true];exact⟨s1,rfl,.inr g3⟩
def Į {x:dR}{c:CS}{f i:Nat}(hst:StT x c (Ks x f) i):∀(l:LI) (s:TS),Rn x c s->(∀q∈l,∃(e:Nat) (y:No),q=e/\e<i/\e<f/\x.ns[e]?=some y/\8<=y.op/\y.op<=18)->∃s',AP (Ks x f) l s=some s'/\Ok2 x c s s'
 |[],s,hs,_=>⟨s,rfl,.inl ⟨hs,Nat.le_refl _⟩⟩
 |q::l,s,hs,h=>by
  obtain⟨e,y,rfl,h1,h2,h3,h4⟩:=h q lη;obtain⟨s1,e1,g1⟩:=hst s e y hs h3 h4 h1;simp only[AP,e1];rcases g1 with g1|g1
  ·obtain⟨s2,e2,g2⟩:=Į hst l s1 g1.1 (fun q hq=>h q (lρ _ hq));exact⟨s2,e2,g2.trans g1⟩
  ·refine⟨s1,?_,.inr g1⟩;have:∀l:LI,AP (Ks x f) l s1=some s1:=by
    intro l;induction l with
    |nil=>rfl
    |cons q l ih=>simp only[AP,aba (show 1<=f by omega) g1.sd,ih]
   exact this l
def ī {c:CS}(hp:AC x c){s:TS}(hs:Rn x c s){i:Nat}{n:No}(hn:x.ns[i]?=some n)(ho:n.op=8\/n.op=9):∃s',(match n.kids with
    |a::_=>(match H5 x s a with
     |none=>none
     |some (v,s')=>bif s'.sd then some s' else RR x s' (i:Int) v)
    |[]=>none)=some s'/\Ok2 x c s s':=by
 obtain⟨hkv,_⟩:=hp.kv n (lξ hn);have hv:(eN n 1 1&&dq x.ns n 0 uK)=true:=by rcases ho with ho|ho<;>(unfold eu at hkv;rw[ho]at hkv;exact hkv)
 rw[lγ]at hv;obtain⟨vr,q,r,h1,h2,h3⟩:=(hp.ty i (Nat.zero_le _) (Cj hn) n hn).k8 ho;rw[h2];simp only;obtain⟨e,y,rfl,he,hy,hl⟩:=pc hp hn hv.2 q (by rw[h2];exact lη);obtain⟨v,s1,g1,g2,g3⟩:=abd hp hs hy hl;rw[g1];simp only;rcases g3 with⟨g3,g4,g5⟩|g3
 ·rw[g3.sd,cond_false];obtain⟨s2,k1,k2,k3⟩:=aa0 hp g3 h1 g2 (g5 _ h3);exact⟨s2,k1,.inl ⟨k2,by omega⟩⟩
 ·rw[g3.sd,cond_true];exact⟨s1,rfl,.inr g3⟩
def abb {x:dR}{c:CS}(hp:AC x c)(hk:∀n∈x.ns,n.kids.length<1501):∀f:Nat,StT x c (Ks x f) f
 |0,_,_,_,_,_,_,h=>by omega
 |f+1,s,i,n,hs,hn,ho,hf=>by
  have ih:StT x c (Ks x f) i:=fun s j y h1 h2 h3 h4=>abb hp hk f s j y h1 h2 h3 (by omega)
  have hnm:=lξ hn;obtain⟨hkv,_⟩:=hp.kv n hnm;simp only[Ks,hs.sd,cond_false,cd,hn];have hop:n.op=8\/n.op=9\/n.op=10\/n.op=11\/n.op=12\/n.op=13\/n.op=14\/n.op=15\/n.op=16\/n.op=17\/n.op=18:=by omega
  rcases hop with h|h|h|h|h|h|h|h|h|h|h
  ·rw[h];exact ī hp hs hn (.inl h)
  ·rw[h];exact ī hp hs hn (.inr h)
  ·have hv:(eN n 1 1&&dq x.ns n 0 up)=true:=by unfold eu at hkv;rw[h]at hkv;exact hkv
   rw[lγ]at hv;have hcl:=f8 hv.1;rw[h];match hkk:n.kids with
   |[]=>rw[hkk]at hcl;simp only[List.length_nil]at hcl;omega
   |a::r=>
    obtain⟨e,y,rfl,he,hy,hl⟩:=pc hp hn hv.2 a (by rw[hkk];exact lη);have h7:y.op=7:=by unfold up at hl;rw[bE,lε]at hl;exact hl
    obtain⟨v,s1,g1,g2,g3⟩:=V0 hp hs hy h7;show ∃s',(yN x s (e:Int)).map (·.2)=some s'/\_;rw[g1];refine⟨s1,rfl,?_⟩;rcases g3 with⟨g3,g4,_⟩|g3
    ·exact .inl ⟨g3,g4⟩
    ·exact .inr g3
  ·have hv:Pd x.ns n 3=true:=by unfold eu at hkv;rw[h]at hkv;exact hkv
   rw[h];exact abq hp ih hn hv hs
  ·have hv:Pd x.ns n 2=true:=by unfold eu at hkv;rw[h]at hkv;exact hkv
   rw[h];refine XC hp ih hn hv eQ s hs ?_;have h1:=hp.il;have h2:=hs.r2;have h3:=hp.lm;have h4:=hs.n1;have h5:=hs.r1;unfold mu eQ;have:(x.ip.length - s.nx)*301<=12*301:=lω _ (by omega);omega
  ·have hv:(eN n 0 1&&dq x.ns n 0 fi)=true:=by unfold eu at hkv;rw[h]at hkv;exact hkv
   rw[lγ]at hv;have hcl:=f8 hv.1;obtain⟨r,s1,e1,g⟩:=Xv hp hs hn hv.2;rw[h];show ∃s',(match lS (tV x (eF x)) s n.kids []with
    |none=>none
    |some (l,s1)=>bif s1.sd then some s1 else gd (l.length<1000) (RQ s1 (l.headD v0)))=some s'/\_
   simp only[e1];rcases g with⟨rfl,hl,hw⟩|g
   ·have hwv:Wk (r.headD v0):=by
     cases r with
     |nil=>exact kf
     |cons a t=>exact hw a lη
    obtain⟨s2,k1,k2⟩:=ĺ hp hs hwv;rw[hs.sd,cond_false,qJ (show r.length<1000 by omega)];exact⟨s2,k1,.inr k2⟩
   ·rw[g.sd,cond_true];exact⟨s1,rfl,.inr g⟩
  ·rw[h];exact Nx hp hs (show(26:Int)≠0 by decide)
  ·have hv:(eN n 2 2&&dq x.ns n 0 fi)=true:=by unfold eu at hkv;rw[h]at hkv;exact hkv
   rw[lγ]at hv;have hcl:=f8 hv.1;rw[h];exact Vq hp hs hn hv.2 (.inl ⟨rfl,by omega⟩)
  ·have hv:(eN n 3 3&&dq x.ns n 0 fi)=true:=by unfold eu at hkv;rw[h]at hkv;exact hkv
   rw[lγ]at hv;have hcl:=f8 hv.1;rw[h];exact Vq hp hs hn hv.2 (.inr (.inl ⟨rfl,by omega⟩))
  ·have hv:(eN n 1 1&&dq x.ns n 0 fi)=true:=by unfold eu at hkv;rw[h]at hkv;exact hkv
   rw[lγ]at hv;have hcl:=f8 hv.1;rw[h];exact Vq hp hs hn hv.2 (.inr (.inr ⟨rfl,by omega⟩))
  ·have hv:dq x.ns n 0 Bd=true:=by unfold eu at hkv;rw[h]at hkv;exact hkv
   rw[h];show ∃s',gd (n.kids.length<1501) (AP (Ks x f) n.kids s)=some s'/\_;rw[qJ (hk n hnm)];refine Į ih n.kids s hs fun q hq=>?_
   obtain⟨e,y,h1,h2,h3,h4⟩:=pc hp hn hv q hq;exact⟨e,y,h1,h2,by omega,h3,ē h4⟩
def XI {f:Nat}{p:List Ac}{fs:List (LN×Vr)}{i:Nat}{all:List Me}:∀(r:List Me) (j:Nat) (acc:List CS) (a b d e:Int),nC f p fs i all r j acc=some (.inl (.bad a b d e))->e≠0
 |[],_,_,_,_,_,_,h=>by simp[nC]at h
 |m::r,j,acc,a,b,d,e,h=>by
  simp only[nC]at h;split at h
  ·simp only[lα,Sum.inl.injEq,An.bad.injEq]at h;omega
  ·split at h
   ·cases h
   ·simp only[lα,Sum.inl.injEq,An.bad.injEq]at h;omega
   ·split at h
    ·exact XI r (j+1) _ a b d e h
    ·rename_i hz;simp only[lα,Sum.inl.injEq,An.bad.injEq]at h;rw[<-h.2.2.2];exact hz
def Yq {f:Nat}{p:List Ac}:∀(r:List Ac) (j:Nat) (acc:List (List CS)) (a b d e:Int),ni f p r j acc=some (.bad a b d e)->e≠0
 |[],_,_,_,_,_,_,h=>by simp[ni]at h
 |m::r,j,acc,a,b,d,e,h=>by
  simp only[ni]at h;split at h
  ·simp only[lα,An.bad.injEq]at h;omega
  ·split at h
   ·simp only[lα,An.bad.injEq]at h;omega
   ·split at h
    ·cases h
    ·rename_i e1 hm;simp only[lα]at h;subst h;exact XI _ _ _ _ _ _ _ hm
    ·exact Yq r (j+1) _ a b d e h
def aag {p:List Ac}{a b d e:Int}(h:Oo p= .bad a b d e):e≠0:=by
 unfold Oo at h;cases hv:je p with
 |false=>rw[hv]at h;simp only[cond_false,An.bad.injEq]at h;omega
 |true=>
  rw[hv,cond_true]at h;cases ht:ni 1501 p p 0 []with
  |none=>rw[ht]at h;simp only[Option.getD_none,An.bad.injEq]at h;omega
  |some o=>rw[ht,Option.getD_some]at h;subst h;exact Yq _ _ _ _ _ _ _ ht
def X0:∀(l:List Pa) (c c':CS),mc c l=some (some c')->c'.lo=c.lo++l
 |[],c,c',h=>by
  simp only[mc,lα]at h;rw[<-h,mξ]
 |p::l,c,c',h=>by
  simp only[mc]at h;split at h
  ·cases h
  ·split at h
   ·cases h
   ·rename_i c1 hd;have:=X0 l c1 c' h;unfold jU at hd;split at hd
    ·simp only[lα]at hd;rw[this,<-hd];simp
    ·cases hd
def RH {f:Nat}{pr:List Ac}{m:Me}{c:CS}(h:eX f pr fs m=some (some c))(h0:c.er=0)(hb:lu m.nodes):Qr m.params c.lo:=by
 unfold eX at h;cases hp:mc (CS.init pr fs m) m.params with
 |none=>rw[hp]at h;cases h
 |some o=>
  cases o with
  |none=>rw[hp]at h;cases h
  |some c1=>
   rw[hp]at h;simp only at h;obtain⟨k,hs,hk⟩:=hb.tree;have he:((m.nodes.length:Int) - 1)=(k:Int):=by omega
   rw[he]at h;cases hv:eE f c1 (k:Int) false with
   |none=>rw[hv]at h;cases h
   |some r=>
    obtain⟨y,c2⟩:=r;rw[hv]at h;simp only[lα]at h;subst h;have hst:=j5 _ _ hp;have h1:nS m.nodes c1 0:=Fh _ _ _ hp ⟨fun s v hv=>by simp[CS.init,fS]at hv,fun i v hv=>by simp[CS.init,cj]at hv⟩
    obtain⟨_,a2,_⟩:=xD hb.lets f 0 k hs c1 false y c2 hst.ns hv h0 h1;have:=X0 _ _ _ hp;simp[CS.init]at this;rw[<-this];exact a2.lo
def Ň:∀lo:List Pa,KV2 (lo.map Pa.kind) (List.replicate lo.length v0)
 |[]=>trivial
 |_::lo=>⟨fun _=>show(0:Int)≠3 by decide,Ň lo⟩
def Pi:∀(ps lo:List Pa) (args:List Va),fR args (ps.map Pa.kind)=true->Qr ps lo->args.length<=lo.length/\KV2 (lo.map Pa.kind) (args++List.replicate (lo.length - args.length) v0)
 |[],lo,[],_,_=>⟨Nat.zero_le _,Ň lo⟩
 |[],_,_::_,h,_=>by cases h
 |_::_,_,[],h,_=>by cases h
 |p::ps,lo,v::args,h,g=>by
  have h0:=g 0 p rfl;match lo,h0,g with
  |q::lo,h0,g=>
   simp only[List.getElem?_cons_zero,lα]at h0;subst h0;simp only[List.map_cons,fR,qF,lγ,bE,lε]at h;obtain⟨a,b⟩:=Pi ps lo args h.2 (fun j y hy=>g (j+1) y hy);refine⟨by simp only[List.length_cons];omega,?_⟩
   rw[List.length_cons,List.length_cons,Nat.add_sub_add_right];exact⟨fun hk=>by rw[h.1.1];omega,b⟩
structure Rng (p:List Ac)(args:List Va)(ip:List fW):Prop where
 pn:∀a∈p,∀m∈a.methods,∀n∈m.nodes,ji n.v.n
 aw:∀v∈args,kg v=true->Wk v
def h_ {p:List Ac}{t m:LN}{ti mi:Int}(h:IX p t m=some (ti,mi)):∃a me,dL p ti=some a/\dL a.methods mi=some me:=by
 unfold IX at h;cases h1:aP (wH p t) 0 with
 |true=>rw[h1]at h;cases h
 |false=>
  rw[h1,cond_false]at h;obtain⟨a,ha⟩:=Po p t h1;rw[ha]at h;simp only at h;cases h2:bw 0 (EF a.methods m)with
  |false=>rw[h2]at h;cases h
  |true=>
   rw[h2,cond_true]at h;cases h;unfold EF at h2 ⊢
   cases hf:a.methods.findIdx? fun x=>be x.name m with
   |none=>rw[hf]at h2;cases h2
   |some j=>
    have hj:j<a.methods.length:=(mθ.1 hf).1;exact⟨a,a.methods[j],ha,aU hj⟩
variable {args:List Va} {ip:List fW} {lm:Int}
def x_ {p:List Ac}(hp:Tp p){bs:List (List CS)}(ha:Oo p= .good bs){ti mi:Int}{a:Ac}{me:Me}(h1:dL p ti=some a)(h2:dL a.methods mi=some me){key:LN}(hk:key.length<=64)(hr:Hs args ip)(hg:Rng p args ip)(hil:ip.length<=12)(hv:uW a ip=true)(hlm:0<=lm/\lm<=300):∃c,AC ⟨p,bs,a,ti,mi,me.nodes,key,ip,lm⟩ c/\Qr me.params c.lo/\jj me.nodes=true/\cU bs ti mi=some c:=by
 obtain⟨hvd,ht⟩:=Oq ha;have hvb:∀a∈p,∀m∈a.methods,jj m.nodes=true:=fun a ha m hm=>by
  unfold je at hvd;rw[lγ]at hvd;obtain⟨t,ht⟩:=Option.isSome_iff_exists.1 hvd.2;exact((Nz p 0 t ht a ha).2 m hm).1
 have hbo:∀a∈p,∀m∈a.methods,lu m.nodes:=fun a ha m hm=>Oy (hvb a ha m hm)
 obtain⟨tn,rfl,g1⟩:=mY h1;obtain⟨mn,rfl,g2⟩:=mY h2;have hap:=lξ g1;have hmp:=lξ g2;obtain⟨l',k1,k2,k3⟩:=tP p 0 [] bs ht;simp only[List.nil_append]at k1;subst k1;have htn:tn<bs.length:=by rw[k2];exact(List.getElem?_eq_some_iff.1 g1).1
 obtain⟨a',fs,b1,b2,b3,b4⟩:=k3 tn bs[tn] (lδ htn);rw[g1]at b1;obtain rfl:=Option.some.inj b1;have hmn:mn<bs[tn].length:=by rw[b3];exact(List.getElem?_eq_some_iff.1 g2).1
 obtain⟨me',c1,c2,c3⟩:=b4 mn bs[tn][mn] (lδ hmn);rw[g2]at c1;obtain rfl:=Option.some.inj c1;have hb:=hbo a hap me hmp;have hbv:=hvb a hap me hmp;have hbody:cU bs (tn:Int) (mn:Int)=some bs[tn][mn]:=by unfold cU;rw[aU htn];exact aU hmn
 have hkv:∀n∈me.nodes,eu me.nodes n=true/\pQ n=true:=fun n hn=>by
  have:=hbv;unfold jj at this;simp only[lγ,mζ]at this;exact this.2.2.1 n hn
 have hb6:∀x∈me.nodes,x.op=6\/x.op=8\/x.op=9->∀k∈x.kids,∀y,dL me.nodes k=some y->y.op<=7:=by
  intro n hn ho k hk y hy;have hq:=(hkv n hn).1;rcases ho with ho|ho|ho
  ·have hv:(eN n 0 16&&dq me.nodes n 0 fi)=true:=by unfold eu at hq;rw[ho]at hq;exact hq
   rw[lγ]at hv;unfold dq at hv;rw[List.drop_zero,mζ]at hv;have:=hv.2 k hk;unfold iT at this;rw[hy]at this;have:=WT this;simp only[Option.map_some,Option.getD_some]at this;omega
  ·exact hb.lets n hn (.inl ho) k hk y hy
  ·exact hb.lets n hn (.inr ho) k hk y hy
 refine⟨bs[tn][mn],⟨hbody,Z3 c2 c3 hb.tree hb6,hkv,hg.pn a hap me hmp,fun n v hn=>?_,hk,hil,fun q hq=>F2 hv q hq,fun q hq v hvv=>hr.fw q hq v hvv (rX _ _ (F2 hv q hq) v hvv),hr.wr,hlm⟩,RH c2 c3 hb,hbv,hbody⟩
 obtain⟨a2,me2,x,s1,s2,s3,s4,_⟩:=Yd hbo ht hbody hn;rw[h1]at s1;obtain rfl:=Option.some.inj s1;rcases s4 with⟨f1,f,f2,_,f3⟩|⟨f1,f,f2,_,f3⟩
 ·exact .inl ⟨f1,f,f2,f3⟩
 ·exact .inr ⟨f1,f,f2,f3⟩
def Rq {ns:List No}(h:jj ns=true):∃(i:Nat) (n:No),i+1=ns.length/\ns[i]?=some n/\n.op=18:=by
 unfold jj at h;simp only[lγ,bE,lε]at h;obtain⟨_,h,_⟩:=h;unfold iT at h;rw[cd]at h;cases hn:ns[ns.length - 1]? with
 |none=>rw[hn]at h;simp at h
 |some n=>
  rw[hn]at h;have:=(List.getElem?_eq_some_iff.1 hn).1;exact⟨ns.length - 1,n,by omega,hn,h⟩
def aai {c:CS}(hp:AC x c){ls:List Va}(hl:KV2 (c.lo.map Pa.kind) ls)(hw:∀v∈ls,Wk v)(hi:x.ip≠[]):∃s,H3 x (Ő ls)=some s/\Rn x c s/\s.nx=1:=by
 have h0:0<x.ip.length:=List.length_pos_iff.2 hi;have hmem:x.ip[0]∈x.ip:=lν _;refine⟨_,by unfold H3;rw[qJ (show(Ő ls).nx<cr from(by decide:0<1000000000000)),show x.ip[(Ő ls).nx]?=some x.ip[0]from lδ h0];rfl,?_,rfl⟩
 exact⟨rfl,Nat.le_refl _,h0,L7 _ _ (hp.ff _ hmem),hp.fw _ hmem,hl,hw,by simp,hp.lm.1,Int.le_refl _,rfl,(fun g hg=>by cases hg),rfl,rfl⟩
def R_ {c:CS}(hp:AC x c)(hk:∀n∈x.ns,n.kids.length<1501)(hb:jj x.ns=true){ls:List Va}(hl:KV2 (c.lo.map Pa.kind) ls)(hw:∀v∈ls,Wk v)(hi:x.ip≠[]):∃sg,H4 x ls=some sg/\Gd x sg:=by
 obtain⟨s1,e1,r1,_⟩:=aai hp hl hw hi;obtain⟨i,n,h1,h2,h3⟩:=Rq hb;obtain⟨s2,e2,g2⟩:=abb hp hk (eF x) s1 i n r1 h2 (by omega) (by unfold eF;omega);unfold H4;rw[e1];simp only;rw[show((x.ns.length:Int) - 1)=(i:Int) by omega,e2];simp only;rcases g2 with⟨g2,_⟩|g2
 ·obtain⟨s3,e3,g3⟩:=ĺ hp g2 kf;rw[g2.sd,cond_false,e3];exact⟨s3.sg,rfl,g3.gd⟩
 ·rw[g2.sd,cond_true];exact⟨s2.sg,rfl,g2.gd⟩
def ÿ {n:Nat}{v:Va}(h:v∈List.replicate n v0):v=v0:=(List.mem_replicate.1 h).2
def aa7 {p:List Ac}(hp:Tp p)(t m key:LN)(hr:Hs args ip)(hg:Rng p args ip)(hil:ip.length<=12)(hlm:lm<=300):
  ∃r,Z9 p t m key args ip lm=some r/\(r.2≠0->r.1=[])/\(r.2=0->∃x:dR,x.ip=ip/\Gd x r.1):=by
 unfold Z9;cases ha:Oo p with
 |bad a b c e=>
  have he:=aag ha;simp only;rw[bE,mε he,cond_false];exact⟨_,rfl,fun _=>rfl,fun h=>absurd h he⟩
 |good bs=>
  simp only;cases hl:IX p t m with
  |none=>exact⟨_,rfl,fun _=>rfl,fun h=>absurd h (show ¬((14:Int)=0) by decide)⟩
  |some z=>
  obtain⟨ti,mi⟩:=z;obtain⟨a,me,h1,h2⟩:=h_ hl;simp only;rw[h1];simp only;rw[h2];simp only;cases hf:fR args (me.params.map Pa.kind)with
  |false=>exact⟨_,rfl,fun _=>rfl,fun h=>absurd h (show ¬((15:Int)=0) by decide)⟩
  |true=>
  rw[cond_true];cases hc:aP 32 (key.length:Int)||(!uW a ip||(aP lm 0||aP 20000 lm))with
  |true=>exact⟨_,rfl,fun _=>rfl,fun h=>absurd h (show ¬((1:Int)=0) by decide)⟩
  |false=>
  rw[cond_false];simp only[qβ,Bool.not_eq_false',dJ,lμ]at hc;obtain⟨hc1,hc2,hc3,_⟩:=hc;obtain⟨c,hpg,hgr,hbv,hbody⟩:=x_ (key:=key) (lm:=lm) hp ha h1 h2 (by omega) hr hg hil hc2 ⟨by omega,hlm⟩
  obtain⟨k1,k2⟩:=Pi me.params c.lo args hf hgr;have hlo:ED (cU bs ti mi)=c.lo:=by rw[hbody];rfl
  rw[hlo,qJ k1];obtain⟨j,hj,_,e2⟩:=dV h1;have hap:a∈p:=by rw[<-e2];exact lν _
  obtain⟨k,hk,_,e3⟩:=dV h2;have hmp:me∈a.methods:=by rw[<-e3];exact lν _
  have hne:ip≠[]:=by
   intro he;rw[he]at hc2;cases hc2
  obtain⟨sg,g1,g2⟩:=R_ hpg (fun nd hnd=>by have:=(((hp.ac a hap).mm me hmp).nx nd hnd).ks;omega) hbv k2 (fun v hv=>by
   rcases mσ.1 hv with hv|hv
   ·exact hg.aw v hv (rX _ _ hf v hv)
   ·rw[ÿ hv];exact kf) hne
  rw[g1];exact⟨_,rfl,fun h=>absurd rfl h,fun _=>⟨_,rfl,g2⟩⟩
structure Arg (n:Nat)(p:List Ac)(args:List Va)(ip:List fW):Prop where
 pl:p.length<n
 pa:∀a∈p,N8 n a
 li:LBI n args ip
 pr:∀a∈p,∀m∈a.methods,∀x∈m.nodes,ji x.v.n
 ar:∀v∈args,ji v.n/\∀i∈v.I,ji i
 fr:∀p∈ip,∀v∈p.f,ji v.n/\∀i∈v.I,ji i
 rr:∀p∈ip,ji p.r.n/\∀i∈p.r.I,ji i
def Yw {v:Va}(h:Tg v=true):v.I.length<1501/\v.L.length<1501:=by
 unfold Tg at h;simp only[lγ,Bool.not_eq_true',dJ,lμ]at h;omega
def Aj {l:List Va}(h:qf l=true):l.length<=20/\∀v∈l,v.I.length<1501/\v.L.length<1501:=by
 unfold qf at h;rw[lγ,mζ,bW,lε]at h;exact⟨by omega,fun v hv=>Yw (h.1 v hv)⟩
structure Sm (p:List Ac)(args:List Va)(ip:List fW)(lm:Int):Prop where
 sz:Tp p
 ro:Hs args ip
 rg:Rng p args ip
 il:ip.length<=12
 lm:lm<=300
 fv:∀p∈ip,∀v∈p.f,v.I.length<1501/\v.L.length<1501
 rv:∀p∈ip,p.r.I.length<1501/\p.r.L.length<1501
def Yf {n:Nat}{p:List Ac}(ha:Arg n p args ip)(h:zQ p args ip lm=true):Sm p args ip lm:=by
 unfold zQ at h;simp only[lγ,Bool.not_eq_true',dJ,lμ,mζ]at h;obtain⟨h1,h2,h3,h4,h5⟩:=h;obtain⟨a1,a2⟩:=Aj h2;have hi:∀p∈ip,(p.f.length<=20/\∀v∈p.f,v.I.length<1501/\v.L.length<1501)/\(p.r.I.length<1501/\p.r.L.length<1501):=fun p hp=>by
  have:=h5 p hp;unfold Xb at this;rw[lγ]at this;exact⟨Aj this.1,(Aj this.2).2 p.r lη⟩
 exact⟨Yg h1 ha.pa,⟨by omega,a2,by omega,fun p hp=>by have:=(hi p hp).1.1;omega,fun p hp v hv hval=>F1 hval (ha.fr p hp v hv).1 (ha.fr p hp v hv).2,fun p hp hval=>F1 hval (ha.rr p hp).1 (ha.rr p hp).2⟩,⟨ha.pr,fun v hv hval=>F1 hval (ha.ar v hv).1 (ha.ar v hv).2⟩,by omega,by omega,fun p hp=>(hi p hp).1.2,fun p hp=>(hi p hp).2⟩
def L4 {sg:List qr}(hm:1600<=m)(gd:Gd x sg)(hf:∀p∈x.ip,p.f.length<1501)(hv:∀p∈x.ip,∀v∈p.f,v.I.length<1501/\v.L.length<1501)(hl:x.ip.length<1501)(k0:R)(k1:LD×LD×Int×Bool->R)(h1:∀a b c d,k1 (a,b,c,d)=tT):itL (jo (ct lay0.tab m) m k0 k1) m (x.ip.map fW.e,sg.map qr.e,0)=tT:=by
 have g1:=gd.l1;have g2:=gd.l2;refine oy sg.length (fun q i=>itL (jo _ m _ _) q (x.ip.map fW.e,sg.map qr.e,i)) (fun q i hi=>?_) (fun q=>?_) sg.length m 0 (by omega) (by omega)
 ·rw[nt];obtain⟨o1,o2,o3⟩:=gd.ok i sg[i] (lδ hi);have hii:i<x.ip.length:=by omega
  have hmem:x.ip[i]∈x.ip:=lν _;have hw:aq .i64 ((sg.length:Int) - 1)=((sg.length - 1:Nat):Int):=by rw[gU (by omega) (by omega)];omega
  have er:∀g:qr,g.r.Kind=g.k:=fun _=>rfl
  have er2:∀g:qr,g.r.Err=g.er:=fun _=>rfl
  have er3:∀g:qr,g.r.Fields=g.fs.map Va.e:=fun _=>rfl
  have er4:∀g:qr,g.r.Effects.length=g.ef.length:=fun g=>lβ _
  have er5:∀p:fW,p.rr.Fields=p.f.map Va.e:=fun _=>rfl
  simp only[jo,lβ,ej (show((i:Int)<(sg.length:Int)) by omega),aQ,aO,bi,aU hi,aU hii,bo,abw,HW,hw,er,er2,er3,er4,er5,wS (show i<cr by unfold cr;omega)];by_cases h3:sg[i].k=3
  ·obtain⟨⟨p,p1,p2⟩,p3,p4⟩:=o2 h3;rw[lδ hii]at p1;obtain rfl:=Option.some.inj p1;have hnl:¬i+1<sg.length:=fun h=>by have:=o1 h;omega
   rw[wI (show ¬((i:Int)<((sg.length - 1:Nat):Int)) by omega),aR,h3,p2,p3];rw[show az 3 3=true from rfl,aQ,aa (Qc (m:=m) x.ip[i].f (hf _ hmem) (hv _ hmem) (by omega))];simp only[bk,aF,aC,Bool.not_true,aR,show aP 0 ((([]:List Ef).length:Nat):Int)=false from rfl,bE,mε p4]
  ·have hz:=o3 h3;have e3:az sg[i].k 3=false:=by rw[bE];exact mε h3
   rw[hz,e3];simp only[aR,aQ,Bool.not_false,show az 0 0=true from rfl,Bool.not_true];by_cases hlt:i+1<sg.length
   ·rw[o1 hlt,ej (show((i:Int)<((sg.length - 1:Nat):Int)) by omega)];rfl
   ·rw[wI (show ¬((i:Int)<((sg.length - 1:Nat):Int)) by omega),aR]
 ·rw[nt];simp only[jo,lβ,cH,aR];exact h1 _ _ _ _
def KA {n:Nat}(p:List Ac)(t m key:LN)(args:List Va)(ip:List fW)(lm:Int)(ha:Arg n p args ip)(hn:15000<=n)(hb:n<1000000000000)(hw:Ω (n+3) 5 [] []=tT):Ω (n+4) 4 [pD p,pS t,pS m,pS key,pL 5 (args.map Va.e),pL 6 (ip.map fW.e),pI lm] []=tT:=by
 apply Lm (n+3) ⟨p.map Ac.e⟩ t m key (args.map Va.e) (ip.map fW.e) lm;unfold xP;rw[aa hw];simp only[bk,aF,aC,Bool.not_true,aR];show ct lay0.tab (n+3) 6 [pD p,_,_,_] [] _=_;rw[aa (Qa (n:=n) p args ip lm ha.pl ha.pa ha.li (by omega) hb)];simp only[bk,aF,aC];cases hs:zQ p args ip lm with
 |false=>rfl
 |true=>
 have sm:=Yf ha hs;rw[Bool.not_true,aR];cases aP 100 (t.length:Int);rotate_left
 ·rfl
 cases aP 100 (m.length:Int);rotate_left
 ·rfl
 cases aP 100 (key.length:Int);rotate_left
 ·rfl
 simp only[aR];obtain⟨r,e1,e2,e3⟩:=aa7 sm.sz t m key sm.ro sm.rg sm.il sm.lm;have er:=Ŕ (n:=n+3) p sm.sz t m key args ip lm sm.ro e1 (by omega);unfold rSg at er;show ct lay0.tab (n+3) 7 [pD p,_,_,_,_,_,_] [] _=_;rw[aa er];simp only[bt,bJ,bk,vo,cb,aC];by_cases hz:r.2=0
 ·obtain⟨x,hx,gd⟩:=e3 hz;have g1:=gd.l1;have g2:=gd.l2;rw[hz,show az 0 0=true from rfl,Bool.not_true,aR,lβ,lβ,wI (show ¬((r.1.length:Int)<1) by omega),aR,wI (show ¬((ip.length:Int)<(r.1.length:Int)) by rw[hx]at g2;omega),aR];subst hx;exact L4 (by omega) gd sm.ro.fl sm.fv sm.ro.il _ _ (fun _ _ _ _=>rfl)
 ·rw[bE,mε hz,Bool.not_false,aQ,e2 hz];rfl
variable {x:Da}
def Wp {P:Program}{t e z:Nat}{C:TypeId->LD->Prop}(h:lW P t e z=true)(hc:gY P C t x):C t [x]:=by
 unfold lW at h;unfold gY at hc;split at h
 ·rename_i hu;have:ik P t=false:=by unfold ik;rw[hu]
  rw[this]at hc;exact hc
 ·cases h
def Ł:nr prog0 50 [25,38]=true:=by kernel_rfl
def Xh:lW prog0 25 38 5=true:=by kernel_rfl
def Xf:lW prog0 26 50 6=true:=by kernel_rfl
def Xa {i:Int}(h:(Lit.int .i64 i).wf=true):ji i:=by
 simp only[Lit.wf,lγ,lε]at h;have h1:IntKind.i64.min= -9223372036854775808:=rfl;have h2:IntKind.i64.max=9223372036854775807:=rfl;rw[h1,h2]at h;exact⟨by omega,by omega⟩
variable {xs:LD}
def Z5 {n:Nat}(h:CT (n+2) 35 xs):∃l:LI,xs=[.slice 1 (l.map iE)]/\∀i∈l,ji i:=by
 obtain⟨es,rfl,h1,h2⟩:=qe aaQ h;obtain⟨l,rfl,hl⟩:=fE (f:=iE) (Q:=ji) (es:=es) fun x hx=>by
  obtain⟨i,e,hw⟩:=nh Tx (DF Tx (h2 x hx));simp only[lτ,and_true]at e;exact⟨i,e,Xa hw⟩
 exact⟨l,rfl,hl⟩
structure Ħ (v:Va):Prop where
 b:YD 1048577 v
 n:ji v.n
 i:∀x∈v.I,ji x
def OC {n:Nat}(h:CT (n+3) 38 xs):∃v:Va,xs=v.c/\Ħ v:=by
 obtain⟨_,_,rfl,h1,_,_,rfl,h2,_,_,rfl,h3,_,_,rfl,h4,_,_,rfl,h5,rfl⟩:=wj Ņ h;obtain⟨k,rfl,_⟩:=nh Tx h1;obtain⟨m,rfl,hm⟩:=nh Tx h2;obtain⟨s,rfl⟩:=qZ YF h3;obtain⟨I,rfl,hI⟩:=Z5 h4;obtain⟨L,rfl,hL⟩:=ſ h5;exact⟨⟨k,m,s,I,L⟩,rfl,⟨by show L.length<_;omega,by show L.length<_;omega⟩,Xa hm,hI⟩
def aaD {n:Nat}(h:DT (n+3) 38 x):∃v:Va,x=v.e/\Ħ v:=by
 obtain⟨cs,rfl,g⟩:=oc Ņ h;obtain⟨v,rfl,hv⟩:=OC g;exact⟨v,rfl,hv⟩
def VP {n:Nat}(h:CT (n+4) 25 xs):∃l:List Va,xs=[.slice 5 (l.map Va.e)]/\l.length<=1048576/\∀v∈l,Ħ v:=by
 obtain⟨es,rfl,h1,h2⟩:=qe Xh h;obtain⟨l,rfl,hl⟩:=fE (f:=Va.e) (Q:=Ħ) (es:=es) fun x hx=>aaD (h2 x hx)
 exact⟨l,rfl,by rw[lβ]at h1;exact h1,hl⟩
def ϖ {n:Nat}(h:DT (n+4) 92 x):∃a:No,x=a.e/\YD 1048577 a.v/\ji a.v.n:=by
 obtain⟨cs,rfl,g⟩:=oc Xg h;obtain⟨_,_,rfl,h1,_,_,rfl,h2,_,_,rfl,h3,_,_,rfl,h4,rfl⟩:=wj Xg g;obtain⟨k,rfl,_⟩:=nh Tx h1;obtain⟨s,rfl⟩:=qZ YF h2;obtain⟨v,rfl,hv⟩:=OC h3;obtain⟨I,rfl,_⟩:=ž h4;exact⟨⟨k,s,v,I⟩,rfl,hv.b,hv.n⟩
def aaC {n:Nat}(h:DT (n+2) 72 x):∃a:Pa,x=a.e/\a.name.length<9223372036854775808:=by
 obtain⟨cs,rfl,g⟩:=oc Ń h;obtain⟨_,_,rfl,h1,_,_,rfl,h2,rfl⟩:=wj Ń g;obtain⟨s,rfl,hs⟩:=Ğ YF h1;obtain⟨k,rfl,_⟩:=nh Tx h2;exact⟨⟨s,k⟩,rfl,hs⟩
def aay {n:Nat}(h:DT (n+4) 89 x):∃a:Fe,x=a.e/\YD 1048577 a.init:=by
 obtain⟨cs,rfl,g⟩:=oc ŀ h;obtain⟨_,_,rfl,h1,_,_,rfl,h2,_,_,rfl,h3,rfl⟩:=wj ŀ g;obtain⟨s,rfl⟩:=qZ YF h1;obtain⟨k,rfl,_⟩:=nh Tx h2;obtain⟨v,rfl,hv⟩:=OC h3;exact⟨⟨s,k,v⟩,rfl,hv.b⟩
def aaB {n:Nat}(h:DT (n+6) 70 x):∃a:Me,x=a.e/\a.nodes.length<=1048576/\(∀y∈a.nodes,YD 1048577 y.v/\ji y.v.n)/\∀q∈a.params,q.name.length<9223372036854775808:=by
 obtain⟨cs,rfl,g⟩:=oc ł h;obtain⟨_,_,rfl,h1,_,_,rfl,h2,_,_,rfl,h3,_,_,rfl,h4,rfl⟩:=wj ł g;obtain⟨s,rfl⟩:=qZ YF h1;obtain⟨ps,rfl,_,h2⟩:=qe ϸ h2;obtain⟨k,rfl,_⟩:=nh Tx h3;obtain⟨ns,rfl,hl,h4⟩:=qe ê h4;obtain⟨ps,rfl,hq⟩:=fE (f:=Pa.e) (Q:=fun a=>a.name.length<9223372036854775808) (es:=ps) fun x hx=>aaC (h2 x hx)
 obtain⟨ns,rfl,hv⟩:=fE (f:=No.e) (Q:=fun a=>YD 1048577 a.v/\ji a.v.n) (es:=ns) fun x hx=>ϖ (h4 x hx)
 exact⟨⟨s,ps,k,ns⟩,rfl,by simpa using hl,hv,hq⟩
def abA {n:Nat}(h:DT (n+8) 66 x):∃a:Ac,x=a.e/\N8 1048577 a/\∀m∈a.methods,∀y∈m.nodes,ji y.v.n:=by
 obtain⟨cs,rfl,g⟩:=oc aaN h;obtain⟨_,_,rfl,h1,_,_,rfl,h2,_,_,rfl,h3,rfl⟩:=wj aaN g;obtain⟨s,rfl⟩:=qZ YF h1;obtain⟨fs,rfl,hf,h2⟩:=qe ϵ h2;obtain⟨ms,rfl,hm,h3⟩:=qe Ϸ h3;obtain⟨fs,rfl,hv⟩:=fE (f:=Fe.e) (Q:=fun a=>YD 1048577 a.init) (es:=fs) fun x hx=>aay (h2 x hx)
 obtain⟨ms,rfl,hw⟩:=fE (f:=Me.e) (Q:=fun a=>a.nodes.length<=1048576/\(∀y∈a.nodes,YD 1048577 y.v/\ji y.v.n)/\∀q∈a.params,q.name.length<9223372036854775808) (es:=ms) fun x hx=>aaB (h3 x hx)
 rw[lβ]at hf hm;replace hf:fs.length<=1048576:=hf;replace hm:ms.length<=1048576:=hm;exact⟨⟨s,fs,ms⟩,rfl,⟨by show fs.length<_;omega,by show ms.length<_;omega,hv,fun m hmm=>⟨by have:=(hw m hmm).1;omega,by have:=(hw m hmm).1;omega,fun y hy=>((hw m hmm).2.1 y hy).1⟩,fun m hmm=>(hw m hmm).2.2⟩,fun m hmm y hy=>((hw m hmm).2.1 y hy).2⟩
def ϗ {n:Nat}(h:DT (n+10) 24 x):∃p:List Ac,x= .agg [.slice 3 (p.map Ac.e)]/\p.length<1048577/\∀a∈p,N8 1048577 a/\∀m∈a.methods,∀y∈m.nodes,ji y.v.n:=by
 obtain⟨cs,rfl,g⟩:=oc ń h;obtain⟨_,_,rfl,h1,rfl⟩:=wj ń g;obtain⟨ts,rfl,hl,h1⟩:=qe aaO h1;obtain⟨p,rfl,hp⟩:=fE (f:=Ac.e) (Q:=fun a=>N8 1048577 a/\∀m∈a.methods,∀y∈m.nodes,ji y.v.n) (es:=ts) fun x hx=>abA (h1 x hx)
 rw[lβ]at hl;replace hl:p.length<=1048576:=hl;exact⟨p,rfl,by omega,hp⟩
structure IOk (p:fW):Prop where
 l:p.f.length<=1048576
 f:∀v∈p.f,Ħ v
 r:Ħ p.r
def aaz {n:Nat}(h:DT (n+6) 50 x):∃p:fW,x=p.e/\IOk p:=by
 obtain⟨cs,rfl,g⟩:=oc Ł h;obtain⟨_,_,rfl,h1,_,_,rfl,h2,rfl⟩:=wj Ł g;obtain⟨l,rfl,hl,hv⟩:=VP h1;obtain⟨v,rfl,hr⟩:=OC h2;exact⟨⟨l,v⟩,rfl,hl,hv,hr⟩
def ϕ {n:Nat}(h:DT (n+7) 26 x):∃l:List fW,x= .slice 6 (l.map fW.e)/\∀p∈l,IOk p:=by
 obtain⟨es,e,h1,h2⟩:=qe Xf (Wp Xf h);obtain⟨l,rfl,hl⟩:=fE (f:=fW.e) (Q:=IOk) (es:=es) fun x hx=>aaz (h2 x hx)
 simp only[lτ,and_true]at e;exact⟨l,e,hl⟩
def Wo {n:Nat}(h:DT (n+1) 9 x):∃s,x= .str s:=by
 obtain⟨s,e⟩:=qZ YF (OO YF h);simp only[lτ,and_true]at e;exact⟨s,e⟩
def Ϙ {n:Nat}(h:DT (n+4) 25 x):∃l:List Va,x= .slice 5 (l.map Va.e)/\l.length<=1048576/\∀v∈l,Ħ v:=by
 obtain⟨l,e,h1,h2⟩:=VP (Wp Xh h);simp only[lτ,and_true]at e;exact⟨l,e,h1,h2⟩
def aaA {n:Nat}(h:DT (n+1) 3 x):∃i,x= .int .i64 i/\ji i:=by
 obtain⟨i,e,hw⟩:=nh Tx (DF Tx h);simp only[lτ,and_true]at e;exact⟨i,e,Xa hw⟩
def ų {p:List Ac}(hl:p.length<1048577)(hp:∀a∈p,N8 1048577 a/\∀m∈a.methods,∀y∈m.nodes,ji y.v.n)(al:args.length<=1048576)(ha:∀v∈args,Ħ v)(hi:∀p∈ip,IOk p):Arg 1048577 p args ip:=
 ⟨hl,fun a h=>(hp a h).1,⟨by omega,fun v hv=>(ha v hv).b.l,fun p hp=>by have:=(hi p hp).l;omega,fun p hp v hv=>((hi p hp).f v hv).b.l,fun p hp=>(hi p hp).r.b.l⟩,fun a h m hm x hx=>(hp a h).2 m hm x hx,fun v hv=>⟨(ha v hv).n,(ha v hv).i⟩,fun p hp v hv=>⟨((hi p hp).f v hv).n,((hi p hp).f v hv).i⟩,fun p hp=>⟨(hi p hp).r.n,(hi p hp).r.i⟩⟩
def call0_ok (L:Letters)(N:Nat):ez prog0 globs0 (Ω N):=rU (P:=prog0) (G:=globs0) EI (lay0.okM L mvG) N
def YL {n:Nat}:Ω (n+1) 5 [] []=some (pB true,[]):=by kernel_rfl
def run_EvalFails:∀xs,Pw (gY prog0 (cg prog0 Bn 12)) [24,9,9,9,25,26,3] xs->∃N,Ω N 4 (xs.map .p) []=some (pB true,[]):=by
 intro xs h;obtain⟨x1,r1,rfl,h1,h⟩:=h.cons_inv;obtain⟨x2,r2,rfl,h2,h⟩:=h.cons_inv;obtain⟨x3,r3,rfl,h3,h⟩:=h.cons_inv;obtain⟨x4,r4,rfl,h4,h⟩:=h.cons_inv;obtain⟨x5,r5,rfl,h5,h⟩:=h.cons_inv;obtain⟨x6,r6,rfl,h6,h⟩:=h.cons_inv;obtain⟨x7,r7,rfl,h7,h⟩:=h.cons_inv;obtain rfl:=h.nil_inv;obtain⟨p,rfl,hl,hp⟩:=ϗ (n:=2) h1;obtain⟨t,rfl⟩:=Wo (n:=11) h2;obtain⟨m,rfl⟩:=Wo (n:=11) h3;obtain⟨key,rfl⟩:=Wo (n:=11) h4;obtain⟨args,rfl,al,ha⟩:=Ϙ (n:=8) h5;obtain⟨ip,rfl,hi⟩:=ϕ (n:=5) h6;obtain⟨lm,rfl,_⟩:=aaA (n:=11) h7;exact⟨1048577+4,KA (n:=1048577) p t m key args ip lm (ų hl hp al ha hi) (by omega) (by omega) (YL (n:=1048579))⟩
end
end Go.Ab
