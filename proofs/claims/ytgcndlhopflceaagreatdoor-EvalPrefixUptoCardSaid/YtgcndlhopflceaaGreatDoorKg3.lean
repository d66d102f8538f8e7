import Derived.Test.YtgcndlhopflceaaGreatDoorKg2
import Derived.Test.YtgcndlhopflceaaGreatDoorOg3
import Derived.Test.YtgcndlhopflceaaGreatDoorKg1
import Derived.Test.YtgcndlhopflceaaGreatDoorKg0
set_option linter.all false
namespace Go.Ab
open Go
set_option maxRecDepth 100000
noncomputable section
abbrev tT:R:=some (pB true,[])
def Ca (a:Int):az a a=true:=by rw[bE];exact mη rfl
def Ķ (a:LN):be a a=true:=by rw[la];exact mη rfl
def oy (N:Nat)(L:Nat->Int->R)(hs:∀q i,i<N->L (q+1) (i:Int)=L q ((i+1:Nat):Int))(he:∀q,L (q+1) (N:Int)=tT):∀(e q i:Nat),i+e=N->e<q->L q (i:Int)=tT
 |0,q+1,i,h,_=>by
  obtain rfl:i=N:=by omega
  exact he q
 |e+1,q+1,i,h,hq=>by rw[hs q i (by omega)];exact oy N L hs he e q (i+1) (by omega) (by omega)
variable {m:Nat}
def TK (l:LI)(hl:l.length<1501)(hm:1503<=m):Ω m 57 [pL 1 (l.map iE),pL 1 (l.map iE)] []=tT:=by
 replace hm:=bl hm;obtain⟨m,rfl,hm⟩:=hm;apply Uv m (l.map iE) (l.map iE);unfold Gr;rw[Ca,Bool.not_true,aR];refine oy l.length (fun q i=>itL (mI _ m _ _) q (l.map iE,l.map iE,i)) (fun q i hi=>?_) (fun q=>?_) l.length m 0 (by omega) (by omega)
 ·rw[nt];simp only[mI,lβ,ej (show((i:Int)<(l.length:Int)) by omega),aQ,aO,bi,aU hi,bo,dI,Ca,Bool.not_true,aR,wS (show i<cr by unfold cr;omega)]
 ·rw[nt];simp only[mI,lβ,cH,aR]
def TL (l:List LN)(hl:l.length<1501)(hm:1503<=m):Ω m 58 [pL 1 (l.map .str),pL 1 (l.map .str)] []=tT:=by
 replace hm:=bl hm;obtain⟨m,rfl,hm⟩:=hm;apply Uw m (l.map .str) (l.map .str);unfold Gs;rw[Ca,Bool.not_true,aR];refine oy l.length (fun q i=>itL (mJ _ m _ _) q (l.map Da.str,l.map Da.str,i)) (fun q i hi=>?_) (fun q=>?_) l.length m 0 (by omega) (by omega)
 ·rw[nt];simp only[mJ,lβ,ej (show((i:Int)<(l.length:Int)) by omega),aQ,aO,bi,aU hi,bo,uw,Ķ,Bool.not_true,aR,wS (show i<cr by unfold cr;omega)]
 ·rw[nt];simp only[mJ,lβ,cH,aR]
def TM (v:Va)(hv:v.I.length<1501/\v.L.length<1501)(hm:1504<=m):Ω m 23 [.p (.agg v.c),.p (.agg v.c)] []=tT:=by
 replace hm:=bl hm;obtain⟨m,rfl,hm⟩:=hm;apply Ux m v.r v.r;unfold Gt;rw[Ca,Ca,Ķ,aQ,aQ,aQ];show ct lay0.tab m 57 [pL 1 (v.I.map iE),pL 1 (v.I.map iE)] [] _=_;rw[aa (TK (m:=m) v.I hv.1 hm)];simp only[bk,aF,aC,aQ];show ct lay0.tab m 58 [pL 1 (v.L.map .str),pL 1 (v.L.map .str)] [] _=_;rw[aa (TL (m:=m) v.L hv.2 hm)];simp only[bk,aF,aC]
def Qc (l:List Va)(hl:l.length<1501)(hv:∀v∈l,v.I.length<1501/\v.L.length<1501)(hm:1505<=m):Ω m 9 [pL 5 (l.map Va.e),pL 5 (l.map Va.e)] []=tT:=by
 replace hm:=bl hm;obtain⟨m,rfl,hm⟩:=hm;apply QR m (l.map Va.e) (l.map Va.e);unfold Br;rw[Ca,Bool.not_true,aR];refine oy l.length (fun q i=>itL (kJ _ m _ _) q (l.map Va.e,l.map Va.e,i)) (fun q i hi=>?_) (fun q=>?_) l.length m 0 (by omega) (by omega)
 ·rw[nt];simp only[kJ,lβ,ej (show((i:Int)<(l.length:Int)) by omega),aQ,aO,bi,aU hi,bo,Va.e,pR,wS (show i<cr by unfold cr;omega)];show ct lay0.tab m 23 [.p (.agg l[i].c),.p (.agg l[i].c)] [] _=_;rw[aa (TM (m:=m) l[i] (hv _ (lν _)) hm)];simp only[bk,aF,aC,Bool.not_true,aR]
 ·rw[nt];simp only[kJ,lβ,cH,aR]
def qr.r (x:qr):c8:=⟨x.k,x.v.k,x.v.n,x.v.s,x.v.I.map iE,x.v.L.map .str,x.tt,x.tk,x.me,x.ar.map Va.e,x.er,0,0,0,[],x.fs.map Va.e,x.ef.map Ef.e,0⟩
def qr.re (x:qr):x.r.e=x.e:=rfl
def abw (g:qr)(K:c8->R):aY g.e K=K g.r:=rfl
def adp (e:Ef)(K:hY->R):rI e.e K=K ⟨e.k,e.n,e.a,e.b⟩:=rfl
def acW (g:qr)(hg:acG g)(hm:1506<=m):Ω m 55 [.p g.e,.p g.e] []=tT:=by
 replace hm:=bl hm;obtain⟨m,rfl,hm⟩:=hm;apply acY m g.r g.r;unfold acE;rw[Ca,Bool.not_true,aR];show ct lay0.tab m 23 [.p (.agg g.v.c),.p (.agg g.v.c)] [] _=_;rw[aa (TM (m:=m) g.v hg.v (by omega))];simp only[bk,aF,aC,Bool.not_true,aR,Ķ,Ca,aQ];show ct lay0.tab m 9 [pL 5 (g.ar.map Va.e),pL 5 (g.ar.map Va.e)] [] _=_;rw[aa (Qc (m:=m) g.ar hg.al hg.av hm)];simp only[bk,aF,aC,Bool.not_true,aR];show ct lay0.tab m 9 [pL 5 (g.fs.map Va.e),pL 5 (g.fs.map Va.e)] [] _=_;rw[aa (Qc (m:=m) g.fs hg.fl hg.fv hm)];simp only[bk,aF,aC,Bool.not_true,aR];have hel:=hg.el;refine oy g.ef.length (fun q i=>itL (acg _ m _ _) q (i,g.r,g.r)) (fun q i hi=>?_) (fun q=>?_) g.ef.length m 0 (by omega) (by omega)
 ·rw[nt];unfold acg;show iL (aP (i:Int) ((g.ef.map Ef.e).length:Int)) (cL (bA (g.ef.map Ef.e) (i:Int)) fun x16=>rI x16 fun u17=>cL (bA (g.ef.map Ef.e) (i:Int)) fun x18=>_) _=_;simp only[lβ,ej (show((i:Int)<(g.ef.length:Int)) by omega),aQ,aO,bi,aU hi,bo,adp,Ca,Ķ,wS (show i<cr by unfold cr;omega)]
 ·rw[nt];unfold acg;show iL (aP (g.ef.length:Int) ((g.ef.map Ef.e).length:Int)) _ _=_;simp only[lβ,cH,aR]
def acS (g:qr)(hg:acG g)(hm:1507<=m):Ω m 22 [.p g.e,.p g.e] []=tT:=by
 replace hm:=bl hm;obtain⟨m,rfl,hm⟩:=hm;replace hm:=bl hm;obtain⟨m,rfl,hm⟩:=hm;apply acU (m+1) g.r g.r;unfold acx;show ct lay0.tab (m+1) 55 [.p g.e,.p g.e] [] _=_;rw[aa (acW (m:=m+1) g hg (by omega))];simp only[bk,aF,aC,aQ];have em:Ω (m+1) 56 [.p (.agg [.int .i64 0,.int .i64 0,.int .i64 0,.slice 5 []]),.p (.agg [.int .i64 0,.int .i64 0,.int .i64 0,.slice 5 []])] []=tT:=by
  apply acX m 0 0 0 [] 0 0 0 [];unfold acD;rw[show az 0 0=true from rfl,aQ,aQ,aQ];have e:=Qc (m:=m) [] (by decide) (fun v hv=>by cases hv) hm;rw[List.map_nil]at e;rw[aa e];simp only[bk,aF,aC]
 show ct lay0.tab (m+1) 56 [.p (.agg [.int .i64 0,.int .i64 0,.int .i64 0,.slice 5 []]),.p (.agg [.int .i64 0,.int .i64 0,.int .i64 0,.slice 5 []])] [] _=_;rw[aa em];simp only[bk,aF,aC,aQ];rfl
def ac5 (l:List qr)(hl:l.length<1501)(hg:∀g∈l,acG g)(hm:1508<=m):Ω m 8 [pL 18 (l.map qr.e),pL 18 (l.map qr.e)] []=tT:=by
 replace hm:=bl hm;obtain⟨m,rfl,hm⟩:=hm;apply ac6 m (l.map qr.e) (l.map qr.e);unfold acQ;rw[Ca,Bool.not_true,aR];refine oy l.length (fun q i=>itL (ach _ m _ _) q (l.map qr.e,l.map qr.e,i)) (fun q i hi=>?_) (fun q=>?_) l.length m 0 (by omega) (by omega)
 ·rw[nt];simp only[ach,lβ,ej (show((i:Int)<(l.length:Int)) by omega),aQ,aO,bi,aU hi,bo,abw,wS (show i<cr by unfold cr;omega),qr.re];rw[aa (acS (m:=m) l[i] (hg _ (lν _)) hm)];simp only[bk,aF,aC,Bool.not_true,aR]
 ·rw[nt];simp only[ach,lβ,cH,aR]
def oH (v:Va):Bool:=(v.L.all fun t=>!aP 100 (cT t))&&(bw (cT v.s) 100&&(bw (cT v.I) 40&&bw (cT v.L) 40))
def wB {i:Nat}(h:i<1000000000000000):aq .i64 ((i:Int)+1)=((i+1:Nat):Int):=by
 rw[gU (by omega) (by omega)];omega
def NG {n:Nat}(v:Va)(h:v.L.length<n)(hb:v.L.length<1000000000000000):Ω (n+1) 26 [.p (.agg v.c)] []=some (pB (oH v),[]):=by
 apply Zc n v.r;unfold NX oH;refine(bp v.L (fun q i=>itL (BP _ n _ _) q (i,v.r)) (fun t=>aP 100 (cT t)) (fun i=>some (pB false,[])) (some (pB (bw (cT v.s) 100&&(bw (cT v.I) 40&&bw (cT v.L) 40)),[])) (fun q i hi=>?_) (fun q=>?_) h).trans ?_
 ·rw[nt];show iL (aP (i:Int) ((v.L.map Da.str).length:Int)) (cL (bA (v.L.map Da.str) (i:Int)) _) _=_;simp only[lβ,ej (show((i:Int)<(v.L.length:Int)) by omega),aQ,aO,bi,aU hi,bo,uw,wB (show i<1000000000000000 by omega)];exact fY _ _ _
 ·rw[nt];show iL (aP (v.L.length:Int) ((v.L.map Da.str).length:Int)) _ (iL (bw (v.s.length:Int) 100) (iL (bw ((v.I.map iE).length:Int) 40) (iL (bw ((v.L.map Da.str).length:Int) 40) _ _) _) _)=_;simp only[lβ,cH,aR,dt,pE,wq,cT,Bool.and_true]
 ·rw[lP];cases v.L.findIdx? fun t=>aP 100 (cT t)<;>rfl
def L_ (f:Fe):Bool:=!aP 100 (cT f.name)&&oH f.init
def Ē (x:No):Bool:=!aP 100 (cT x.name)&&(!aP 60 (cT x.kids)&&oH x.v)
def YH:List Me->Int->Option Int
 |[],t=>some t
 |m::r,t=>bif aP 400 (aq .i64 (t+cT m.nodes))then none else bif aP 20 (cT m.params)then none else bif aP 100 (cT m.name)then none else bif m.nodes.all Ē then YH r (aq .i64 (t+cT m.nodes))else none
def smA (a:Ac):Bool:=!aP 20 (cT a.fields)&&(!aP 20 (cT a.methods)&&(!aP 100 (cT a.name)&&a.fields.all L_))
def Ŏ:List Ac->Int->Option Int
 |[],t=>some t
 |a::r,t=>bif smA a then(match YH a.methods t with|none=>none|some t=>Ŏ r t)else none
def uU (p:List Ac):Bool:=!aP 20 (cT p)&&(Ŏ p 0).isSome
structure YD (n:Nat)(v:Va):Prop where
 l:v.L.length<n
 b:v.L.length<1000000000000000
structure N8 (n:Nat)(a:Ac):Prop where
 fl:a.fields.length<n
 me:a.methods.length<n
 ff:∀f∈a.fields,YD n f.init
 mm:∀m∈a.methods,m.nodes.length<n/\m.nodes.length<1000000000000000/\∀x∈m.nodes,YD n x.v
 pn:∀m∈a.methods,∀q∈m.params,q.name.length<9223372036854775808
def N8.le {n n':Nat}{a:Ac}(h:N8 n a)(hn:n<=n'):N8 n' a:=⟨by have:=h.fl;omega,by have:=h.me;omega,fun f hf=>⟨by have:=(h.ff f hf).l;omega,(h.ff f hf).b⟩,fun m hm=>⟨by have:=(h.mm m hm).1;omega,(h.mm m hm).2.1,fun x hx=>⟨by have:=((h.mm m hm).2.2 x hx).l;omega,((h.mm m hm).2.2 x hx).b⟩⟩,h.pn⟩
def aca {n:Nat}(a:Ac)(h:N8 n a)(hl:a.fields.length<1501)(P:au)(i j:Int)(k0:au×ae->R)(k1:lJ->R):itL (BO (ct lay0.tab (n+1)) (n+1) k0 k1) (n+1) (i,j,0,P,a.r)=bif a.fields.all L_ then k1 (i,j,(a.fields.length:Int),P,a.r)else k0 (P,a.r):=by
 refine(bp a.fields (fun q e=>itL (BO _ (n+1) _ _) q (i,j,e,P,a.r)) (fun f=>!L_ f) (fun _=>k0 (P,a.r)) (k1 (i,j,(a.fields.length:Int),P,a.r)) (fun q e he=>?_) (fun q=>?_) (by have:=h.fl;omega)).trans ?_
 ·rw[nt];have hv:=h.ff a.fields[e] (lν _);have e1:=aa (NG (n:=n) a.fields[e].init hv.l hv.b);simp only[Va.c]at e1;show iL (aP (e:Int) ((a.fields.map Fe.e).length:Int)) (cL (bA (a.fields.map Fe.e) (e:Int)) fun x11=>cq x11 fun u12=>iL (aP 100 ↑(List.length u12.Name)) _ (cL (bA (a.fields.map Fe.e) (e:Int)) fun x13=>_)) _=_
  simp only[lβ,ej (show((e:Int)<(a.fields.length:Int)) by omega),aQ,aO,bi,aU he,bo,dFe,wS (show e<cr by unfold cr;omega),show ∀f:Fe,f.r.Name=f.name from fun _=>rfl,show ∀f:Fe,f.r.Init_Kind=f.init.k from fun _=>rfl,show ∀f:Fe,f.r.Init_N=f.init.n from fun _=>rfl,show ∀f:Fe,f.r.Init_S=f.init.s from fun _=>rfl,show ∀f:Fe,f.r.Init_I=f.init.I.map iE from fun _=>rfl,show ∀f:Fe,f.r.Init_L=f.init.L.map .str from fun _=>rfl,e1,bk,aF,aC,L_,cT];refine Eq.trans ?_ (fY _ _ _);cases aP 100 (a.fields[e].name.length:Int)<;>cases oH a.fields[e].init<;>rfl
 ·rw[nt];show iL (aP (a.fields.length:Int) ((a.fields.map Fe.e).length:Int)) _ _=_;simp only[lβ,cH,aR]
 ·rw[fd];cases a.fields.findIdx? fun f=>!L_ f<;>rfl
def acb {n:Nat}(m:Me)(hx:∀x∈m.nodes,YD n x.v)(hn:m.nodes.length<n)(hl:m.nodes.length<1501)(P:au)(A:ae)(i j k:Int)(k0:au×ae×aA->R)(k1:lL->R):itL (oU (ct lay0.tab (n+1)) (n+1) k0 k1) (n+1) (i,j,k,0,P,A,m.r)=bif m.nodes.all Ē then k1 (i,j,k,(m.nodes.length:Int),P,A,m.r)else k0 (P,A,m.r):=by
 refine(bp m.nodes (fun q e=>itL (oU _ (n+1) _ _) q (i,j,k,e,P,A,m.r)) (fun x=>!Ē x) (fun _=>k0 (P,A,m.r)) (k1 (i,j,k,(m.nodes.length:Int),P,A,m.r)) (fun q e he=>?_) (fun q=>?_) (by omega)).trans ?_
 ·rw[nt];have hv:=hx m.nodes[e] (lν _);have e1:=aa (NG (n:=n) m.nodes[e].v hv.l hv.b);simp only[Va.c]at e1;simp only[oU,show m.r.Nodes=m.nodes.map No.e from rfl,lβ,ej (show((e:Int)<(m.nodes.length:Int)) by omega),aQ,aO,bi,aU he,bo,HZ,wS (show e<cr by unfold cr;omega),nr2,nr3,nr4,nr5,nr6,nr7,YG,lβ,e1,bk,aF,aC,Ē,cT];refine Eq.trans ?_ (fY _ _ _);cases aP 100 (m.nodes[e].name.length:Int)<;>cases aP 60 (m.nodes[e].kids.length:Int)<;>cases oH m.nodes[e].v<;>rfl
 ·rw[nt];simp only[oU,show m.r.Nodes=m.nodes.map No.e from rfl,lβ,cH,aR]
 ·rw[fd];cases m.nodes.findIdx? fun x=>!Ē x<;>rfl
def aa8 {n:Nat}(a:Ac)(h:N8 n a)(hl:a.methods.length<1501)(P:au)(i:Int)(k0:au×ae×aA->R)(k1:lK->R)(Z:R)(hk0:∀x,k0 x=Z):∀(e q j:Nat) (t:Int),j+e=a.methods.length->e<q->0<=t->t<=400->
  itL (oT (ct lay0.tab (n+1)) (n+1) k0 k1) q (t,i,(j:Int),P,a.r)=match YH (a.methods.drop j) t with|none=>Z|some t=>k1 (t,i,(a.methods.length:Int),P,a.r)
 |0,q+1,j,t,he,_,_,_=>by
  obtain rfl:j=a.methods.length:=by omega
  rw[nt];simp only[oT,show a.r.Methods=a.methods.map Me.e from rfl,lβ,cH,aR,List.drop_length,YH]
 |e+1,q+1,j,t,he,hq,h0,h4=>by
  have hj:j<a.methods.length:=by omega
  obtain⟨g1,g2,g3⟩:=h.mm a.methods[j] (lν _);rw[nt,lχ hj];simp only[oT,show a.r.Methods=a.methods.map Me.e from rfl,lβ,ej (show((j:Int)<(a.methods.length:Int)) by omega),aQ,aO,bi,aU hj,bo,Z7,wS (show j<cr by unfold cr;omega),show ∀m:Me,m.r.Nodes=m.nodes.map No.e from fun _=>rfl,show ∀m:Me,m.r.Params=m.params.map Pa.e from fun _=>rfl,show ∀m:Me,m.r.Name=m.name from fun _=>rfl,lβ,hk0,YH,cT];have hw:aq .i64 (t+(a.methods[j].nodes.length:Int))=t+(a.methods[j].nodes.length:Int):=gU (by omega) (by omega);rw[hw];by_cases hg:400<t+(a.methods[j].nodes.length:Int)
  ·rw[ej hg];rfl
  ·rw[wI hg];cases aP 20 (a.methods[j].params.length:Int)
   ·cases aP 100 (a.methods[j].name.length:Int)
    ·simp only[aR,cond_false];have hs:=fun kk=>acb (n:=n) a.methods[j] g3 g1 (by omega) P a.r (t+(a.methods[j].nodes.length:Int)) i (j:Int) (fun(u50,u51,u52)=>Z) kk
     refine Eq.trans (hs _) ?_;cases a.methods[j].nodes.all Ē
     ·rfl
     ·simp only[cond_true,wS (show j<cr by unfold cr;omega)];exact aa8 a h hl P i k0 k1 Z hk0 e q (j+1) (t+(a.methods[j].nodes.length:Int)) (by omega) (by omega) (by omega) (by omega)
    ·rfl
   ·rfl
def zP:∀(l:List Me) (t t':Int),YH l t=some t'->(∀m∈l,m.nodes.length<1000000000000000)->0<=t->t<=400->0<=t'/\t'<=400/\∀m∈l,m.nodes.length<=400/\m.params.length<=20/\m.nodes.all Ē=true
 |[],t,t',h,_,h0,h4=>by
  simp only[YH,lα]at h;subst h;exact⟨h0,h4,fun m hm=>by cases hm⟩
 |m::r,t,t',h,hb,h0,h4=>by
  have hm:=hb m (lη ..);simp only[YH,cT]at h;have hw:aq .i64 (t+(m.nodes.length:Int))=t+(m.nodes.length:Int):=gU (by omega) (by omega);rw[hw]at h;by_cases hg:400<t+(m.nodes.length:Int)
  ·rw[ej hg]at h;cases h
  ·rw[wI hg]at h;by_cases h20:20<(m.params.length:Int)
   ·rw[ej h20]at h;cases h
   ·rw[wI h20]at h;cases h100:aP 100 (m.name.length:Int)with
    |true=>rw[h100]at h;cases h
    |false=>
     rw[h100]at h;simp only[cond_false]at h;cases ha:m.nodes.all Ē with
     |false=>rw[ha]at h;cases h
     |true=>
      rw[ha]at h;obtain⟨g1,g2,g3⟩:=zP r _ t' h (fun x hx=>hb x (lρ _ hx)) (by omega) (by omega);refine⟨g1,g2,fun x hx=>?_⟩
      rcases mδ.1 hx with rfl|hx
      ·exact⟨by omega,by omega,ha⟩
      ·exact g3 x hx
def aa9 {n:Nat}(p:List Ac)(h:∀a∈p,N8 n a)(hl:p.length<1501)(k0:au×ae->R)(k1:au×ae×aA->R)(k2:lI->R)(Z W:R)(hk0:∀x,k0 x=Z)(hk1:∀x,k1 x=Z)(hk2:∀x,k2 x=W):∀(e q j:Nat) (t:Int),j+e=p.length->e<q->0<=t->t<=400->
  itL (oS (ct lay0.tab (n+1)) (n+1) k0 k1 k2) q (t,(j:Int),⟨p.map Ac.e⟩)=match Ŏ (p.drop j) t with|none=>Z|some _=>W
 |0,q+1,j,t,he,_,_,_=>by
  obtain rfl:j=p.length:=by omega
  rw[nt];simp only[oS,lβ,cH,aR,List.drop_length,Ŏ,hk2]
 |e+1,q+1,j,t,he,hq,h0,h4=>by
  have hj:j<p.length:=by omega
  have ha:=h p[j] (lν _);rw[nt,lχ hj];simp only[oS,lβ,ej (show((j:Int)<(p.length:Int)) by omega),aQ,aO,bi,aU hj,bo,Z6,show p[j].r.Fields=p[j].fields.map Fe.e from rfl,show p[j].r.Methods=p[j].methods.map Me.e from rfl,show p[j].r.Name=p[j].name from rfl,hk0,hk1,Ŏ,smA,cT];by_cases hf:20<(p[j].fields.length:Int)
  ·rw[ej hf];rfl
  ·rw[wI hf];by_cases hm:20<(p[j].methods.length:Int)
   ·rw[ej hm];rfl
   ·rw[wI hm];cases aP 100 (p[j].name.length:Int)
    ·simp only[aR,Bool.not_false,Bool.true_and];have hs:=fun kk=>aca (n:=n) p[j] ha (by omega) ⟨p.map Ac.e⟩ t (j:Int) (fun(u19,u20)=>Z) kk
     refine Eq.trans (hs _) ?_;cases p[j].fields.all L_
     ·rfl
     ·have hs2:=fun kk=>aa8 (n:=n) p[j] ha (by omega) ⟨p.map Ac.e⟩ (j:Int) (fun(u60,u61,u62)=>Z) kk Z (fun _=>rfl) p[j].methods.length (n+1) 0 t (by omega) (by have:=ha.me;omega) h0 h4
      simp only[show((0:Nat):Int)=0 from rfl,List.drop_zero]at hs2;simp only[cond_true];refine Eq.trans (hs2 _) ?_;cases hsm:YH p[j].methods t with
      |none=>rfl
      |some t'=>
       obtain⟨g1,g2,_⟩:=zP _ _ _ hsm (fun m hm=>(ha.mm m hm).2.1) h0 h4;simp only[wS (show j<cr by unfold cr;omega)];exact aa9 p h hl k0 k1 k2 Z W hk0 hk1 hk2 e q (j+1) t' (by omega) (by omega) g1 g2
    ·rfl
def YK {n:Nat}(p:List Ac)(hp:p.length<n)(h:∀a∈p,N8 n a):Ω (n+2) 11 [pD p] []=some (pB (uU p),[]):=by
 apply YY (n+1) ⟨p.map Ac.e⟩;unfold NJ uU;simp only[lβ,cT];by_cases hl:20<(p.length:Int)
 ·rw[ej hl];rfl
 ·rw[wI hl];refine(aa9 (n:=n) p h (by omega) _ _ _ (some (pB false,[])) (some (pB true,[])) (fun _=>rfl) (fun _=>rfl) (fun _=>rfl) p.length (n+1) 0 0 (by omega) (by omega) (by omega) (by omega)).trans ?_;rw[List.drop_zero];cases Ŏ p 0<;>rfl
def FW {v:Va}(h:oH v=true):v.I.length<1501/\v.L.length<1501:=by
 unfold oH cT at h;simp only[lγ,bW,lε]at h;omega
def Ye:∀(l:List Ac) (t t':Int),Ŏ l t=some t'->(∀a∈l,∀m∈a.methods,m.nodes.length<1000000000000000)->0<=t->t<=400->∀a∈l,SzA a
 |[],_,_,_,_,_,_,a,ha=>by cases ha
 |x::r,t,t',h,hb,h0,h4,a,ha=>by
  simp only[Ŏ]at h;cases hx:smA x with
  |false=>rw[hx]at h;cases h
  |true=>
   rw[hx]at h;simp only[cond_true]at h;cases hs:YH x.methods t with
   |none=>rw[hs]at h;cases h
   |some t1=>
    rw[hs]at h;obtain⟨g1,g2,g3⟩:=zP _ _ _ hs (hb x (lη ..)) h0 h4;rcases mδ.1 ha with rfl|ha
    ·unfold smA cT at hx;simp only[lγ,Bool.not_eq_true',dJ,lμ,mζ]at hx;obtain⟨q1,q2,_,q4⟩:=hx;refine⟨by omega,by omega,fun f hf=>?_,fun m hm=>?_⟩
     ·have:=q4 f hf;unfold L_ at this;rw[lγ]at this;exact⟨(FW this.2).1,(FW this.2).2⟩
     ·obtain⟨w1,w2,w3⟩:=g3 m hm;refine⟨by omega,by omega,fun y hy=>?_⟩
      have:=mζ.1 w3 y hy;unfold Ē cT at this;simp only[lγ,Bool.not_eq_true',dJ,lμ]at this;exact⟨(FW this.2.2).1,(FW this.2.2).2,by omega⟩
    ·exact Ye r t1 t' h (fun b hb'=>hb b (lρ _ hb')) g1 g2 a ha
def Yg {n:Nat}{p:List Ac}(h:uU p=true)(hb:∀a∈p,N8 n a):Tp p:=by
 unfold uU cT at h;simp only[lγ,Bool.not_eq_true',dJ,lμ]at h;obtain⟨t,ht⟩:=Option.isSome_iff_exists.1 h.2;exact⟨by omega,Ye p 0 t ht (fun a ha m hm=>((hb a ha).mm m hm).2.1) (by omega) (by omega)⟩
def Tg (v:Va):Bool:=!aP 100 (v.s.length:Int)&&(!aP 40 (v.I.length:Int)&&(!aP 40 (v.L.length:Int)&&v.L.all fun t=>!aP 100 (t.length:Int)))
def qf (l:List Va):Bool:=(l.all Tg)&&bw (l.length:Int) 20
def abe (l:List Va){i:Nat}(hi:i<l.length)(k0:R)(k1:LD×Int×Int×Bool->R)(h:l[i].L.length<m)(hb:l[i].L.length<1000000000000):itL (kI (ct lay0.tab m) m k0 k1) m (l.map Va.e,(i:Int),0)=bif(l[i].L.all fun t=>!aP 100 (t.length:Int))then k1 (l.map Va.e,(i:Int),(l[i].L.length:Int),false)else k0:=by
 refine(bp l[i].L (fun q j=>itL (kI _ m _ _) q (l.map Va.e,(i:Int),j)) (fun t=>aP 100 (t.length:Int)) (fun _=>k0) (k1 (l.map Va.e,(i:Int),(l[i].L.length:Int),false)) (fun q j hj=>?_) (fun q=>?_) h).trans ?_
 ·rw[nt];simp only[kI,aO,bi,aU hi,bo,Va.e,pR,show ∀v:Va,v.r.L=v.L.map .str from fun _=>rfl,lβ,ej (show((j:Int)<(l[i].L.length:Int)) by omega),aQ,aU hj,uw,wS (show j<cr by unfold cr;omega)];exact fY _ _ _
 ·rw[nt];simp only[kI,aO,bi,aU hi,bo,Va.e,pR,show ∀v:Va,v.r.L=v.L.map .str from fun _=>rfl,lβ,cH,aR]
 ·rw[lP];cases l[i].L.findIdx? fun t=>aP 100 (t.length:Int)<;>rfl
def Qb (l:List Va)(h:l.length<m)(hv:∀v∈l,v.L.length<m)(hb:l.length<1000000000000/\∀v∈l,v.L.length<1000000000000):Ω (m+1) 12 [pL 5 (l.map Va.e)] []=some (pB (qf l),[]):=by
 apply QQ m (l.map Va.e);unfold Bq;refine(bp l (fun q i=>itL (kH _ m _ _) q (l.map Va.e,i)) (fun v=>!Tg v) (fun _=>some (pB false,[])) (some (pB (bw (l.length:Int) 20),[])) (fun q i hi=>?_) (fun q=>?_) h).trans ?_
 ·have h2:=abe (m:=m) l hi;rw[nt];simp only[kH,lβ,ej (show((i:Int)<(l.length:Int)) by omega),aQ,aO,bi,aU hi,bo,Va.e,pR,show ∀v:Va,v.r.S=v.s from fun _=>rfl,show ∀v:Va,v.r.I.length=v.I.length from fun v=>lβ _,show ∀v:Va,v.r.L.length=v.L.length from fun v=>lβ _];rw[h2 _ _ (hv _ (lν _)) (hb.2 _ (lν _))];unfold Tg;rw[wS (show i<cr by unfold cr;have:=hb.1;omega)];cases aP 100 (l[i].s.length:Int)<;>cases aP 40 (l[i].I.length:Int)<;>cases aP 40 (l[i].L.length:Int)<;>cases(l[i].L.all fun t=>!aP 100 (t.length:Int))<;>rfl
 ·rw[nt];simp only[kH,lβ,cH,aR]
 ·unfold qf;rw[fd];cases l.findIdx? fun v=>!Tg v<;>rfl
def Xb (p:fW):Bool:=qf p.f&&qf [p.r]
def zQ (p:List Ac)(args:List Va)(ip:List fW)(lm:Int):Bool:=uU p&&(qf args&&(!aP 12 (ip.length:Int)&&(!aP 300 lm&&ip.all Xb)))
structure LBI (m:Nat)(args:List Va)(ip:List fW):Prop where
 al:args.length<m
 av:∀v∈args,v.L.length<m
 fl:∀p∈ip,p.f.length<m
 fv:∀p∈ip,∀v∈p.f,v.L.length<m
 rl:∀p∈ip,p.r.L.length<m
def Qa {n:Nat}(p:List Ac)(args:List Va)(ip:List fW)(lm:Int)(hp:p.length<n)(h:∀a∈p,N8 n a)(hi:LBI n args ip)(hn:20<=n)(hb:n<1000000000000):Ω (n+3) 6 [pD p,pL 5 (args.map Va.e),pL 6 (ip.map fW.e),pI lm] []=some (pB (zQ p args ip lm),[]):=by
 apply QP (n+2) ⟨p.map Ac.e⟩ (args.map Va.e) (ip.map fW.e) lm;unfold Bp zQ;show ct lay0.tab (n+2) 11 [pD p] [] _=_;rw[aa (YK (n:=n) p hp h)];have ev:=fun(l:List Va) h1 h2 h3=>aa (Qb (m:=n+1) l h1 h2 h3)
 simp only[bk,aF,aC];rw[ev args (by have:=hi.al;omega) (fun v hv=>by have:=hi.av v hv;omega) ⟨by have:=hi.al;omega,fun v hv=>by have:=hi.av v hv;omega⟩];simp only[bk,aF,aC,lβ];cases uU p
 ·rfl
 cases qf args
 ·rfl
 cases h12:aP 12 (ip.length:Int);rotate_left
 ·rfl
 cases aP 300 lm;rotate_left
 ·rfl
 rw[dJ,lμ]at h12;simp only[Bool.not_true,aR,Bool.not_false,Bool.true_and];refine(bp ip (fun q i=>itL (kG _ (n+2) _ _) q (ip.map fW.e,i)) (fun v=>!Xb v) (fun _=>some (pB false,[])) (some (pB true,[])) (fun q i hi2=>?_) (fun q=>?_) (by omega)).trans ?_
 ·have hm:=lν hi2;rw[nt];simp only[kG,lβ,ej (show((i:Int)<(ip.length:Int)) by omega),aQ,aO,bi,aU hi2,bo,HW];show ct lay0.tab (n+2) 12 [pL 5 (ip[i].f.map Va.e)] [] _=_;rw[ev ip[i].f (by have:=hi.fl _ hm;omega) (fun v hv=>by have:=hi.fv _ hm v hv;omega) ⟨by have:=hi.fl _ hm;omega,fun v hv=>by have:=hi.fv _ hm v hv;omega⟩];simp only[bk,aF,aC];unfold Xb;cases qf ip[i].f
  ·rfl
  ·rw[Bool.not_true,aR];show ct lay0.tab (n+2) 12 [pL 5 ([ip[i].r].map Va.e)] [] _=_;rw[ev [ip[i].r] (by simp;omega) (fun v hv=>by rw[List.mem_singleton.1 hv];have:=hi.rl _ hm;omega) ⟨by simp,fun v hv=>by rw[List.mem_singleton.1 hv];have:=hi.rl _ hm;omega⟩]
   simp only[bk,aF,aC,wS (show i<cr by unfold cr;omega)];cases qf [ip[i].r]<;>rfl
 ·rw[nt];simp only[kG,lβ,cH,aR]
 ·rw[fd];cases ip.findIdx? fun v=>!Xb v<;>rfl
def mu (x:dR)(s:TS):Nat:=(x.ip.length - s.nx)*301+s.rd.toNat
def Ok2 (x:dR)(c:CS)(s s':TS):Prop:=(Rn x c s'/\mu x s'<=mu x s)\/Sp x s'
def L7:∀(l:List Va) (ks:LI),fR l ks=true->KV2 ks l
 |[],[],_=>trivial
 |v::l,k::ks,h=>by
  simp only[fR,qF,lγ,bE,lε]at h;exact⟨fun hk=>by rw[h.1.1];omega,L7 l ks h.2⟩
 |[],_::_,h=>by cases h
 |_::_,[],h=>by cases h
variable {x:dR}
def DS {c:CS}(hp:AC x c){s:TS}(hs:Rn x c s){e:Nat}{y:No}(h1:x.ns[e]?=some y)(h2:fi y.op=true):∃v s',tV x (eF x) s (e:Int)=some (v,s')/\Wk v/\Rs x c s (fun k=>cj c.ki (e:Int)=some k) v s':=
 aaH hp (eF x) s e y hs h1 h2 (by unfold eF;have:=Cj h1;omega)
def Xv {c:CS}(hp:AC x c){s:TS}(hs:Rn x c s){i:Nat}{n:No}(hn:x.ns[i]?=some n)(ha:dq x.ns n 0 fi=true):∃r s',lS (tV x (eF x)) s n.kids []=some (r,s')/\((s'=s/\r.length=n.kids.length/\(∀v∈r,Wk v))\/Sp x s'):=by
 obtain⟨r,s',e1,g⟩:=Xw (x:=x) (c:=c) (ev:=tV x (eF x)) hs.sd n.kids (fun q hq=>by
  obtain⟨e,y,rfl,h2,h3,h4⟩:=pc hp hn ha q hq;exact DS hp hs h3 h4) []
 refine⟨r,s',e1,?_⟩;rcases g with⟨g0,t,h1,h2,h3,_⟩|g
 ·rw[List.nil_append]at h1;subst h1;exact .inl ⟨g0,h2,h3⟩
 ·exact .inr g
def Nx {c:CS}(hp:AC x c){s0 s:TS}(h:Rn x c s){e:Int}(he:e≠0):∃s',pU x s e=some s'/\Ok2 x c s0 s':=by
 obtain⟨s',h1,h2⟩:=Ny hp h he;exact⟨s',h1,.inr h2⟩
def V0 {c:CS}(hp:AC x c){s:TS}(hs:Rn x c s){i:Nat}{n:No}(hn:x.ns[i]?=some n)(h7:n.op=7):∃v s',yN x s (i:Int)=some (v,s')/\Wk v/\((Rn x c s'/\mu x s'<=mu x s/\∀k,cj c.ki (i:Int)=some k->Lk k v)\/Sp x s'):=by
 obtain⟨hkv,_⟩:=hp.kv n (lξ hn);have hv:(eN n 1 17&&dq x.ns n 0 fi)=true:=by unfold eu at hkv;rw[h7]at hkv;exact hkv
 rw[lγ]at hv;have hcl:=f8 hv.1;obtain⟨r,s1,e1,g⟩:=Xv hp hs hn hv.2;unfold yN;rw[cd,hn];simp only[e1];rcases g with⟨rfl,hl,hw⟩|g
 ·rw[hs.sd,cond_false];match r,hl,hw with
  |[],hl,_=>simp only[List.length_nil]at hl;omega
  |a::r,hl,hw=>
   simp only;have h1:=hs.n1;have h2:=hs.n2;have h3:=hs.sg;have hil:=hp.il;simp only[List.length_cons]at hl;cases ha:aP 32 (a.s.length:Int)
   ·rw[cond_false,qJ ⟨hs.fb,hs.eb,by omega,by omega⟩];have so2:∀g∈s1.sg++[(⟨2,v0,n.name,a.s,n.v.s,r,0,s1.fs,s1.es⟩:qr)],g.k=2/\g.er=0:=fun g hg=>by
     rcases mσ.1 hg with hg|hg
     ·exact hs.so g hg
     ·rw[List.mem_singleton.1 hg];exact⟨rfl,rfl⟩
    have sgk:acG (⟨2,v0,n.name,a.s,n.v.s,r,0,s1.fs,s1.es⟩:qr):=⟨acm kf,(show r.length<1501 by omega),fun v hv=>acm (hw v (lρ _ hv)),hs.fz,fun v hv=>acm (hs.fw v hv),(show s1.es.length<1501 by have:=hs.es;omega)⟩
    have gd2:Gd x (s1.sg++[(⟨2,v0,n.name,a.s,n.v.s,r,0,s1.fs,s1.es⟩:qr)]):=D1 (by omega) hs.so hs.sz sgk ⟨fun h=>absurd h (show ¬((2:Int)=3) by decide),fun _=>rfl⟩
    cases hq:az (s1.nx:Int) (x.ip.length:Int)
    ·rw[bE,lμ]at hq;rw[cond_false];have hlt:s1.nx<x.ip.length:=by omega
     have hmem:x.ip[s1.nx]∈x.ip:=lν _;rw[lδ hlt];simp only;cases hf:fR [x.ip[s1.nx].r] [rO x (i:Int)]
     ·exact⟨v0,_,rfl,kf,.inr ⟨rfl,gd2⟩⟩
     ·have hfit:=hf;simp only[fR,qF,lγ,bE,lε]at hfit;have hbg:s1.nx<cr:=by unfold cr;omega
      refine⟨x.ip[s1.nx].r,{s1 with nx:=s1.nx+1,fs:=x.ip[s1.nx].f,es:=[],rd:=x.lm,fb:=false,eb:=false,sd:=false,sg:=s1.sg++[⟨2,v0,n.name,a.s,n.v.s,r,0,s1.fs,s1.es⟩]},?_,hp.ir _ hmem hfit.1.2,.inl ⟨?_,?_,fun k hk=>?_⟩⟩
      ·rw[cond_true];unfold H3;show Option.map _ (gd (s1.nx<cr) ((x.ip[s1.nx]?).map _))=_;rw[qJ hbg,lδ hlt];rfl
      ·exact⟨rfl,by simp,by simp;omega,L7 _ _ (hp.ff _ hmem),hp.fw _ hmem,hs.ll,hs.lw,by simp,hp.lm.1,Int.le_refl _,by simp;omega,so2,rfl,rfl,hp.fz _ hmem,gd2.sz⟩
      ·unfold mu;have hlm:=hp.lm;simp only;have:(x.ip.length - s1.nx)=(x.ip.length - (s1.nx+1))+1:=by omega
       rw[this,mμ];omega
      ·intro h;have:rO x (i:Int)=k:=by unfold rO ï;rw[hp.body];simp only[hk,Option.getD_some]
       rw[hfit.1.1,this];omega
    ·exact⟨v0,_,rfl,kf,.inr ⟨rfl,gd2⟩⟩
   ·rw[cond_true];obtain⟨s',t1,t2⟩:=Ny hp hs (show(5:Int)≠0 by decide);rw[t1];exact⟨v0,s',rfl,kf,.inr t2⟩
 ·rw[g.sd,cond_true];exact⟨v0,s1,rfl,kf,.inr g⟩
def abd {c:CS}(hp:AC x c){s:TS}(hs:Rn x c s){i:Nat}{n:No}(hn:x.ns[i]?=some n)(ho:uK n.op=true):∃v s',H5 x s (i:Int)=some (v,s')/\Wk v/\((Rn x c s'/\mu x s'<=mu x s/\∀k,cj c.ki (i:Int)=some k->Lk k v)\/Sp x s'):=by
 unfold H5;rw[cd,hn];simp only;by_cases h7:n.op=7
 ·rw[h7];exact V0 hp hs hn h7
 ·rw[bE,mε h7,cond_false];have he:fi n.op=true:=by
   unfold uK up at ho;rw[bE,mε h7,Bool.or_false]at ho;exact ho
  obtain⟨v,s',h1,h2,h3⟩:=DS hp hs hn he;refine⟨v,s',h1,h2,?_⟩;rcases h3 with⟨rfl,h3⟩|h3
  ·exact .inl ⟨hs,Nat.le_refl _,h3⟩
  ·exact .inr h3
variable {w:Va}
def aa0 {c:CS}(hp:AC x c){s:TS}(h:Rn x c s){i:Nat}{vr:Vr}(hv:cj c.va (i:Int)=some vr)(hw:Wk w)(hk:Lk vr.kind w):∃s',RR x s (i:Int) w=some s'/\Rn x c s'/\mu x s'=mu x s:=by
 unfold RR;have he:rP x (i:Int)=some vr:=by unfold rP Tf;rw[hp.body];exact hv
 rw[qJ h.fb,he];simp only;rcases hp.sl _ _ hv with⟨hf,f,h1,h2⟩|⟨hf,f,h1,h2⟩
 ·obtain⟨j,e1,e2⟩:=w7 (f:=Fe.kind) h1;obtain⟨v,g1,g2⟩:=h.fl.get e2;rw[hf,cond_true,e1,cd,g1];refine⟨_,rfl,⟨h.sd,h.n1,h.n2,?_,m9 h.fw hw,h.ll,h.lw,h.es,h.r1,h.r2,h.sg,h.so,h.fb,h.eb,by simp only[List.length_set];exact h.fz,h.sz⟩,rfl⟩
  rw[Int.toNat_natCast];exact h.fl.set e2 (by rw[h2];exact hk)
 ·obtain⟨j,e1,e2⟩:=w7 (f:=Pa.kind) h1;obtain⟨v,g1,g2⟩:=h.ll.get e2;rw[hf,cond_false,e1,cd,g1];refine⟨_,rfl,⟨h.sd,h.n1,h.n2,h.fl,h.fw,?_,m9 h.lw hw,h.es,h.r1,h.r2,h.sg,h.so,h.fb,h.eb,h.fz,h.sz⟩,rfl⟩;rw[Int.toNat_natCast];exact h.ll.set e2 (by rw[h2];exact hk)
def ĺ {c:CS}(hp:AC x c){s:TS}(h:Rn x c s){v:Va}(hv:Wk v):∃s',RQ s v=some s'/\Sp x s':=by
 have h1:=h.n1;have h2:=h.n2;have h3:=h.sg;have hil:=hp.il;refine⟨_,by unfold RQ;rw[qJ ⟨h.fb,h.eb,by omega,hv⟩],rfl,?_⟩
 exact D1 (by omega) h.so h.sz ⟨acm hv,by simp,(fun v hv=>by cases hv),h.fz,fun v hv=>acm (h.fw v hv),(show s.es.length<1501 by have:=h.es;omega)⟩ ⟨fun h=>absurd h (show(1:Int)≠3 by decide),fun _=>rfl⟩
variable {q:Int}
def Rk {l:List Va}{c:Nat}(h:(q=1/\2<=l.length)\/(q=2/\3<=l.length)\/(q=3/\1<=l.length)):∃e er,Rj q l c=some (e,er)/\(er=0->c<16):=by
 unfold Rj;have z:∀(c:Nat) (e:Ef),∃e' er,some (e,(5:Int))=some (e',er)/\(er=0->c<16):=fun c e=>⟨e,5,rfl,fun h=>by cases h⟩
 match l,h with
 |[],h=>simp at h
 |a::r,h=>
  simp only;cases h16:bw 16 (c:Int);rotate_left
  ·exact z c F8
  rw[bW,lμ]at h16;have w:∀e:Ef,∃e' er,some (e,(0:Int))=some (e',er)/\(er=0->c<16):=fun e=>⟨e,0,rfl,fun _=>by omega⟩
  cases be a.s [];rotate_left
  ·exact z c F8
  cases aP 32 (a.s.length:Int);rotate_left
  ·exact z c F8
  rcases h with⟨rfl,h⟩|⟨rfl,h⟩|⟨rfl,h⟩
  ·cases r with
   |nil=>simp at h
   |cons b r=>exact w _
  ·cases r with
   |nil=>simp at h
   |cons b r=>
    cases r with
    |nil=>simp at h
    |cons d r=>
     show ∃e er,(bif aP b.n 1 then some (F8,(5:Int))else bif aP 1073741824 b.n then some (F8,5)else bif aP d.n 1 then some (F8,5)else bif aP 1073741824 d.n then some (F8,5)else some (⟨2,a.s,b.n,d.n⟩,0))=some (e,er)/\_;cases aP b.n 1;rotate_left
     ·exact z c F8
     cases aP 1073741824 b.n;rotate_left
     ·exact z c F8
     cases aP d.n 1;rotate_left
     ·exact z c F8
     cases aP 1073741824 d.n;rotate_left
     ·exact z c F8
     exact w _
  ·exact w _
def Vq {c:CS}(hp:AC x c){s:TS}(hs:Rn x c s){i:Nat}{n:No}(hn:x.ns[i]?=some n)(ha:dq x.ns n 0 fi=true)(hq:(q=1/\2<=n.kids.length)\/(q=2/\3<=n.kids.length)\/(q=3/\1<=n.kids.length)):∃s',LX x s n q=some s'/\Ok2 x c s s':=by
 obtain⟨r,s1,e1,g⟩:=Xv hp hs hn ha;unfold LX;simp only[e1];rcases g with⟨rfl,hl,hw⟩|g
 ·have hes:=hs.es;rw[hs.sd,cond_false,qJ (show s1.es.length<1000 by omega)];obtain⟨e,er,h1,h2⟩:=Rk (q:=q) (l:=r) (c:=s1.es.length) (by rw[hl];exact hq);rw[h1];simp only;by_cases he:er=0
  ·subst he;have h3:=h2 rfl;rw[show az 0 0=true from rfl,cond_true,qJ hs.eb];exact⟨_,rfl,.inl ⟨⟨rfl,hs.n1,hs.n2,hs.fl,hs.fw,hs.ll,hs.lw,by simp only[mγ,List.length_singleton];omega,hs.r1,hs.r2,hs.sg,hs.so,hs.fb,hs.eb,hs.fz,hs.sz⟩,Nat.le_refl _⟩⟩
  ·rw[bE,mε he,cond_false];exact Nx hp hs he
 ·rw[g.sd,cond_true];exact⟨s1,rfl,.inr g⟩
def Ok2.trans {c:CS}{a b d:TS}(h:Rn x c b/\mu x b<=mu x a)(g:Ok2 x c b d):Ok2 x c a d:=by
 rcases g with g|g
 ·exact .inl ⟨g.1,mψ g.2 h.2⟩
 ·exact .inr g
variable {f:Nat}
def aba {s:TS}{i:Int}(hf:1<=f)(h:s.sd=true):Ks x f s i=some s:=by
 obtain⟨f,rfl⟩:∃k,f=k+1:=⟨f - 1,by omega⟩
 simp only[Ks,h,cond_true]
def D9 {c:CS}(hp:AC x c){i:Nat}{n:No}(hn:x.ns[i]?=some n)(hq:q∈n.kids):∃(e:Nat) (y:No),q=e/\e<i/\x.ns[e]?=some y/\iT x.ns q=y.op:=by
 have hi:i<x.ns.length:=Cj hn;obtain⟨e,rfl,he⟩:=(hp.ty i (Nat.zero_le _) hi n hn).kb q hq;exact⟨e,x.ns[e],rfl,he,lδ (by omega),by unfold iT;rw[cd,lδ (by omega)];rfl⟩
def Ou {o:Int}(h:Dt o=true):o=18:=by unfold Dt at h;rw[bE,lε]at h;exact h
def ē {o:Int}(h:Bd o=true):8<=o/\o<=18:=by
 unfold Bd at h;rw[lγ,bW,bW,lε,lε]at h;omega
def StT (x:dR)(c:CS)(st:TS->Int->Option TS)(b:Nat):Prop:=∀s i n,Rn x c s->x.ns[i]?=some n->8<=n.op/\n.op<=18->i<b->∃s',st s (i:Int)=some s'/\Ok2 x c s s'
variable {st:TS->Int->Option TS}
def abq {c:CS}(hp:AC x c){i:Nat}{n:No}(hst:StT x c st i)(hn:x.ns[i]?=some n)(hk:Pd x.ns n 3=true){s:TS}(hs:Rn x c s):∃s',eBr x st s n=some s'/\Ok2 x c s s':=by
 unfold Pd at hk;simp only[lγ]at hk;obtain⟨h1,h2,h3⟩:=hk;have hcl:=f8 h1;have self:Ok2 x c s s:= .inl ⟨hs,Nat.le_refl _⟩;unfold eBr;match hkk:n.kids with
 |[]=>rw[hkk]at hcl;simp only[List.length_nil]at hcl;omega
 |a::r=>
  rw[hkk]at h2 hcl;obtain⟨e,y,rfl,he,hy,ho⟩:=D9 hp hn (q:=a) (by rw[hkk];exact lη);simp only[List.headD_cons]at h2;rw[ho]at h2;obtain⟨v,s1,g1,g2,g3⟩:=DS hp hs hy h2;simp only[g1];have VD:∀q∈r,∃s',st s q=some s'/\Ok2 x c s s':=fun q hq=>by
   obtain⟨e2,y2,rfl,he2,hy2,ho2⟩:=D9 hp hn (q:=q) (by rw[hkk];exact lρ _ hq);unfold dq at h3;rw[hkk,List.drop_succ_cons,List.drop_zero,mζ]at h3;have:=Ou (h3 _ hq);rw[ho2]at this;exact hst s e2 y2 hs hy2 (by omega) he2
  rcases g3 with⟨rfl,_⟩|g3
  ·rw[hs.sd,cond_false];cases az v.n 1
   ·rw[cond_false];match r,VD with
    |[_,d],VD=>exact VD d (lρ _ lη)
    |[],_=>exact⟨_,rfl,self⟩
    |[_],_=>exact⟨_,rfl,self⟩
    |_::_::_::_,_=>exact⟨_,rfl,self⟩
   ·rw[cond_true];match r,VD,hcl with
    |b::_,VD,_=>exact VD b lη
    |[],_,hcl=>simp only[List.length_cons,List.length_nil]at hcl;omega
  ·rw[g3.sd,cond_true];exact⟨s1,rfl,.inr g3⟩
def aaj {α:Type}{b:Bool}(h:b=false)(x y:α):(bif b then x else y)=y:=by subst h;rfl
def XB {n:No}{q:Nat}{s:TS}(h:s.sd=false):pT x st n (q+1) s=bif az s.rd 0 then pU x s 17 else match n.kids with
  |a::r=>gd (0<=s.rd/\s.rd<1000000)<|(match tV x (eF x) {s with rd:=s.rd - 1} a with
   |none=>none
   |some (v,s')=>bif s'.sd||az v.n 0 then some s' else match r with
    |b::_=>(match st s' b with
     |none=>none
     |some s''=>pT x st n q s'')
    |[]=>none)
  |[]=>none:=by
 simp only[pT];exact aaj h _ _
def XC {x:dR}{c:CS}(hp:AC x c){st:TS->Int->Option TS}{i:Nat}{n:No}(hst:StT x c st i)(hn:x.ns[i]?=some n)(hk:Pd x.ns n 2=true):∀(q:Nat) (s:TS),Rn x c s->mu x s+2<=q->∃s',pT x st n q s=some s'/\Ok2 x c s s'
 |0,_,_,h=>by omega
 |q+1,s,hs,hq=>by
  have hk':=hk;unfold Pd at hk';simp only[lγ]at hk';obtain⟨h1,h2,h3⟩:=hk';have hcl:=f8 h1;have hr1:=hs.r1;have hr2:=hs.r2;have hlm:=hp.lm;rw[XB hs.sd];by_cases hr:s.rd=0
  ·rw[hr];exact Nx hp hs (show(17:Int)≠0 by decide)
  rw[bE,mε hr,cond_false];match hkk:n.kids with
  |[]=>rw[hkk]at hcl;simp only[List.length_nil]at hcl;omega
  |[_]=>rw[hkk]at hcl;simp only[List.length_cons,List.length_nil]at hcl;omega
  |a::b::r=>
   rw[hkk]at h2 hcl;simp only;rw[qJ (show 0<=s.rd/\s.rd<1000000 by omega)];obtain⟨e,y,rfl,he,hy,ho⟩:=D9 hp hn (q:=a) (by rw[hkk];exact lη);simp only[List.headD_cons]at h2;rw[ho]at h2;have hs2:Rn x c {s with rd:=s.rd - 1}:=⟨hs.sd,hs.n1,hs.n2,hs.fl,hs.fw,hs.ll,hs.lw,hs.es,by simp only;omega,by simp only;omega,hs.sg,hs.so,hs.fb,hs.eb,hs.fz,hs.sz⟩
   have hmu:mu x {s with rd:=s.rd - 1}+1=mu x s:=by unfold mu;simp only;omega
   obtain⟨v,s1,g1,g2,g3⟩:=DS hp hs2 hy h2;rw[g1];simp only;rcases g3 with⟨rfl,_⟩|g3
   ·rw[show(({s with rd:=s.rd - 1}:TS).sd||az v.n 0)=az v.n 0 by rw[hs2.sd,Bool.false_or]];cases az v.n 0
    ·rw[cond_false];obtain⟨e2,y2,rfl,he2,hy2,ho2⟩:=D9 hp hn (q:=b) (by rw[hkk];exact lρ _ lη);unfold dq at h3;rw[hkk,List.drop_succ_cons,List.drop_zero,mζ]at h3;have hb:=Ou (h3 _ lη);rw[ho2]at hb;obtain⟨s2,k1,k2⟩:=hst _ e2 y2 hs2 hy2 (by omega) he2;rw[k1];simp only;rcases k2 with k2|k2
     ·obtain⟨s3,m1,m2⟩:=XC hp hst hn hk q s2 k2.1 (by omega);exact⟨s3,m1,m2.trans ⟨k2.1,by omega⟩⟩
     ·refine⟨s2,?_,.inr k2⟩;obtain⟨q,rfl⟩:∃k,q=k+1:=⟨q - 1,by omega⟩
      simp only[pT,k2.sd,cond_true]
    ·exact⟨_,rfl,.inl ⟨hs2,by omega⟩⟩
   ·rw[g3.sd,Bool.true_or,cond_true];exact⟨s1,rfl,.inr g3⟩
def Į {x:dR}{c:CS}{f i:Nat}(hst:StT x c (Ks x f) i):∀(l:LI) (s:TS),Rn x c s->(∀q∈l,∃(e:Nat) (y:No),q=e/\e<i/\e<f/\x.ns[e]?=some y/\8<=y.op/\y.op<=18)->∃s',AP (Ks x f) l s=some s'/\Ok2 x c s s'
 |[],s,hs,_=>⟨s,rfl,.inl ⟨hs,Nat.le_refl _⟩⟩
 |q::l,s,hs,h=>by
  obtain⟨e,y,rfl,h1,h2,h3,h4⟩:=h q lη;obtain⟨s1,e1,g1⟩:=hst s e y hs h3 h4 h1;simp only[AP,e1];rcases g1 with g1|g1
  ·obtain⟨s2,e2,g2⟩:=Į hst l s1 g1.1 (fun q hq=>h q (lρ _ hq));exact⟨s2,e2,g2.trans g1⟩
  ·refine⟨s1,?_,.inr g1⟩;have:∀l:LI,AP (Ks x f) l s1=some s1:=by
    intro l;induction l with
    |nil=>rfl
    |cons q l ih=>simp only[AP,aba (show 1<=f by omega) g1.sd,ih]
   exact this l
def ī {c:CS}(hp:AC x c){s:TS}(hs:Rn x c s){i:Nat}{n:No}(hn:x.ns[i]?=some n)(ho:n.op=8\/n.op=9):∃s',(match n.kids with
    |a::_=>(match H5 x s a with
     |none=>none
     |some (v,s')=>bif s'.sd then some s' else RR x s' (i:Int) v)
    |[]=>none)=some s'/\Ok2 x c s s':=by
 obtain⟨hkv,_⟩:=hp.kv n (lξ hn);have hv:(eN n 1 1&&dq x.ns n 0 uK)=true:=by rcases ho with ho|ho<;>(unfold eu at hkv;rw[ho]at hkv;exact hkv)
 rw[lγ]at hv;obtain⟨vr,q,r,h1,h2,h3⟩:=(hp.ty i (Nat.zero_le _) (Cj hn) n hn).k8 ho;rw[h2];simp only;obtain⟨e,y,rfl,he,hy,hl⟩:=pc hp hn hv.2 q (by rw[h2];exact lη);obtain⟨v,s1,g1,g2,g3⟩:=abd hp hs hy hl;rw[g1];simp only;rcases g3 with⟨g3,g4,g5⟩|g3
 ·rw[g3.sd,cond_false];obtain⟨s2,k1,k2,k3⟩:=aa0 hp g3 h1 g2 (g5 _ h3);exact⟨s2,k1,.inl ⟨k2,by omega⟩⟩
 ·rw[g3.sd,cond_true];exact⟨s1,rfl,.inr g3⟩
def abb {x:dR}{c:CS}(hp:AC x c)(hk:∀n∈x.ns,n.kids.length<1501):∀f:Nat,StT x c (Ks x f) f
 |0,_,_,_,_,_,_,h=>by omega
 |f+1,s,i,n,hs,hn,ho,hf=>by
  have ih:StT x c (Ks x f) i:=fun s j y h1 h2 h3 h4=>abb hp hk f s j y h1 h2 h3 (by omega)
  have hnm:=lξ hn;obtain⟨hkv,_⟩:=hp.kv n hnm;simp only[Ks,hs.sd,cond_false,cd,hn];have hop:n.op=8\/n.op=9\/n.op=10\/n.op=11\/n.op=12\/n.op=13\/n.op=14\/n.op=15\/n.op=16\/n.op=17\/n.op=18:=by omega
  rcases hop with h|h|h|h|h|h|h|h|h|h|h
  ·rw[h];exact ī hp hs hn (.inl h)
  ·rw[h];exact ī hp hs hn (.inr h)
  ·have hv:(eN n 1 1&&dq x.ns n 0 up)=true:=by unfold eu at hkv;rw[h]at hkv;exact hkv
   rw[lγ]at hv;have hcl:=f8 hv.1;rw[h];match hkk:n.kids with
   |[]=>rw[hkk]at hcl;simp only[List.length_nil]at hcl;omega
   |a::r=>
    obtain⟨e,y,rfl,he,hy,hl⟩:=pc hp hn hv.2 a (by rw[hkk];exact lη);have h7:y.op=7:=by unfold up at hl;rw[bE,lε]at hl;exact hl
    obtain⟨v,s1,g1,g2,g3⟩:=V0 hp hs hy h7;show ∃s',(yN x s (e:Int)).map (·.2)=some s'/\_;rw[g1];refine⟨s1,rfl,?_⟩;rcases g3 with⟨g3,g4,_⟩|g3
    ·exact .inl ⟨g3,g4⟩
    ·exact .inr g3
  ·have hv:Pd x.ns n 3=true:=by unfold eu at hkv;rw[h]at hkv;exact hkv
   rw[h];exact abq hp ih hn hv hs
  ·have hv:Pd x.ns n 2=true:=by unfold eu at hkv;rw[h]at hkv;exact hkv
   rw[h];refine XC hp ih hn hv eQ s hs ?_;have h1:=hp.il;have h2:=hs.r2;have h3:=hp.lm;have h4:=hs.n1;have h5:=hs.r1;unfold mu eQ;have:(x.ip.length - s.nx)*301<=12*301:=lω _ (by omega);omega
  ·have hv:(eN n 0 1&&dq x.ns n 0 fi)=true:=by unfold eu at hkv;rw[h]at hkv;exact hkv
   rw[lγ]at hv;have hcl:=f8 hv.1;obtain⟨r,s1,e1,g⟩:=Xv hp hs hn hv.2;rw[h];show ∃s',(match lS (tV x (eF x)) s n.kids []with
    |none=>none
    |some (l,s1)=>bif s1.sd then some s1 else gd (l.length<1000) (RQ s1 (l.headD v0)))=some s'/\_
   simp only[e1];rcases g with⟨rfl,hl,hw⟩|g
   ·have hwv:Wk (r.headD v0):=by
     cases r with
     |nil=>exact kf
     |cons a t=>exact hw a lη
    obtain⟨s2,k1,k2⟩:=ĺ hp hs hwv;rw[hs.sd,cond_false,qJ (show r.length<1000 by omega)];exact⟨s2,k1,.inr k2⟩
   ·rw[g.sd,cond_true];exact⟨s1,rfl,.inr g⟩
  ·rw[h];exact Nx hp hs (show(26:Int)≠0 by decide)
  ·have hv:(eN n 2 2&&dq x.ns n 0 fi)=true:=by unfold eu at hkv;rw[h]at hkv;exact hkv
   rw[lγ]at hv;have hcl:=f8 hv.1;rw[h];exact Vq hp hs hn hv.2 (.inl ⟨rfl,by omega⟩)
  ·have hv:(eN n 3 3&&dq x.ns n 0 fi)=true:=by unfold eu at hkv;rw[h]at hkv;exact hkv
   rw[lγ]at hv;have hcl:=f8 hv.1;rw[h];exact Vq hp hs hn hv.2 (.inr (.inl ⟨rfl,by omega⟩))
  ·have hv:(eN n 1 1&&dq x.ns n 0 fi)=true:=by unfold eu at hkv;rw[h]at hkv;exact hkv
   rw[lγ]at hv;have hcl:=f8 hv.1;rw[h];exact Vq hp hs hn hv.2 (.inr (.inr ⟨rfl,by omega⟩))
  ·have hv:dq x.ns n 0 Bd=true:=by unfold eu at hkv;rw[h]at hkv;exact hkv
   rw[h];show ∃s',gd (n.kids.length<1501) (AP (Ks x f) n.kids s)=some s'/\_;rw[qJ (hk n hnm)];refine Į ih n.kids s hs fun q hq=>?_
   obtain⟨e,y,h1,h2,h3,h4⟩:=pc hp hn hv q hq;exact⟨e,y,h1,h2,by omega,h3,ē h4⟩
def XI {f:Nat}{p:List Ac}{fs:List (LN×Vr)}{i:Nat}{all:List Me}:∀(r:List Me) (j:Nat) (acc:List CS) (a b d e:Int),nC f p fs i all r j acc=some (.inl (.bad a b d e))->e≠0
 |[],_,_,_,_,_,_,h=>by simp[nC]at h
 |m::r,j,acc,a,b,d,e,h=>by
  simp only[nC]at h;split at h
  ·simp only[lα,Sum.inl.injEq,An.bad.injEq]at h;omega
  ·split at h
   ·cases h
   ·simp only[lα,Sum.inl.injEq,An.bad.injEq]at h;omega
   ·split at h
    ·exact XI r (j+1) _ a b d e h
    ·rename_i hz;simp only[lα,Sum.inl.injEq,An.bad.injEq]at h;rw[<-h.2.2.2];exact hz
def Yq {f:Nat}{p:List Ac}:∀(r:List Ac) (j:Nat) (acc:List (List CS)) (a b d e:Int),ni f p r j acc=some (.bad a b d e)->e≠0
 |[],_,_,_,_,_,_,h=>by simp[ni]at h
 |m::r,j,acc,a,b,d,e,h=>by
  simp only[ni]at h;split at h
  ·simp only[lα,An.bad.injEq]at h;omega
  ·split at h
   ·simp only[lα,An.bad.injEq]at h;omega
   ·split at h
    ·cases h
    ·rename_i e1 hm;simp only[lα]at h;subst h;exact XI _ _ _ _ _ _ _ hm
    ·exact Yq r (j+1) _ a b d e h
def aag {p:List Ac}{a b d e:Int}(h:Oo p= .bad a b d e):e≠0:=by
 unfold Oo at h;cases hv:je p with
 |false=>rw[hv]at h;simp only[cond_false,An.bad.injEq]at h;omega
 |true=>
  rw[hv,cond_true]at h;cases ht:ni 1501 p p 0 []with
  |none=>rw[ht]at h;simp only[Option.getD_none,An.bad.injEq]at h;omega
  |some o=>rw[ht,Option.getD_some]at h;subst h;exact Yq _ _ _ _ _ _ _ ht
def X0:∀(l:List Pa) (c c':CS),mc c l=some (some c')->c'.lo=c.lo++l
 |[],c,c',h=>by
  simp only[mc,lα]at h;rw[<-h,mξ]
 |p::l,c,c',h=>by
  simp only[mc]at h;split at h
  ·cases h
  ·split at h
   ·cases h
   ·rename_i c1 hd;have:=X0 l c1 c' h;unfold jU at hd;split at hd
    ·simp only[lα]at hd;rw[this,<-hd];simp
    ·cases hd
def RH {pr:List Ac}{fs:List (LN×Vr)}{m:Me}{c:CS}(h:eX f pr fs m=some (some c))(h0:c.er=0)(hb:lu m.nodes):Qr m.params c.lo:=by
 unfold eX at h;cases hp:mc (CS.init pr fs m) m.params with
 |none=>rw[hp]at h;cases h
 |some o=>
  cases o with
  |none=>rw[hp]at h;cases h
  |some c1=>
   rw[hp]at h;simp only at h;obtain⟨k,hs,hk⟩:=hb.tree;have he:((m.nodes.length:Int) - 1)=(k:Int):=by omega
   rw[he]at h;cases hv:eE f c1 (k:Int) false with
   |none=>rw[hv]at h;cases h
   |some r=>
    obtain⟨y,c2⟩:=r;rw[hv]at h;simp only[lα]at h;subst h;have hst:=j5 _ _ hp;have h1:nS m.nodes c1 0:=Fh _ _ _ hp ⟨fun s v hv=>by simp[CS.init,fS]at hv,fun i v hv=>by simp[CS.init,cj]at hv⟩
    obtain⟨_,a2,_⟩:=xD hb.lets f 0 k hs c1 false y c2 hst.ns hv h0 h1;have:=X0 _ _ _ hp;simp[CS.init]at this;rw[<-this];exact a2.lo
def Ň:∀lo:List Pa,KV2 (lo.map Pa.kind) (List.replicate lo.length v0)
 |[]=>trivial
 |_::lo=>⟨fun _=>show(0:Int)≠3 by decide,Ň lo⟩
def Pi:∀(ps lo:List Pa) (args:List Va),fR args (ps.map Pa.kind)=true->Qr ps lo->args.length<=lo.length/\KV2 (lo.map Pa.kind) (args++List.replicate (lo.length - args.length) v0)
 |[],lo,[],_,_=>⟨Nat.zero_le _,Ň lo⟩
 |[],_,_::_,h,_=>by cases h
 |_::_,_,[],h,_=>by cases h
 |p::ps,lo,v::args,h,g=>by
  have h0:=g 0 p rfl;match lo,h0,g with
  |q::lo,h0,g=>
   simp only[List.getElem?_cons_zero,lα]at h0;subst h0;simp only[List.map_cons,fR,qF,lγ,bE,lε]at h;obtain⟨a,b⟩:=Pi ps lo args h.2 (fun j y hy=>g (j+1) y hy);refine⟨by simp only[List.length_cons];omega,?_⟩
   rw[List.length_cons,List.length_cons,Nat.add_sub_add_right];exact⟨fun hk=>by rw[h.1.1];omega,b⟩
structure Rng (p:List Ac)(args:List Va)(ip:List fW):Prop where
 pn:∀a∈p,∀m∈a.methods,∀n∈m.nodes,ji n.v.n
 aw:∀v∈args,kg v=true->Wk v
variable {m:LN}
def h_ {p:List Ac}{t:LN}{ti mi:Int}(h:IX p t m=some (ti,mi)):∃a me,dL p ti=some a/\dL a.methods mi=some me:=by
 unfold IX at h;cases h1:aP (wH p t) 0 with
 |true=>rw[h1]at h;cases h
 |false=>
  rw[h1,cond_false]at h;obtain⟨a,ha⟩:=Po p t h1;rw[ha]at h;simp only at h;cases h2:bw 0 (EF a.methods m)with
  |false=>rw[h2]at h;cases h
  |true=>
   rw[h2,cond_true]at h;cases h;unfold EF at h2 ⊢
   cases hf:a.methods.findIdx? fun x=>be x.name m with
   |none=>rw[hf]at h2;cases h2
   |some j=>
    have hj:j<a.methods.length:=(mθ.1 hf).1;exact⟨a,a.methods[j],ha,aU hj⟩
variable {args:List Va} {ip:List fW} {key:LN} {lm:Int}
def x_ {p:List Ac}(hp:Tp p){bs:List (List CS)}(ha:Oo p= .good bs){ti mi:Int}{a:Ac}{me:Me}(h1:dL p ti=some a)(h2:dL a.methods mi=some me)(hk:key.length<=64)(hr:Hs args ip)(hg:Rng p args ip)(hil:ip.length<=12)(hv:uW a ip=true)(hlm:0<=lm/\lm<=300):∃c,AC ⟨p,bs,a,ti,mi,me.nodes,key,ip,lm⟩ c/\Qr me.params c.lo/\jj me.nodes=true/\cU bs ti mi=some c:=by
 obtain⟨hvd,ht⟩:=Oq ha;have hvb:∀a∈p,∀m∈a.methods,jj m.nodes=true:=fun a ha m hm=>by
  unfold je at hvd;rw[lγ]at hvd;obtain⟨t,ht⟩:=Option.isSome_iff_exists.1 hvd.2;exact((Nz p 0 t ht a ha).2 m hm).1
 have hbo:∀a∈p,∀m∈a.methods,lu m.nodes:=fun a ha m hm=>Oy (hvb a ha m hm)
 obtain⟨tn,rfl,g1⟩:=mY h1;obtain⟨mn,rfl,g2⟩:=mY h2;have hap:=lξ g1;have hmp:=lξ g2;obtain⟨l',k1,k2,k3⟩:=tP p 0 [] bs ht;simp only[List.nil_append]at k1;subst k1;have htn:tn<bs.length:=by rw[k2];exact(List.getElem?_eq_some_iff.1 g1).1
 obtain⟨a',fs,b1,b2,b3,b4⟩:=k3 tn bs[tn] (lδ htn);rw[g1]at b1;obtain rfl:=Option.some.inj b1;have hmn:mn<bs[tn].length:=by rw[b3];exact(List.getElem?_eq_some_iff.1 g2).1
 obtain⟨me',c1,c2,c3⟩:=b4 mn bs[tn][mn] (lδ hmn);rw[g2]at c1;obtain rfl:=Option.some.inj c1;have hb:=hbo a hap me hmp;have hbv:=hvb a hap me hmp;have hbody:cU bs (tn:Int) (mn:Int)=some bs[tn][mn]:=by unfold cU;rw[aU htn];exact aU hmn
 have hkv:∀n∈me.nodes,eu me.nodes n=true/\pQ n=true:=fun n hn=>by
  have:=hbv;unfold jj at this;simp only[lγ,mζ]at this;exact this.2.2.1 n hn
 have hb6:∀x∈me.nodes,x.op=6\/x.op=8\/x.op=9->∀k∈x.kids,∀y,dL me.nodes k=some y->y.op<=7:=by
  intro n hn ho k hk y hy;have hq:=(hkv n hn).1;rcases ho with ho|ho|ho
  ·have hv:(eN n 0 16&&dq me.nodes n 0 fi)=true:=by unfold eu at hq;rw[ho]at hq;exact hq
   rw[lγ]at hv;unfold dq at hv;rw[List.drop_zero,mζ]at hv;have:=hv.2 k hk;unfold iT at this;rw[hy]at this;have:=WT this;simp only[Option.map_some,Option.getD_some]at this;omega
  ·exact hb.lets n hn (.inl ho) k hk y hy
  ·exact hb.lets n hn (.inr ho) k hk y hy
 refine⟨bs[tn][mn],⟨hbody,Z3 c2 c3 hb.tree hb6,hkv,hg.pn a hap me hmp,fun n v hn=>?_,hk,hil,fun q hq=>F2 hv q hq,fun q hq v hvv=>hr.fw q hq v hvv (rX _ _ (F2 hv q hq) v hvv),hr.wr,hr.fl,hlm⟩,RH c2 c3 hb,hbv,hbody⟩
 obtain⟨a2,me2,x,s1,s2,s3,s4,_⟩:=Yd hbo ht hbody hn;rw[h1]at s1;obtain rfl:=Option.some.inj s1;rcases s4 with⟨f1,f,f2,_,f3⟩|⟨f1,f,f2,_,f3⟩
 ·exact .inl ⟨f1,f,f2,f3⟩
 ·exact .inr ⟨f1,f,f2,f3⟩
def Rq {ns:List No}(h:jj ns=true):∃(i:Nat) (n:No),i+1=ns.length/\ns[i]?=some n/\n.op=18:=by
 unfold jj at h;simp only[lγ,bE,lε]at h;obtain⟨_,h,_⟩:=h;unfold iT at h;rw[cd]at h;cases hn:ns[ns.length - 1]? with
 |none=>rw[hn]at h;simp at h
 |some n=>
  rw[hn]at h;have:=(List.getElem?_eq_some_iff.1 hn).1;exact⟨ns.length - 1,n,by omega,hn,h⟩
variable {ls:List Va}
def aai {c:CS}(hp:AC x c)(hl:KV2 (c.lo.map Pa.kind) ls)(hw:∀v∈ls,Wk v)(hi:x.ip≠[]):∃s,H3 x (Ő ls)=some s/\Rn x c s/\s.nx=1:=by
 have h0:0<x.ip.length:=List.length_pos_iff.2 hi;have hmem:x.ip[0]∈x.ip:=lν _;refine⟨_,by unfold H3;rw[qJ (show(Ő ls).nx<cr from(by decide:0<1000000000000)),show x.ip[(Ő ls).nx]?=some x.ip[0]from lδ h0];rfl,?_,rfl⟩
 exact⟨rfl,Nat.le_refl _,h0,L7 _ _ (hp.ff _ hmem),hp.fw _ hmem,hl,hw,by simp,hp.lm.1,Int.le_refl _,rfl,(fun g hg=>by cases hg),rfl,rfl,hp.fz _ hmem,(fun g hg=>by cases hg)⟩
def R_ {c:CS}(hp:AC x c)(hk:∀n∈x.ns,n.kids.length<1501)(hb:jj x.ns=true)(hl:KV2 (c.lo.map Pa.kind) ls)(hw:∀v∈ls,Wk v)(hi:x.ip≠[]):∃sg,H4 x ls=some sg/\Gd x sg:=by
 obtain⟨s1,e1,r1,_⟩:=aai hp hl hw hi;obtain⟨i,n,h1,h2,h3⟩:=Rq hb;obtain⟨s2,e2,g2⟩:=abb hp hk (eF x) s1 i n r1 h2 (by omega) (by unfold eF;omega);unfold H4;rw[e1];simp only;rw[show((x.ns.length:Int) - 1)=(i:Int) by omega,e2];simp only;rcases g2 with⟨g2,_⟩|g2
 ·obtain⟨s3,e3,g3⟩:=ĺ hp g2 kf;rw[g2.sd,cond_false,e3];exact⟨s3.sg,rfl,g3.gd⟩
 ·rw[g2.sd,cond_true];exact⟨s2.sg,rfl,g2.gd⟩
def ÿ {n:Nat}{v:Va}(h:v∈List.replicate n v0):v=v0:=(List.mem_replicate.1 h).2
def aa7 {p:List Ac}(hp:Tp p)(t m key:LN)(hr:Hs args ip)(hg:Rng p args ip)(hil:ip.length<=12)(hlm:lm<=300):
  ∃r,Z9 p t m key args ip lm=some r/\(r.2≠0->r.1=[])/\(r.2=0->∃x:dR,x.ip=ip/\Gd x r.1):=by
 unfold Z9;cases ha:Oo p with
 |bad a b c e=>
  have he:=aag ha;simp only;rw[bE,mε he,cond_false];exact⟨_,rfl,fun _=>rfl,fun h=>absurd h he⟩
 |good bs=>
  simp only;cases hl:IX p t m with
  |none=>exact⟨_,rfl,fun _=>rfl,fun h=>absurd h (show ¬((14:Int)=0) by decide)⟩
  |some z=>
  obtain⟨ti,mi⟩:=z;obtain⟨a,me,h1,h2⟩:=h_ hl;simp only;rw[h1];simp only;rw[h2];simp only;cases hf:fR args (me.params.map Pa.kind)with
  |false=>exact⟨_,rfl,fun _=>rfl,fun h=>absurd h (show ¬((15:Int)=0) by decide)⟩
  |true=>
  rw[cond_true];cases hc:aP 32 (key.length:Int)||(!uW a ip||(aP lm 0||aP 20000 lm))with
  |true=>exact⟨_,rfl,fun _=>rfl,fun h=>absurd h (show ¬((1:Int)=0) by decide)⟩
  |false=>
  rw[cond_false];simp only[qβ,Bool.not_eq_false',dJ,lμ]at hc;obtain⟨hc1,hc2,hc3,_⟩:=hc;obtain⟨c,hpg,hgr,hbv,hbody⟩:=x_ (key:=key) (lm:=lm) hp ha h1 h2 (by omega) hr hg hil hc2 ⟨by omega,hlm⟩
  obtain⟨k1,k2⟩:=Pi me.params c.lo args hf hgr;have hlo:ED (cU bs ti mi)=c.lo:=by rw[hbody];rfl
  rw[hlo,qJ k1];obtain⟨j,hj,_,e2⟩:=dV h1;have hap:a∈p:=by rw[<-e2];exact lν _
  obtain⟨k,hk,_,e3⟩:=dV h2;have hmp:me∈a.methods:=by rw[<-e3];exact lν _
  have hne:ip≠[]:=by
   intro he;rw[he]at hc2;cases hc2
  obtain⟨sg,g1,g2⟩:=R_ hpg (fun nd hnd=>by have:=(((hp.ac a hap).mm me hmp).nx nd hnd).ks;omega) hbv k2 (fun v hv=>by
   rcases mσ.1 hv with hv|hv
   ·exact hg.aw v hv (rX _ _ hf v hv)
   ·rw[ÿ hv];exact kf) hne
  rw[g1];exact⟨_,rfl,fun h=>absurd rfl h,fun _=>⟨_,rfl,g2⟩⟩
structure Arg (n:Nat)(p:List Ac)(args:List Va)(ip:List fW):Prop where
 pl:p.length<n
 pa:∀a∈p,N8 n a
 li:LBI n args ip
 pr:∀a∈p,∀m∈a.methods,∀x∈m.nodes,ji x.v.n
 ar:∀v∈args,ji v.n/\∀i∈v.I,ji i
 fr:∀p∈ip,∀v∈p.f,ji v.n/\∀i∈v.I,ji i
 rr:∀p∈ip,ji p.r.n/\∀i∈p.r.I,ji i
def Yw {v:Va}(h:Tg v=true):v.I.length<1501/\v.L.length<1501:=by
 unfold Tg at h;simp only[lγ,Bool.not_eq_true',dJ,lμ]at h;omega
def Aj {l:List Va}(h:qf l=true):l.length<=20/\∀v∈l,v.I.length<1501/\v.L.length<1501:=by
 unfold qf at h;rw[lγ,mζ,bW,lε]at h;exact⟨by omega,fun v hv=>Yw (h.1 v hv)⟩
structure Sm (p:List Ac)(args:List Va)(ip:List fW)(lm:Int):Prop where
 sz:Tp p
 ro:Hs args ip
 rg:Rng p args ip
 il:ip.length<=12
 lm:lm<=300
 fv:∀p∈ip,∀v∈p.f,v.I.length<1501/\v.L.length<1501
 rv:∀p∈ip,p.r.I.length<1501/\p.r.L.length<1501
def Yf {n:Nat}{p:List Ac}(ha:Arg n p args ip)(h:zQ p args ip lm=true):Sm p args ip lm:=by
 unfold zQ at h;simp only[lγ,Bool.not_eq_true',dJ,lμ,mζ]at h;obtain⟨h1,h2,h3,h4,h5⟩:=h;obtain⟨a1,a2⟩:=Aj h2;have hi:∀p∈ip,(p.f.length<=20/\∀v∈p.f,v.I.length<1501/\v.L.length<1501)/\(p.r.I.length<1501/\p.r.L.length<1501):=fun p hp=>by
  have:=h5 p hp;unfold Xb at this;rw[lγ]at this;exact⟨Aj this.1,(Aj this.2).2 p.r lη⟩
 exact⟨Yg h1 ha.pa,⟨by omega,a2,by omega,fun p hp=>by have:=(hi p hp).1.1;omega,fun p hp v hv hval=>F1 hval (ha.fr p hp v hv).1 (ha.fr p hp v hv).2,fun p hp hval=>F1 hval (ha.rr p hp).1 (ha.rr p hp).2⟩,⟨ha.pr,fun v hv hval=>F1 hval (ha.ar v hv).1 (ha.ar v hv).2⟩,by omega,by omega,fun p hp=>(hi p hp).1.2,fun p hp=>(hi p hp).2⟩
variable {x:Da}
def Wp {P:Program}{t e z:Nat}{C:TypeId->LD->Prop}(h:lW P t e z=true)(hc:gY P C t x):C t [x]:=by
 unfold lW at h;unfold gY at hc;split at h
 ·rename_i hu;have:ik P t=false:=by unfold ik;rw[hu]
  rw[this]at hc;exact hc
 ·cases h
def Ł:nr prog0 50 [25,38]=true:=by kernel_rfl
def Xh:lW prog0 25 38 5=true:=by kernel_rfl
def adi:y8 prog0 .u8 5=true:=by kernel_rfl
def Xf:lW prog0 26 50 6=true:=by kernel_rfl
def Xa {i:Int}(h:(Lit.int .i64 i).wf=true):ji i:=by
 simp only[Lit.wf,lγ,lε]at h;have h1:IntKind.i64.min= -9223372036854775808:=rfl;have h2:IntKind.i64.max=9223372036854775807:=rfl;rw[h1,h2]at h;exact⟨by omega,by omega⟩
variable {xs:LD}
def Z5 {n:Nat}(h:CT (n+2) 35 xs):∃l:LI,xs=[.slice 1 (l.map iE)]/\∀i∈l,ji i:=by
 obtain⟨es,rfl,h1,h2⟩:=qe aaQ h;obtain⟨l,rfl,hl⟩:=fE (f:=iE) (Q:=ji) (es:=es) fun x hx=>by
  obtain⟨i,e,hw⟩:=nh Tx (DF Tx (h2 x hx));simp only[lτ,and_true]at e;exact⟨i,e,Xa hw⟩
 exact⟨l,rfl,hl⟩
structure Ħ (v:Va):Prop where
 b:YD 1048577 v
 n:ji v.n
 i:∀x∈v.I,ji x
def OC {n:Nat}(h:CT (n+3) 38 xs):∃v:Va,xs=v.c/\Ħ v:=by
 obtain⟨_,_,rfl,h1,_,_,rfl,h2,_,_,rfl,h3,_,_,rfl,h4,_,_,rfl,h5,rfl⟩:=wj Ņ h;obtain⟨k,rfl,_⟩:=nh Tx h1;obtain⟨m,rfl,hm⟩:=nh Tx h2;obtain⟨s,rfl⟩:=qZ YF h3;obtain⟨I,rfl,hI⟩:=Z5 h4;obtain⟨L,rfl,hL⟩:=ſ h5;exact⟨⟨k,m,s,I,L⟩,rfl,⟨by show L.length<_;omega,by show L.length<_;omega⟩,Xa hm,hI⟩
def aaD {n:Nat}(h:DT (n+3) 38 x):∃v:Va,x=v.e/\Ħ v:=by
 obtain⟨cs,rfl,g⟩:=oc Ņ h;obtain⟨v,rfl,hv⟩:=OC g;exact⟨v,rfl,hv⟩
def VP {n:Nat}(h:CT (n+4) 25 xs):∃l:List Va,xs=[.slice 5 (l.map Va.e)]/\l.length<=1048576/\∀v∈l,Ħ v:=by
 obtain⟨es,rfl,h1,h2⟩:=qe Xh h;obtain⟨l,rfl,hl⟩:=fE (f:=Va.e) (Q:=Ħ) (es:=es) fun x hx=>aaD (h2 x hx)
 exact⟨l,rfl,by rw[lβ]at h1;exact h1,hl⟩
def ϖ {n:Nat}(h:DT (n+4) 92 x):∃a:No,x=a.e/\YD 1048577 a.v/\ji a.v.n:=by
 obtain⟨cs,rfl,g⟩:=oc Xg h;obtain⟨_,_,rfl,h1,_,_,rfl,h2,_,_,rfl,h3,_,_,rfl,h4,rfl⟩:=wj Xg g;obtain⟨k,rfl,_⟩:=nh Tx h1;obtain⟨s,rfl⟩:=qZ YF h2;obtain⟨v,rfl,hv⟩:=OC h3;obtain⟨I,rfl,_⟩:=ž h4;exact⟨⟨k,s,v,I⟩,rfl,hv.b,hv.n⟩
def aaC {n:Nat}(h:DT (n+2) 72 x):∃a:Pa,x=a.e/\a.name.length<9223372036854775808:=by
 obtain⟨cs,rfl,g⟩:=oc Ń h;obtain⟨_,_,rfl,h1,_,_,rfl,h2,rfl⟩:=wj Ń g;obtain⟨s,rfl,hs⟩:=Ğ YF h1;obtain⟨k,rfl,_⟩:=nh Tx h2;exact⟨⟨s,k⟩,rfl,hs⟩
def aay {n:Nat}(h:DT (n+4) 89 x):∃a:Fe,x=a.e/\YD 1048577 a.init:=by
 obtain⟨cs,rfl,g⟩:=oc ŀ h;obtain⟨_,_,rfl,h1,_,_,rfl,h2,_,_,rfl,h3,rfl⟩:=wj ŀ g;obtain⟨s,rfl⟩:=qZ YF h1;obtain⟨k,rfl,_⟩:=nh Tx h2;obtain⟨v,rfl,hv⟩:=OC h3;exact⟨⟨s,k,v⟩,rfl,hv.b⟩
def aaB {n:Nat}(h:DT (n+6) 70 x):∃a:Me,x=a.e/\a.nodes.length<=1048576/\(∀y∈a.nodes,YD 1048577 y.v/\ji y.v.n)/\∀q∈a.params,q.name.length<9223372036854775808:=by
 obtain⟨cs,rfl,g⟩:=oc ł h;obtain⟨_,_,rfl,h1,_,_,rfl,h2,_,_,rfl,h3,_,_,rfl,h4,rfl⟩:=wj ł g;obtain⟨s,rfl⟩:=qZ YF h1;obtain⟨ps,rfl,_,h2⟩:=qe ϸ h2;obtain⟨k,rfl,_⟩:=nh Tx h3;obtain⟨ns,rfl,hl,h4⟩:=qe ê h4;obtain⟨ps,rfl,hq⟩:=fE (f:=Pa.e) (Q:=fun a=>a.name.length<9223372036854775808) (es:=ps) fun x hx=>aaC (h2 x hx)
 obtain⟨ns,rfl,hv⟩:=fE (f:=No.e) (Q:=fun a=>YD 1048577 a.v/\ji a.v.n) (es:=ns) fun x hx=>ϖ (h4 x hx)
 exact⟨⟨s,ps,k,ns⟩,rfl,by simpa using hl,hv,hq⟩
def abA {n:Nat}(h:DT (n+8) 66 x):∃a:Ac,x=a.e/\N8 1048577 a/\∀m∈a.methods,∀y∈m.nodes,ji y.v.n:=by
 obtain⟨cs,rfl,g⟩:=oc aaN h;obtain⟨_,_,rfl,h1,_,_,rfl,h2,_,_,rfl,h3,rfl⟩:=wj aaN g;obtain⟨s,rfl⟩:=qZ YF h1;obtain⟨fs,rfl,hf,h2⟩:=qe ϵ h2;obtain⟨ms,rfl,hm,h3⟩:=qe Ϸ h3;obtain⟨fs,rfl,hv⟩:=fE (f:=Fe.e) (Q:=fun a=>YD 1048577 a.init) (es:=fs) fun x hx=>aay (h2 x hx)
 obtain⟨ms,rfl,hw⟩:=fE (f:=Me.e) (Q:=fun a=>a.nodes.length<=1048576/\(∀y∈a.nodes,YD 1048577 y.v/\ji y.v.n)/\∀q∈a.params,q.name.length<9223372036854775808) (es:=ms) fun x hx=>aaB (h3 x hx)
 rw[lβ]at hf hm;replace hf:fs.length<=1048576:=hf;replace hm:ms.length<=1048576:=hm;exact⟨⟨s,fs,ms⟩,rfl,⟨by show fs.length<_;omega,by show ms.length<_;omega,hv,fun m hmm=>⟨by have:=(hw m hmm).1;omega,by have:=(hw m hmm).1;omega,fun y hy=>((hw m hmm).2.1 y hy).1⟩,fun m hmm=>(hw m hmm).2.2⟩,fun m hmm y hy=>((hw m hmm).2.1 y hy).2⟩
def ϗ {n:Nat}(h:DT (n+10) 24 x):∃p:List Ac,x= .agg [.slice 3 (p.map Ac.e)]/\p.length<1048577/\∀a∈p,N8 1048577 a/\∀m∈a.methods,∀y∈m.nodes,ji y.v.n:=by
 obtain⟨cs,rfl,g⟩:=oc ń h;obtain⟨_,_,rfl,h1,rfl⟩:=wj ń g;obtain⟨ts,rfl,hl,h1⟩:=qe aaO h1;obtain⟨p,rfl,hp⟩:=fE (f:=Ac.e) (Q:=fun a=>N8 1048577 a/\∀m∈a.methods,∀y∈m.nodes,ji y.v.n) (es:=ts) fun x hx=>abA (h1 x hx)
 rw[lβ]at hl;replace hl:p.length<=1048576:=hl;exact⟨p,rfl,by omega,hp⟩
structure IOk (p:fW):Prop where
 l:p.f.length<=1048576
 f:∀v∈p.f,Ħ v
 r:Ħ p.r
def aaz {n:Nat}(h:DT (n+6) 50 x):∃p:fW,x=p.e/\IOk p:=by
 obtain⟨cs,rfl,g⟩:=oc Ł h;obtain⟨_,_,rfl,h1,_,_,rfl,h2,rfl⟩:=wj Ł g;obtain⟨l,rfl,hl,hv⟩:=VP h1;obtain⟨v,rfl,hr⟩:=OC h2;exact⟨⟨l,v⟩,rfl,hl,hv,hr⟩
def ϕ {n:Nat}(h:DT (n+7) 26 x):∃l:List fW,x= .slice 6 (l.map fW.e)/\∀p∈l,IOk p:=by
 obtain⟨es,e,h1,h2⟩:=qe Xf (Wp Xf h);obtain⟨l,rfl,hl⟩:=fE (f:=fW.e) (Q:=IOk) (es:=es) fun x hx=>aaz (h2 x hx)
 simp only[lτ,and_true]at e;exact⟨l,e,hl⟩
def Wo {n:Nat}(h:DT (n+1) 9 x):∃s,x= .str s:=by
 obtain⟨s,e⟩:=qZ YF (OO YF h);simp only[lτ,and_true]at e;exact⟨s,e⟩
def Ϙ {n:Nat}(h:DT (n+4) 25 x):∃l:List Va,x= .slice 5 (l.map Va.e)/\l.length<=1048576/\∀v∈l,Ħ v:=by
 obtain⟨l,e,h1,h2⟩:=VP (Wp Xh h);simp only[lτ,and_true]at e;exact⟨l,e,h1,h2⟩
def aaA {n:Nat}(h:DT (n+1) 3 x):∃i,x= .int .i64 i/\ji i:=by
 obtain⟨i,e,hw⟩:=nh Tx (DF Tx h);simp only[lτ,and_true]at e;exact⟨i,e,Xa hw⟩
def ų {p:List Ac}(hl:p.length<1048577)(hp:∀a∈p,N8 1048577 a/\∀m∈a.methods,∀y∈m.nodes,ji y.v.n)(al:args.length<=1048576)(ha:∀v∈args,Ħ v)(hi:∀p∈ip,IOk p):Arg 1048577 p args ip:=
 ⟨hl,fun a h=>(hp a h).1,⟨by omega,fun v hv=>(ha v hv).b.l,fun p hp=>by have:=(hi p hp).l;omega,fun p hp v hv=>((hi p hp).f v hv).b.l,fun p hp=>(hi p hp).r.b.l⟩,fun a h m hm x hx=>(hp a h).2 m hm x hx,fun v hv=>⟨(ha v hv).n,(ha v hv).i⟩,fun p hp v hv=>⟨((hi p hp).f v hv).n,((hi p hp).f v hv).i⟩,fun p hp=>⟨(hi p hp).r.n,(hi p hp).r.i⟩⟩
def call0_ok (L:Letters)(N:Nat):ez prog0 globs0 (Ω N):=rU (P:=prog0) (G:=globs0) EI (lay0.okM L mvG) N
def YL {n:Nat}:Ω (n+1) 5 [] []=some (pB true,[]):=by kernel_rfl
def dR.tk (x:dR)(k:Nat):dR:={x with ip:=x.ip.take k}
variable {x:dR}
def acB {k j:Nat}(h:j<k):(x.tk k).ip[j]?=x.ip[j]?:=by
 show(x.ip.take k)[j]?=_;rw[List.getElem?_take,if_pos h]
def acw {k:Nat}(hk:1<=k){s:TS}(h:s.nx<=k)(e:Int):pU (x.tk k) s e=pU x s e:=by
 unfold pU;by_cases h1:1<=s.nx
 ·rw[acB (show s.nx - 1<k by omega)]
 ·have hc:¬(1<=s.nx/\s.nx<cr/\s.sg.length<1000):=fun g=>h1 g.1
  unfold gd;rw[if_neg hc,if_neg hc]
structure Gw (s s':TS):Prop where
 nx:s'.nx=s.nx
 sg:s.sg <+: s'.sg
 st:s'.sd=true\/s'.sg=s.sg
def Gw.refl (s:TS):Gw s s:=⟨rfl,List.prefix_refl _,.inr rfl⟩
def Gw.trans {a b c:TS}(h:Gw a b)(hb:b.sd=false)(g:Gw b c):Gw a c:=⟨g.nx.trans h.nx,h.sg.trans g.sg,g.st.elim .inl fun e=> .inr (e.trans (h.st.elim (fun e=>by rw[hb]at e;cases e) id))⟩
variable {s':TS}
def acl {s:TS}{e:Int}(h:pU x s e=some s'):Gw s s':=by
 obtain⟨_,h2⟩:=dN h;obtain⟨p,_,rfl⟩:=mβ.1 h2;exact⟨rfl,List.prefix_append _ _,.inl rfl⟩
def adh {k:Nat}(hk:1<=k){s:TS}(h:s.nx<=k)(v:Va)(e:Int):RP (x.tk k) s v e=RP x s v e:=by
 unfold RP;rw[acw hk h]
def adg {s:TS}{v:Va}{e:Int}(h:RP x s v e=some (w,s')):Gw s s':=by
 unfold RP at h;cases he:az e 0 with
 |true=>rw[he,cond_true]at h;cases h;exact Gw.refl _
 |false=>
  rw[he,cond_false]at h;obtain⟨s1,h1,h2⟩:=mβ.1 h;cases h2;exact acl h1
def EvK (x:dR)(k:Nat)(ev ev':TS->Int->Option (Va×TS)):Prop:=∀s i,s.nx<=k->ev' s i=ev s i/\∀v s',ev s i=some (v,s')->Gw s s'
def acy {x:dR}{k:Nat}{ev ev':TS->Int->Option (Va×TS)}(h:EvK x k ev ev'):∀(l:LI) (s:TS) (acc:List Va),s.nx<=k->lS ev' s l acc=lS ev s l acc/\∀r s',lS ev s l acc=some (r,s')->Gw s s'
 |[],s,acc,_=>⟨rfl,fun r s' e=>by simp only[lS,lα,lζ]at e;rw[<-e.2];exact Gw.refl _⟩
 |q::l,s,acc,hs=>by
  obtain⟨h1,h2⟩:=h s q hs;simp only[lS];rw[h1];cases he:ev s q with
  |none=>exact⟨rfl,fun r s' e=>by cases e⟩
  |some z=>
   obtain⟨v,s1⟩:=z;have g:=h2 v s1 he;simp only;cases hsd:s1.sd with
   |true=>exact⟨rfl,fun r s' e=>by simp only[cond_true,lα,lζ]at e;rw[<-e.2];exact g⟩
   |false=>
    simp only[cond_false];obtain⟨k1,k2⟩:=acy h l s1 (acc++[v]) (by rw[g.nx];exact hs);exact⟨k1,fun r s' e=>g.trans hsd (k2 r s' e)⟩
def ado {k:Nat}(hk:1<=k){ev ev':TS->Int->Option (Va×TS)}(h:EvK x k ev ev'){s:TS}(hs:s.nx<=k)(q:Cl):Tv (x.tk k) ev' s q=Tv x ev s q/\∀v s',Tv x ev s q=some (v,s')->Gw s s':=by
 cases q with
 |c n=>exact⟨rfl,fun v s' e=>by cases e;exact Gw.refl _⟩
 |s=>exact⟨rfl,fun v s' e=>by cases e;exact Gw.refl _⟩
 |v j=>
  refine⟨rfl,fun v s' e=>?_⟩
  obtain⟨w,_,h2⟩:=mβ.1 e;cases h2;exact Gw.refl _
 |o M n w=>
  obtain⟨h1,h2⟩:=acy h n.kids s [] hs;simp only[Tv,h1];cases hl:lS ev s n.kids []with
  |none=>exact⟨rfl,fun v s' e=>by cases e⟩
  |some z=>
   obtain⟨l,s1⟩:=z;have g:=h2 l s1 hl;simp only;cases hsd:s1.sd with
   |true=>exact⟨rfl,fun v s' e=>by simp only[cond_true,lα,lζ]at e;rw[<-e.2];exact g⟩
   |false=>
    simp only[cond_false];cases ho:eOp M w.name l with
    |none=>exact⟨rfl,fun v s' e=>by have:=(dN e).2;cases this⟩
    |some z=>
     obtain⟨v,e⟩:=z;simp only;rw[adh hk (by rw[g.nx];exact hs)];exact⟨rfl,fun v s' e=>g.trans hsd (adg (dN e).2)⟩
 |l n d=>
  simp only[Tv];match n.kids with
  |[]=>exact⟨rfl,fun v s' e=>by cases e⟩
  |a::r=>
   obtain⟨h1,h2⟩:=h s a hs;simp only;rw[h1];cases he:ev s a with
   |none=>exact⟨rfl,fun v s' e=>by cases e⟩
   |some z=>
    obtain⟨v,s1⟩:=z;have g:=h2 v s1 he;simp only;cases hb:s1.sd||az v.n d with
    |true=>exact⟨rfl,fun v s' e=>by simp only[cond_true,lα,lζ]at e;rw[<-e.2];exact g⟩
    |false=>
     simp only[cond_false];match r with
     |[]=>exact⟨rfl,fun v s' e=>by cases e⟩
     |b::_=>
      obtain⟨k1,k2⟩:=h s1 b (by rw[g.nx];exact hs);exact⟨k1,fun v s' e=>g.trans (qβ.1 hb).1 (k2 v s' e)⟩
def acz {x:dR}{k:Nat}(hk:1<=k):∀f:Nat,EvK x k (tV x f) (tV (x.tk k) f)
 |0,s,i,_=>⟨rfl,fun v s' e=>by cases e⟩
 |f+1,s,i,hs=>by
  simp only[tV];show(match dL x.ns i with|none=>none|some n=>_)=_/\_;cases hn:dL x.ns i with
  |none=>exact⟨rfl,fun v s' e=>by cases e⟩
  |some n=>
   obtain⟨h1,h2⟩:=ado hk (acz hk f) hs (At n i);simp only;rw[h1];cases hc:Tv x (tV x f) s (At n i)with
   |none=>exact⟨rfl,fun v s' e=>by cases e⟩
   |some z=>
    obtain⟨v,s1⟩:=z;refine⟨rfl,fun w s' e=>?_⟩
    have:=(dN e).2;cases this;exact h2 _ _ hc
def adb {s:TS}{i:Int}{v:Va}(h:tV x f s i=some (v,s')):Gw s s':=(acz (x:=x) (k:=s.nx+1) (by omega) f s i (by omega)).2 v s' h
def ac1 {s:TS}{l:LI}{r:List Va}(h:lS (tV x f) s l []=some (r,s')):Gw s s':=(acy (acz (x:=x) (k:=s.nx+1) (by omega) f) l s [] (by omega)).2 r s' h
def Iv (s:TS):Prop:=s.sd=true\/s.sg.length+1=s.nx
def Gw.iv {s:TS}(g:Gw s s')(h:s.sg.length+1=s.nx):Iv s':=g.st.imp_right fun e=>by rw[e,g.nx];exact h
def Rl (k:Nat)(a b:TS):Prop:=(b=a/\a.nx<=k/\Iv a)\/(b.sd=true/\b.sg.length=k/\b.sg <+: a.sg)
variable {a:TS}
def ac0 {k:Nat}(hk:1<=k){s:TS}{i:Int}{v:Va}(h:yN x s i=some (v,a)):s.sg <+: a.sg/\(s.nx<=k->s.sg.length+1=s.nx->∃w b,yN (x.tk k) s i=some (w,b)/\((w=v/\b=a/\a.nx<=k/\Iv a)\/(b.sd=true/\b.sg.length=k/\b.sg <+: a.sg))):=by
 unfold yN at h ⊢
 show _/\(_->_->∃w b,(match dL x.ns i with|none=>none|some n=>match lS (tV (x.tk k) (eF x)) s n.kids []with|none=>none|some (l,s1)=>_)=some (w,b)/\_);cases hn:dL x.ns i with
 |none=>rw[hn]at h;cases h
 |some n=>
 rw[hn]at h;simp only at h ⊢
 cases hl:lS (tV x (eF x)) s n.kids []with
 |none=>rw[hl]at h;cases h
 |some z=>
 obtain⟨l,s1⟩:=z;rw[hl]at h;simp only at h;have g:=ac1 hl;have sm:∀w:Va,s.sg <+: s1.sg/\True:=fun _=>⟨g.sg,trivial⟩
 have le:s.nx<=k->lS (tV (x.tk k) (eF x)) s n.kids []=some (l,s1):=fun hs=>by rw[(acy (acz hk (eF x)) n.kids s [] hs).1,hl]
 cases hsd:s1.sd with
 |true=>
  rw[hsd,cond_true]at h;cases h;refine⟨g.sg,fun h1 h2=>⟨v0,a,?_,.inl ⟨rfl,rfl,by rw[g.nx];exact h1,g.iv h2⟩⟩⟩
  rw[le h1];simp only[hsd,cond_true]
 |false=>
 rw[hsd,cond_false]at h;have e1:s1.sg=s.sg:=g.st.elim (fun e=>by rw[hsd]at e;cases e) id;cases hll:l with
 |nil=>rw[hll]at h;cases h
 |cons p r=>
 rw[hll]at h;simp only at h;have le2:s.nx<=k->lS (tV (x.tk k) (eF x)) s n.kids []=some (p::r,s1):=fun hs=>by rw[le hs,hll]
 cases h32:aP 32 (p.s.length:Int)with
 |true=>
  rw[h32,cond_true]at h;obtain⟨s2,t1,t2⟩:=mβ.1 h;cases t2;refine⟨g.sg.trans (acl t1).sg,fun h1 h2=>⟨v0,a,?_,.inl ⟨rfl,rfl,by rw[(acl t1).nx,g.nx];exact h1,(acl t1).iv (by rw[e1,g.nx];exact h2)⟩⟩⟩
  rw[le2 h1];simp only[hsd,cond_false,h32,cond_true];rw[acw hk (by rw[g.nx];exact h1),t1];rfl
 |false=>
 rw[h32,cond_false]at h;obtain⟨gc,h⟩:=dN h;have hsg:∀y:qr,s.sg <+: s1.sg++[y]:=fun y=>by rw[e1];exact List.prefix_append _ _
 -- what the second run leaves where it stops here
 cases hq:az (s1.nx:Int) (x.ip.length:Int)with
 |true=>
  rw[hq,cond_true]at h;cases h;rw[bE,lε]at hq;refine⟨hsg _,fun h1 h2=>⟨v0,_,?_,.inl ⟨rfl,rfl,by show s1.nx<=k;rw[g.nx];exact h1,.inl rfl⟩⟩⟩
  have hlen:(x.tk k).ip.length=x.ip.length:=by
   show(x.ip.take k).length=_;rw[mκ];have:=g.nx;omega
  rw[le2 h1];simp only[hsd,cond_false,h32];rw[qJ gc,hlen,show az (s1.nx:Int) (x.ip.length:Int)=true by rw[bE];exact mη hq,cond_true]
 |false=>
 rw[hq,cond_false]at h;rw[bE,lμ]at hq;cases hp:x.ip[s1.nx]? with
 |none=>rw[hp]at h;cases h
 |some q=>
 rw[hp]at h;simp only at h;have hlt:s1.nx<x.ip.length:=(List.getElem?_eq_some_iff.1 hp).1;have out:∃sg2,a.sg=s1.sg++[sg2]/\sg2=(⟨2,v0,n.name,p.s,n.v.s,r,0,s1.fs,s1.es⟩:qr):=by
  cases hf:fR [q.r] [rO x i]with
  |false=>rw[hf,cond_false]at h;cases h;exact⟨_,rfl,rfl⟩
  |true=>
   rw[hf,cond_true]at h;obtain⟨s2,t1,t2⟩:=mβ.1 h;cases t2;obtain⟨_,t3⟩:=dN t1;obtain⟨_,_,t4⟩:=mβ.1 t3;rw[<-t4];exact⟨_,rfl,rfl⟩
 obtain⟨sg2,o1,o2⟩:=out;refine⟨by rw[o1];exact hsg _,fun h1 h2=>?_⟩
 by_cases hlast:s1.nx=k
 ·-- the second run stops
  have hlen:(x.tk k).ip.length=k:=by
   show(x.ip.take k).length=_;rw[mκ];omega
  refine⟨v0,{s1 with fb:=true,eb:=true,sd:=true,sg:=s1.sg++[sg2]},?_,.inr ⟨rfl,?_,?_⟩⟩
  ·rw[le2 h1];simp only[hsd,cond_false,h32];rw[qJ gc,hlen,show az (s1.nx:Int) (k:Int)=true by rw[bE];exact mη (by omega),cond_true,o2]
  ·show(s1.sg++[sg2]).length=k;rw[mγ,e1,List.length_singleton,h2,<-g.nx];exact hlast
  ·show s1.sg++[sg2] <+: a.sg;rw[o1];exact List.prefix_refl _
 ·have hlen:¬((s1.nx:Int)=((x.tk k).ip.length:Int)):=by
   show ¬((s1.nx:Int)=((x.ip.take k).length:Int));rw[mκ];have:=g.nx;omega
  have hlt2:s1.nx<k:=by have:=g.nx;omega
  refine⟨v,a,?_,.inl ⟨rfl,rfl,?_⟩⟩
  ·rw[le2 h1];simp only[hsd,cond_false,h32];rw[qJ gc,show az (s1.nx:Int) ((x.tk k).ip.length:Int)=false by rw[bE];exact mε hlen,cond_false,acB hlt2,hp];simp only;show(bif fR [q.r] [rO x i]then(H3 (x.tk k) _).map _ else _)=_;have hbeg:∀y:TS,y.nx=s1.nx->H3 (x.tk k) y=H3 x y:=fun y hy=>by
    unfold H3;rw[hy,acB hlt2];rfl
   rw[hbeg {s1 with fb:=true,eb:=true,sd:=false,sg:=s1.sg++[⟨2,v0,n.name,p.s,n.v.s,r,0,s1.fs,s1.es⟩]} rfl];exact h
  ·cases hf:fR [q.r] [rO x i]with
   |false=>rw[hf,cond_false]at h;cases h;exact⟨by show s1.nx<=k;omega,.inl rfl⟩
   |true=>
    rw[hf,cond_true]at h;obtain⟨s2,t1,t2⟩:=mβ.1 h;cases t2;obtain⟨_,t3⟩:=dN t1;obtain⟨_,_,t4⟩:=mβ.1 t3;rw[<-t4];refine⟨by show s1.nx+1<=k;omega,.inr ?_⟩
    show(s1.sg++[_]).length+1=s1.nx+1;rw[mγ,e1,List.length_singleton,h2,g.nx]
def Sx2 (k:Nat)(s a:TS)(o:Option TS):Prop:=s.sg <+: a.sg/\(s.nx<=k->Iv s->∃b,o=some b/\Rl k a b)
def Iv.run {s:TS}(h:Iv s)(hs:s.sd=false):s.sg.length+1=s.nx:=h.elim (fun e=>by rw[hs]at e;cases e) id
def Gw.sx2 {k:Nat}{s:TS}(g:Gw s a)(hs:s.sd=false):Sx2 k s a (some a):=⟨g.sg,fun h1 h2=>⟨a,rfl,.inl ⟨rfl,by rw[g.nx];exact h1,g.iv (h2.run hs)⟩⟩⟩
structure StS (k:Nat)(st st':TS->Int->Option TS):Prop where
 s:∀s i a,st s i=some a->Sx2 k s a (st' s i)
 d:∀s i a,st s i=some a->∀b j,b.sd=true->st' b j=some b
def Sx2.seq {k:Nat}{s s1:TS}{o1:Option TS}{F:TS->Option TS}(h:Sx2 k s s1 o1)(hg:s1.sg <+: a.sg)(hF:s1.nx<=k->Iv s1->∃b,F s1=some b/\Rl k a b)(hd:∀b,b.sd=true->F b=some b):
  s.sg <+: a.sg/\(s.nx<=k->Iv s->∃b1,o1=some b1/\∃b,F b1=some b/\Rl k a b):=by
 refine⟨h.1.trans hg,fun h1 h2=>?_⟩
 obtain⟨b1,e1,r⟩:=h.2 h1 h2;refine⟨b1,e1,?_⟩;rcases r with⟨rfl,r1,r2⟩|⟨r1,r2,r3⟩
 ·exact hF r1 r2
 ·exact⟨b1,hd b1 r1,.inr ⟨r1,r2,r3.trans hg⟩⟩
def ac8 {k:Nat}{st st':TS->Int->Option TS}(h:StS k st st'):∀(l:LI) (s a:TS),AP st l s=some a->Sx2 k s a (AP st' l s)
 |[],s,a,e=>by
  simp only[AP,lα]at e;subst e;exact⟨List.prefix_refl _,fun h1 h2=>⟨s,rfl,.inl ⟨rfl,h1,h2⟩⟩⟩
 |q::l,s,a,e=>by
  simp only[AP]at e ⊢
  cases h1:st s q with
  |none=>rw[h1]at e;cases e
  |some s1=>
   rw[h1]at e;simp only at e;have ih:=ac8 h l s1 a e;have stop:∀(l:LI) (b:TS),b.sd=true->AP st' l b=some b:=by
    intro l b hb;induction l with
    |nil=>rfl
    |cons j l ihl=>simp only[AP,h.d s q s1 h1 b j hb,ihl]
   obtain⟨g,r⟩:=(h.s s q s1 h1).seq (F:=AP st' l) ih.1 ih.2 (stop l);refine⟨g,fun g1 g2=>?_⟩
   obtain⟨b1,e1,b,e2,e3⟩:=r g1 g2;rw[e1];exact⟨b,e2,e3⟩
def acZ {k:Nat}(hk:1<=k){s:TS}{n:No}(hs:s.sd=false)(h:LX x s n q=some a):Sx2 k s a (LX (x.tk k) s n q):=by
 unfold LX at h ⊢
 cases hl:lS (tV x (eF x)) s n.kids []with
 |none=>rw[hl]at h;cases h
 |some z=>
 obtain⟨l,s1⟩:=z;rw[hl]at h;simp only at h;have g:=ac1 hl;have eq:s.nx<=k->(match lS (tV (x.tk k) (eF (x.tk k))) s n.kids []with
   |none=>none
   |some (l,s1)=>bif s1.sd then some s1 else gd (s1.es.length<1000)<|match Rj q l s1.es.length with
    |none=>none
    |some (e,er)=>bif az er 0 then gd (s1.eb=false) (some {s1 with es:=s1.es++[e]})else pU (x.tk k) s1 er)=some a:=fun h1=>by
  show(match lS (tV (x.tk k) (eF x)) s n.kids []with|none=>none|some (l,s1)=>_)=_;rw[(acy (acz hk (eF x)) n.kids s [] h1).1,hl];simp only;rw[<-h];have:∀er,pU (x.tk k) s1 er=pU x s1 er:=fun er=>acw hk (by rw[g.nx];exact h1) er
  simp only[this];rfl
 have gg:Gw s a:=by
  cases hsd:s1.sd with
  |true=>rw[hsd,cond_true]at h;cases h;exact g
  |false=>
   rw[hsd,cond_false]at h;obtain⟨_,h⟩:=dN h;cases ha:Rj q l s1.es.length with
   |none=>rw[ha]at h;cases h
   |some z=>
    obtain⟨e,er⟩:=z;rw[ha]at h;simp only at h;cases he:az er 0 with
    |true=>
     rw[he,cond_true]at h;obtain⟨_,h⟩:=dN h;cases h;exact⟨g.nx,g.sg,g.st.imp (fun e=>by rw[hsd]at e;cases e) id⟩
    |false=>
     rw[he,cond_false]at h;exact g.trans hsd (acl h)
 exact⟨gg.sg,fun h1 h2=>⟨a,eq h1,.inl ⟨rfl,by rw[gg.nx];exact h1,gg.iv (h2.run hs)⟩⟩⟩
def adn {k:Nat}(hk:1<=k){st':TS->Int->Option TS}(hst:StS k st st'){s:TS}{n:No}(hs:s.sd=false)(h:eBr x st s n=some a):Sx2 k s a (eBr (x.tk k) st' s n):=by
 unfold eBr at h ⊢
 match n.kids,h with
 |p::r,h=>
 simp only at h ⊢
 cases he:tV x (eF x) s p with
 |none=>rw[he]at h;cases h
 |some z=>
 obtain⟨v,s1⟩:=z;rw[he]at h;simp only at h;have g:=adb he;have ee:s.nx<=k->tV (x.tk k) (eF (x.tk k)) s p=some (v,s1):=fun h1=>by
  show tV (x.tk k) (eF x) s p=_;rw[(acz hk (eF x) s p h1).1,he]
 cases hsd:s1.sd with
 |true=>
  rw[hsd,cond_true]at h;cases h;refine⟨g.sg,fun h1 h2=>⟨a,?_,.inl ⟨rfl,by rw[g.nx];exact h1,g.iv (h2.run hs)⟩⟩⟩
  rw[ee h1];simp only[hsd,cond_true]
 |false=>
  rw[hsd,cond_false]at h;have sub:∀q,st s1 q=some a->Sx2 k s a (st' s1 q):=fun q hq=>⟨g.sg.trans (hst.s s1 q a hq).1,fun h1 h2=>(hst.s s1 q a hq).2 (by rw[g.nx];exact h1) (g.iv (h2.run hs))⟩
  have own:Sx2 k s s1 (some s1):=g.sx2 hs;cases hd:az v.n 1 with
  |true=>
   rw[hd,cond_true]at h;match r,h with
   |b::_,h=>
    obtain⟨g1,g2⟩:=sub b h;refine⟨g1,fun h1 h2=>?_⟩
    rw[ee h1];simp only[hsd,cond_false,hd,cond_true];exact g2 h1 h2
  |false=>
   rw[hd,cond_false]at h;match r,h with
   |[b,c],h=>
    obtain⟨g1,g2⟩:=sub c h;refine⟨g1,fun h1 h2=>?_⟩
    rw[ee h1];simp only[hsd,cond_false,hd];exact g2 h1 h2
   |[],h=>
    cases h;refine⟨own.1,fun h1 h2=>?_⟩
    rw[ee h1];simp only[hsd,cond_false,hd];exact own.2 h1 h2
   |[_],h=>
    cases h;refine⟨own.1,fun h1 h2=>?_⟩
    rw[ee h1];simp only[hsd,cond_false,hd];exact own.2 h1 h2
   |_::_::_::_,h=>
    cases h;refine⟨own.1,fun h1 h2=>?_⟩
    rw[ee h1];simp only[hsd,cond_false,hd];exact own.2 h1 h2
def acA {n:No}{q:Nat}{s:TS}(h:s.sd=true):pT x st n (q+1) s=some s:=by simp only[pT,h,cond_true]
def ac2 {x:dR}{k:Nat}(hk:1<=k){st st':TS->Int->Option TS}(hst:StS k st st'){n:No}:∀(q:Nat) (s a:TS),pT x st n q s=some a->Sx2 k s a (pT (x.tk k) st' n q s)
 |0,_,_,h=>by cases h
 |q+1,s,a,h=>by
  cases hs:s.sd with
  |true=>
   rw[acA hs]at h;cases h;rw[acA hs];exact⟨List.prefix_refl _,fun h1 h2=>⟨s,rfl,.inl ⟨rfl,h1,h2⟩⟩⟩
  |false=>
  rw[XB hs]at h;rw[XB hs];cases hr:az s.rd 0 with
  |true=>
   rw[hr,cond_true]at h;have g:=acl h;refine⟨g.sg,fun h1 h2=>⟨a,?_,.inl ⟨rfl,by rw[g.nx];exact h1,g.iv (h2.run hs)⟩⟩⟩
   rw[cond_true,acw hk h1,h]
  |false=>
  rw[hr,cond_false]at h;rw[cond_false];match n.kids,h with
  |p::r,h=>
  simp only at h ⊢
  obtain⟨gc,h⟩:=dN h;rw[qJ gc];cases he:tV x (eF x) {s with rd:=s.rd - 1} p with
  |none=>rw[he]at h;cases h
  |some z=>
  obtain⟨v,s1⟩:=z;rw[he]at h;simp only at h;have g0:=adb he;have g:Gw s s1:=⟨g0.nx,g0.sg,g0.st⟩;have ee:s.nx<=k->tV (x.tk k) (eF (x.tk k)) {s with rd:=s.rd - 1} p=some (v,s1):=fun h1=>by
   show tV (x.tk k) (eF x) {s with rd:=s.rd - 1} p=_;rw[(acz hk (eF x) {s with rd:=s.rd - 1} p h1).1,he]
  cases hsd:s1.sd||az v.n 0 with
  |true=>
   rw[hsd,cond_true]at h;cases h;have own:Sx2 k s a (some a):=g.sx2 hs;refine⟨own.1,fun h1 h2=>?_⟩
   rw[ee h1];simp only[hsd,cond_true];exact own.2 h1 h2
  |false=>
   rw[hsd,cond_false]at h;match r,h with
   |b::_,h=>
    simp only at h;cases h3:st s1 b with
    |none=>rw[h3]at h;cases h
    |some s2=>
     rw[h3]at h;simp only at h;have ih:=ac2 hk hst (n:=n) q s2 a h;obtain⟨q',rfl⟩:∃j,q=j+1:=⟨q - 1,by
      have:q≠0:=fun e=>by subst e;cases h
      omega⟩
     obtain⟨g1,g2⟩:=(hst.s s1 b s2 h3).seq (F:=pT (x.tk k) st' n (q'+1)) ih.1 ih.2 (fun b hb=>acA hb);refine⟨g.sg.trans g1,fun h1 h2=>?_⟩
     obtain⟨b1,e1,b2,e2,e3⟩:=g2 (by rw[g.nx];exact h1) (g.iv (h2.run hs));rw[ee h1];simp only[hsd,cond_false,e1];exact⟨b2,e2,e3⟩
def Vx2 (k:Nat)(s a:TS)(v:Va)(o:Option (Va×TS)):Prop:=s.sg <+: a.sg/\(s.nx<=k->Iv s->∃w b,o=some (w,b)/\((w=v/\b=a/\a.nx<=k/\Iv a)\/(b.sd=true/\b.sg.length=k/\b.sg <+: a.sg)))
def adm {k:Nat}(hk:1<=k){s:TS}{i:Int}{v:Va}(hs:s.sd=false)(h:H5 x s i=some (v,a)):Vx2 k s a v (H5 (x.tk k) s i):=by
 unfold H5 at h ⊢
 show Vx2 k s a v (match dL x.ns i with|none=>none|some n=>bif az n.op 7 then yN (x.tk k) s i else tV (x.tk k) (eF x) s i);cases hn:dL x.ns i with
 |none=>rw[hn]at h;cases h
 |some n=>
  rw[hn]at h;simp only at h ⊢
  cases h7:az n.op 7 with
  |true=>
   rw[h7,cond_true]at h;rw[cond_true];obtain⟨c1,c2⟩:=ac0 hk h;exact⟨c1,fun h1 h2=>c2 h1 (h2.run hs)⟩
  |false=>
   rw[h7,cond_false]at h;rw[cond_false];have g:=adb h;refine⟨g.sg,fun h1 h2=>⟨v,a,?_,.inl ⟨rfl,rfl,by rw[g.nx];exact h1,g.iv (h2.run hs)⟩⟩⟩
   rw[(acz hk (eF x) s i h1).1,h]
def adj {s:TS}{i:Int}(h:RR x s i w=some a):Gw s a:=by
 obtain⟨_,h⟩:=dN h;cases he:rP x i with
 |none=>rw[he]at h;cases h
 |some v=>
  rw[he]at h;simp only at h;cases hf:v.field with
  |true=>
   rw[hf,cond_true]at h;obtain⟨_,_,rfl⟩:=mβ.1 h;exact⟨rfl,List.prefix_refl _,.inr rfl⟩
  |false=>
   rw[hf,cond_false]at h;obtain⟨_,_,rfl⟩:=mβ.1 h;exact⟨rfl,List.prefix_refl _,.inr rfl⟩
def ac9 {s:TS}{v:Va}(h:RQ s v=some a):Gw s a:=by
 obtain⟨_,h⟩:=dN h;cases h;exact⟨rfl,List.prefix_append _ _,.inl rfl⟩
def adf {k:Nat}(hk:1<=k){s:TS}{i:Int}{n:No}(hs:s.sd=false)(h:(match n.kids with
    |p::_=>(match H5 x s p with
     |none=>none
     |some (v,s')=>bif s'.sd then some s' else RR x s' i v)
    |[]=>none)=some a):Sx2 k s a (match n.kids with
    |p::_=>(match H5 (x.tk k) s p with
     |none=>none
     |some (v,s')=>bif s'.sd then some s' else RR (x.tk k) s' i v)
    |[]=>none):=by
 match n.kids,h with
 |p::_,h=>
  simp only at h ⊢
  cases hv:H5 x s p with
  |none=>rw[hv]at h;cases h
  |some z=>
   obtain⟨v,s1⟩:=z;rw[hv]at h;simp only at h;obtain⟨c1,c2⟩:=adm hk hs hv;cases hsd:s1.sd with
   |true=>
    rw[hsd,cond_true]at h;cases h;refine⟨c1,fun h1 h2=>?_⟩
    obtain⟨w,b,e,r⟩:=c2 h1 h2;rw[e];simp only;rcases r with⟨_,rfl,r1,r2⟩|⟨r1,r2,r3⟩
    ·rw[hsd,cond_true];exact⟨_,rfl,.inl ⟨rfl,r1,r2⟩⟩
    ·rw[r1,cond_true];exact⟨_,rfl,.inr ⟨r1,r2,r3⟩⟩
   |false=>
    rw[hsd,cond_false]at h;have g:=adj h;refine⟨c1.trans g.sg,fun h1 h2=>?_⟩
    obtain⟨w,b,e,r⟩:=c2 h1 h2;rw[e];simp only;rcases r with⟨rfl,rfl,r1,r2⟩|⟨r1,r2,r3⟩
    ·rw[hsd,cond_false];exact⟨a,h,.inl ⟨rfl,by rw[g.nx];exact r1,g.iv (r2.run hsd)⟩⟩
    ·rw[r1,cond_true];exact⟨_,rfl,.inr ⟨r1,r2,r3.trans g.sg⟩⟩
def ac7 {k:Nat}(hk:1<=k){s:TS}{e:Int}(hs:s.sd=false)(h:pU x s e=some a):Sx2 k s a (pU (x.tk k) s e):=by
 have g:=acl h;refine⟨g.sg,fun h1 h2=>⟨a,?_,.inl ⟨rfl,by rw[g.nx];exact h1,g.iv (h2.run hs)⟩⟩⟩
 rw[acw hk h1,h]
def ac3 {s:TS}{i:Int}(h:s.sd=false):Ks x (f+1) s i=match dL x.ns i with
  |none=>none
  |some n=>
   bif az n.op 8||az n.op 9 then(match n.kids with
    |a::_=>(match H5 x s a with
     |none=>none
     |some (v,s')=>bif s'.sd then some s' else RR x s' i v)
    |[]=>none)else
   bif az n.op 10 then(match n.kids with|a::_=>(yN x s a).map (·.2)|[]=>none)else
   bif az n.op 11 then eBr x (Ks x f) s n else
   bif az n.op 12 then pT x (Ks x f) n eQ s else
   bif az n.op 13 then(match lS (tV x (eF x)) s n.kids []with
    |none=>none
    |some (l,s1)=>bif s1.sd then some s1 else gd (l.length<1000) (RQ s1 (l.headD v0)))else
   bif az n.op 14 then pU x s 26 else
   bif az n.op 15 then LX x s n 1 else
   bif az n.op 16 then LX x s n 2 else
   bif az n.op 17 then LX x s n 3 else
   bif az n.op 18 then gd (n.kids.length<1501) (AP (Ks x f) n.kids s)else some s:=by
 simp only[Ks];exact aaj h _ _
def aci {k:Nat}{s:TS}{b:Bool}{x y x' y':Option TS}(h:(bif b then x else y)=some a)(hx:x=some a->Sx2 k s a x')(hy:y=some a->Sx2 k s a y'):Sx2 k s a (bif b then x' else y'):=by
 cases b
 ·exact hy h
 ·exact hx h
def adl {x:dR}{k:Nat}(hk:1<=k):∀f:Nat,StS k (Ks x f) (Ks (x.tk k) f)
 |0=>⟨fun s i a h=>(by cases h),fun s i a h=>(by cases h)⟩
 |f+1=>by
  refine⟨fun s i a h=>?_,fun s i a h b j hb=>aba (by omega) hb⟩
  have ih:=adl (x:=x) hk f;cases hs:s.sd with
  |true=>
   rw[aba (by omega) hs]at h;cases h;rw[aba (by omega) hs];exact⟨List.prefix_refl _,fun h1 h2=>⟨s,rfl,.inl ⟨rfl,h1,h2⟩⟩⟩
  |false=>
  rw[ac3 hs]at h;rw[ac3 hs];have hns:(x.tk k).ns=x.ns:=rfl;rw[hns];cases hn:dL x.ns i with
  |none=>rw[hn]at h;cases h
  |some n=>
  rw[hn]at h;simp only at h ⊢
  refine aci h (fun h=>adf hk hs h) fun h=>?_
  refine aci h (fun h=>?_) fun h=>?_
  ·match n.kids,h with
   |p::_,h=>
    simp only at h ⊢
    obtain⟨⟨v,a'⟩,e1,e2⟩:=mβ.1 h;simp only at e2;subst e2;obtain⟨c1,c2⟩:=ac0 hk e1;refine⟨c1,fun h1 h2=>?_⟩
    obtain⟨w,b,e,r⟩:=c2 h1 (h2.run hs);rw[e];refine⟨b,rfl,?_⟩;rcases r with⟨_,rfl,r1,r2⟩|r
    ·exact .inl ⟨rfl,r1,r2⟩
    ·exact .inr r
  refine aci h (fun h=>adn hk ih hs h) fun h=>?_
  refine aci h (fun h=>ac2 hk ih eQ s a h) fun h=>?_
  refine aci h (fun h=>?_) fun h=>?_
  ·cases hl:lS (tV x (eF x)) s n.kids []with
   |none=>rw[hl]at h;cases h
   |some z=>
    obtain⟨l,s1⟩:=z;rw[hl]at h;simp only at h;have g:=ac1 hl;have le:s.nx<=k->lS (tV (x.tk k) (eF (x.tk k))) s n.kids []=some (l,s1):=fun h1=>by
     show lS (tV (x.tk k) (eF x)) s n.kids []=_;rw[(acy (acz hk (eF x)) n.kids s [] h1).1,hl]
    have gg:Gw s a:=by
     cases hsd:s1.sd with
     |true=>rw[hsd,cond_true]at h;cases h;exact g
     |false=>rw[hsd,cond_false]at h;exact g.trans hsd (ac9 (dN h).2)
    refine⟨gg.sg,fun h1 h2=>⟨a,?_,.inl ⟨rfl,by rw[gg.nx];exact h1,gg.iv (h2.run hs)⟩⟩⟩
    rw[le h1];exact h
  refine aci h (fun h=>ac7 hk hs h) fun h=>?_
  refine aci h (fun h=>acZ hk hs h) fun h=>?_
  refine aci h (fun h=>acZ hk hs h) fun h=>?_
  refine aci h (fun h=>acZ hk hs h) fun h=>?_
  refine aci h (fun h=>?_) fun h=>?_
  ·obtain⟨gc,h⟩:=dN h;rw[qJ gc];exact ac8 ih n.kids s a h
  ·cases h;exact⟨List.prefix_refl _,fun h1 h2=>⟨_,rfl,.inl ⟨rfl,h1,h2⟩⟩⟩
def adc {k:Nat}(hk:1<=k){a b:List qr}(h:H4 x ls=some a)(g:H4 (x.tk k) ls=some b)(hb:b.length<=k):b <+: a/\b.length=min a.length k:=by
 unfold H4 at h g;have eb:H3 (x.tk k) (Ő ls)=H3 x (Ő ls):=by
  unfold H3;rw[show(Ő ls).nx=0 from rfl,acB (show 0<k by omega)];rfl
 rw[eb]at g;cases h1:H3 x (Ő ls)with
 |none=>rw[h1]at h;cases h
 |some s1=>
 rw[h1]at h g;simp only at h g;have i1:s1.nx=1/\s1.sg=[]/\s1.sd=false:=by
  obtain⟨_,h2⟩:=dN h1;obtain⟨p,_,rfl⟩:=mβ.1 h2;exact⟨rfl,rfl,rfl⟩
 cases h2:Ks x (eF x) s1 ((x.ns.length:Int) - 1)with
 |none=>rw[h2]at h;cases h
 |some s2=>
 rw[h2]at h;simp only at h;obtain⟨b2,e2,r⟩:=((adl hk (eF x)).s s1 _ s2 h2).2 (by rw[i1.1];exact hk) (.inr (by rw[i1.1,i1.2.1];rfl));have e2':Ks (x.tk k) (eF (x.tk k)) s1 (((x.tk k).ns.length:Int) - 1)=some b2:=e2;rw[e2']at g;simp only at g;rcases r with⟨rfl,_,_⟩|⟨r1,r2,r3⟩
 ·have:a=b:=by
   rw[g]at h;exact(Option.some.inj h).symm
  subst this;exact⟨List.prefix_refl _,by omega⟩
 ·rw[r1,cond_true]at g;cases g;have hp:b2.sg <+: a:=by
   cases hsd:s2.sd with
   |true=>rw[hsd,cond_true]at h;cases h;exact r3
   |false=>
    rw[hsd,cond_false]at h;obtain⟨s3,e3,rfl⟩:=mβ.1 h;exact r3.trans (ac9 e3).sg
  exact⟨hp,by have:=hp.length_le;omega⟩
def ade {a:Ac}{k:Nat}(hk:1<=k)(h:uW a ip=true):uW a (ip.take k)=true:=by
 match ip,h with
 |p::r,h=>
  obtain⟨j,rfl⟩:∃j,k=j+1:=⟨k - 1,by omega⟩
  unfold uW at h;simp only[lγ,mζ]at h;show uW a (p::r.take j)=true;unfold uW;simp only[lγ,mζ];exact⟨h.1,fun q hq=>h.2 q (by
   rcases mδ.1 hq with rfl|hq
   ·exact lη
   ·exact lρ _ (qι hq))⟩
def Two (k:Nat)(r q:List qr×Int):Prop:=(r.2≠0->q.2=r.2\/(q.2=0/\r.2=1))/\(r.2=0->q.2=0/\(q.1.length<=k->q.1 <+: r.1/\q.1.length=min r.1.length k))
def ac4 {k:Nat}(e:Int)(he:e≠0):Two k ([],e) ([],e):=⟨fun _=> .inl rfl,fun h=>absurd h he⟩
def adk {p:List Ac}{t:LN}{k:Nat}(hk:1<=k){r q:List qr×Int}(h:Z9 p t m key args ip lm=some r)(g:Z9 p t m key args (ip.take k) lm=some q):Two k r q:=by
 unfold Z9 at h g;cases ha:Oo p with
 |bad a b c e=>
  rw[ha]at h g;simp only at h g;cases he:az e 0 with
  |true=>rw[he]at h;cases h
  |false=>
   rw[he,cond_false]at h g;cases h;cases g;exact ac4 e (by rw[bE,lμ]at he;exact he)
 |good bs=>
  rw[ha]at h g;simp only at h g;cases hl:IX p t m with
  |none=>rw[hl]at h g;cases h;cases g;exact ac4 14 (by decide)
  |some z=>
  obtain⟨ti,mi⟩:=z;rw[hl]at h g;simp only at h g;cases h1:dL p ti with
  |none=>rw[h1]at h;cases h
  |some a=>
  rw[h1]at h g;simp only at h g;cases h2:dL a.methods mi with
  |none=>rw[h2]at h;cases h
  |some me=>
  rw[h2]at h g;simp only at h g;cases hf:fR args (me.params.map Pa.kind)with
  |false=>rw[hf,cond_false]at h g;cases h;cases g;exact ac4 15 (by decide)
  |true=>
  rw[hf,cond_true]at h g;cases hc:aP 32 (key.length:Int)||(!uW a ip||(aP lm 0||aP 20000 lm))with
  |true=>
   rw[hc,cond_true]at h;cases h;refine⟨fun _=>?_,fun h=>absurd h (show ¬((1:Int)=0) by decide)⟩
   cases hd:aP 32 (key.length:Int)||(!uW a (ip.take k)||(aP lm 0||aP 20000 lm))with
   |true=>rw[hd,cond_true]at g;cases g;exact .inl rfl
   |false=>
    rw[hd,cond_false]at g;obtain⟨_,g⟩:=dN g;obtain⟨_,_,rfl⟩:=mβ.1 g;exact .inr ⟨rfl,rfl⟩
  |false=>
   rw[hc,cond_false]at h;have hd:(aP 32 (key.length:Int)||(!uW a (ip.take k)||(aP lm 0||aP 20000 lm)))=false:=by
    simp only[qβ,Bool.not_eq_false']at hc ⊢
    exact⟨hc.1,ade hk hc.2.1,hc.2.2⟩
   rw[hd,cond_false]at g;obtain⟨_,h⟩:=dN h;obtain⟨_,g⟩:=dN g;obtain⟨sa,e1,rfl⟩:=mβ.1 h;obtain⟨sb,e2,rfl⟩:=mβ.1 g;exact⟨fun h=>absurd rfl h,fun _=>⟨rfl,fun hb=>adc (x:=⟨p,bs,a,ti,mi,me.nodes,key,ip,lm⟩) hk e1 e2 hb⟩⟩
def Hs.tk (h:Hs args ip)(k:Nat):Hs args (ip.take k):=
 ⟨h.al,h.ai,by have:=h.il;rw[mκ];omega,fun p hp=>h.fl p (qι hp),fun p hp=>h.fw p (qι hp),fun p hp=>h.wr p (qι hp)⟩
def Rng.tk {p:List Ac}(h:Rng p args ip)(k:Nat):Rng p args (ip.take k):=⟨h.pn,h.aw⟩
def acC {n:Nat}(p:List Ac)(t m key:LN)(args:List Va)(ip:List fW)(lm q:Int)(hq:0<=q/\q<256)(ha:Arg n p args ip)(hn:15000<=n)(hb:n<1000000000000)(hw:Ω (n+3) 5 [] []=tT):Ω (n+4) 3 [pD p,pS t,pS m,pS key,pL 5 (args.map Va.e),pL 6 (ip.map fW.e),pI lm,.p (.int .u8 q)] []=tT:=by
 apply acH (n+3) ⟨p.map Ac.e⟩ t m key (args.map Va.e) (ip.map fW.e) lm q;unfold acr;rw[aa hw];simp only[bk,aF,aC,Bool.not_true,aR];show ct lay0.tab (n+3) 6 [pD p,_,_,_] [] _=_;rw[aa (Qa (n:=n) p args ip lm ha.pl ha.pa ha.li (by omega) hb)];simp only[bk,aF,aC];cases hs:zQ p args ip lm with
 |false=>rfl
 |true=>
 have sm:=Yf ha hs;rw[Bool.not_true,aR,lβ];cases he:az (ip.length:Int) 0;rotate_left
 ·rfl
 rw[bE,lμ]at he;cases aP 100 (t.length:Int);rotate_left
 ·rfl
 cases aP 100 (m.length:Int);rotate_left
 ·rfl
 cases aP 100 (key.length:Int);rotate_left
 ·rfl
 simp only[aR];obtain⟨r,e1,e2,e3⟩:=aa7 sm.sz t m key sm.ro sm.rg sm.il sm.lm;have er:=Ŕ (n:=n+3) p sm.sz t m key args ip lm sm.ro e1 (by omega);unfold rSg at er;show ct lay0.tab (n+3) 7 [pD p,_,_,_,_,_,_] [] _=_;rw[aa er];simp only[bt,bJ,bk,vo,cb,aC];have hil:=sm.il
 -- the number of inputs
 obtain⟨k,hk,hk1,hk2⟩:∃k:Nat,aq .i64 (1+Int.tmod (aq .i64 q) (ip.length:Int))=(k:Int)/\1<=k/\k<=ip.length:=by
  have hq1:aq .i64 q=q:=gU (by omega) (by omega);have h1:=Int.tmod_nonneg (ip.length:Int) hq.1;have h2:=Int.tmod_lt_of_pos q (show 0<(ip.length:Int) by omega);rw[hq1,gU (by omega) (by omega)];exact⟨(1+Int.tmod q (ip.length:Int)).toNat,by omega,by omega,by omega⟩
 rw[hk];have h0:bw 0 (k:Int)=true:=by rw[bW];exact mη (by omega)
 have h1:bw (k:Int) (ip.length:Int)=true:=by rw[bW];exact mη (by omega)
 rw[h0,h1,aQ,aQ];have htk:List.take (Int.toNat (k:Int) - 0) (List.drop 0 (ip.map fW.e))=(ip.take k).map fW.e:=by
  rw[List.drop_zero,Int.toNat_natCast,Nat.sub_zero,List.map_take]
 rw[htk];have rok:=sm.ro.tk k;obtain⟨r2,f1,f2,f3⟩:=aa7 sm.sz t m key rok (sm.rg.tk k) (show(ip.take k).length<=12 by rw[mκ];omega) sm.lm;have er2:=Ŕ (n:=n+3) p sm.sz t m key args (ip.take k) lm rok f1 (by omega);unfold rSg at er2;show ct lay0.tab (n+3) 7 [pD p,_,_,_,_,_,_] [] _=_;rw[aa er2];simp only[bt,bJ,bk,vo,cb,aC];obtain⟨w1,w2⟩:=adk hk1 e1 f1;by_cases hz:r.2=0
 ·obtain⟨z1,z2⟩:=w2 hz;obtain⟨x2,hx2,gd2⟩:=f3 z1;obtain⟨x1,hx1,gd1⟩:=e3 hz;have hl2:r2.1.length<=k:=by have:=gd2.l2;rw[hx2,mκ]at this;omega
  obtain⟨y1,y2⟩:=z2 hl2;have hl1:r.1.length<=12:=by have:=gd1.l2;rw[hx1]at this;omega
  rw[hz,z1,show az 0 0=true from rfl];simp only[Bool.not_true,aR,lβ];have hm:(bif aP (k:Int) (r.1.length:Int)then(k:Int)else(r.1.length:Int))=(r2.1.length:Int):=by
   rw[y2,dJ];by_cases hlt:(k:Int)<(r.1.length:Int)
   ·rw[mη hlt,cond_true];omega
   ·rw[mε hlt,cond_false];omega
  rw[hm,Ca,aQ];have h3:bw (r2.1.length:Int) (r.1.length:Int)=true:=by rw[bW];exact mη (by omega)
  rw[h3,aQ];have ht2:List.take (Int.toNat (r2.1.length:Int) - 0) (List.drop 0 (r.1.map qr.e))=r2.1.map qr.e:=by
   rw[List.drop_zero,Int.toNat_natCast,Nat.sub_zero,<-List.map_take];obtain⟨z,hz2⟩:=y1;rw[<-hz2,List.take_left]
  rw[ht2,aa (ac5 (m:=n+3) r2.1 (by omega) gd2.sz (by omega))];simp only[bk,aF,aC]
 ·have hz':az r.2 0=false:=by rw[bE];exact mε hz
  rw[hz',Bool.not_false,aQ];rcases w1 hz with w1|⟨w1,w3⟩
  ·rw[w1,Ca];rfl
  ·rw[w1,w3];rfl
def run_EvalPrefix:∀xs,Pw (gY prog0 (cg prog0 Bn 12)) [24,9,9,9,25,26,3,5] xs->∃N,Ω N 3 (xs.map .p) []=some (pB true,[]):=by
 intro xs h;obtain⟨x1,r1,rfl,h1,h⟩:=h.cons_inv;obtain⟨x2,r2,rfl,h2,h⟩:=h.cons_inv;obtain⟨x3,r3,rfl,h3,h⟩:=h.cons_inv;obtain⟨x4,r4,rfl,h4,h⟩:=h.cons_inv;obtain⟨x5,r5,rfl,h5,h⟩:=h.cons_inv;obtain⟨x6,r6,rfl,h6,h⟩:=h.cons_inv;obtain⟨x7,r7,rfl,h7,h⟩:=h.cons_inv;obtain⟨x8,r8,rfl,h8,h⟩:=h.cons_inv;obtain rfl:=h.nil_inv;obtain⟨p,rfl,hl,hp⟩:=ϗ (n:=2) h1;obtain⟨t,rfl⟩:=Wo (n:=11) h2;obtain⟨m,rfl⟩:=Wo (n:=11) h3;obtain⟨key,rfl⟩:=Wo (n:=11) h4;obtain⟨args,rfl,al,ha⟩:=Ϙ (n:=8) h5;obtain⟨ip,rfl,hi⟩:=ϕ (n:=5) h6;obtain⟨lm,rfl,_⟩:=aaA (n:=11) h7;obtain⟨q,e,hw⟩:=nh (k:= .u8) adi (DF adi h8);simp only[lτ,and_true]at e;subst e;have hq:0<=q/\q<256:=by
  simp only[Lit.wf,lγ,lε]at hw;have h1:IntKind.u8.min=0:=rfl;have h2:IntKind.u8.max=255:=rfl;rw[h1,h2]at hw;omega
 exact⟨1048577+4,acC (n:=1048577) p t m key args ip lm q hq (ų hl hp al ha hi) (by omega) (by omega) (YL (n:=1048579))⟩
end
end Go.Ab
