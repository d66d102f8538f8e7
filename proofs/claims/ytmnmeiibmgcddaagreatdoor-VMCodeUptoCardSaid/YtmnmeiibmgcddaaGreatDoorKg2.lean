import Derived.Test.YtmnmeiibmgcddaaGreatDoorKg1
import Derived.Test.YtmnmeiibmgcddaaGreatDoorOg2
import Derived.Test.YtmnmeiibmgcddaaGreatDoorKg0
import Derived.Test.YtmnmeiibmgcddaaGreatDoorAm5
import Derived.KernelRfl
import Derived.Test.YtmnmeiibmgcddaaGreatDoorAl
set_option linter.all false
namespace Go.Ab
open Go
set_option maxRecDepth 100000
noncomputable section
def mc0:Mc:=⟨0,0,0,[]⟩
structure MU where
 k:Int
 v:Va
 (tT tK mn:LN)
 ar:List Va
 er:Int
 mc:Mc
 fs:List Va
 es:List Ef
 fu:Int
def MU.r (g:MU):cC:=⟨g.k,g.v.k,g.v.n,g.v.s,g.v.I.map iE,g.v.L.map .str,g.tT,g.tK,g.mn,g.ar.map Va.e,g.er,g.mc.ty,g.mc.me,g.mc.pc,g.mc.ls.map Va.e,g.fs.map Va.e,g.es.map Ef.e,g.fu⟩
def MU.e (g:MU):Da:=g.r.e
def Q5:MU:=⟨0,v0,[],[],[],[],0,mc0,[],[],0⟩
def m2 (er fu:Int)(fs:List Va):MU:=⟨3,v0,[],[],[],[],er,mc0,fs,[],fu⟩
def QH (a b:Int):Int:=bif aK b a then b else a
def No (s:Xs)(X:Xt):MU:=⟨X.ok,X.ov,X.tT,X.tK,X.mn,X.ar,0,bif az X.ok 2 then⟨s.ty,s.me,X.pc,X.ls⟩else mc0,X.fs,X.es,X.fu⟩
def I6 (s:Xs)(fuel:Int)(start:List Va):Nat->Int->Xt->MU
 |0,_,_=>Q5
 |n+1,u,X=>bif X.done then No s X else bif aV u fuel then
   (match B4 s X with
   |none=>Q5
   |some y=>bif az y.2 0 then I6 s fuel start n (u+1) {y.1 with fu:=u}else m2 y.2 (QH u fuel) start)
  else m2 17 (QH u fuel) start
structure ON (s:Xs)(P:Xt->Prop):Prop where
 w:∀X,P X->Wx s X
 g:∀X,P X->X.done=false->∃y,B4 s X=some y/\(y.2=0->∀u,P {y.1 with fu:=u})
 q:∀x∈s.q.code,∀q,fC s.c x.a x.b=some q->q.params.length<1501
def W9 (G:R)(g:MU):Prop:=∃a b c d e,G=some (.p g.e,[a,b,c,d,e])
def WK:tE (.tabO 6 0) (.tabO 6 0)=true:=by kernel_rfl
def R_ (c:Xn)(r:Int)(K:Xn->Int->R):dXs (c.bx 2:: .tabO 6 r::(c.rs++[.box [.box 0 0]])) K=K c r:=Ĉ 6 r (fun r=>K c r) WK
def S_ (c:Xn)(r:Int)(K:Xn->Int->R):dXt (c.hp 0++[.tabO 6 r,.box [.box 0 0]]) K=K c r:=Ĉ 6 r (fun r=>K c r) WK
def I9 {m:Nat}(s:Xs)(P:Xt->Prop)(hI:ON s P)(fuel:Int)(hf:fuel<1000000)(start:List Va)(hm:1521<=m)(k0 k1 k2:_->R)
  (h0:∀X J er u r,W9 (k0 (Xt.x s X J,[],[],[],[],er,start.length,QH u fuel,r,start.map Va.e)) (m2 er (QH u fuel) start))
  (h1:∀X J u r,W9 (k1 (Xt.x s X J,[],[],[],[],start.length,QH u fuel,r,start.map Va.e)) (m2 17 (QH u fuel) start))
  (h2:∀X J u b r,W9 (k2 (fuel,start.length,u,b,Xt.x s X J,[],[],[],[],r,start.map Va.e)) (No s X)):
  ∀(n q:Nat) (u:Int) (X:Xt) (J:LD),P X->1<=u->u<=fuel+1->fuel+2<=u+n->n<=q->W9 (itL (nv (cq lay0.tab m) m k0 k1 k2) q (fuel,start.length,u,Xt.x s X J,[],[],[],[],Wt s.q,start.map Va.e)) (I6 s fuel start n u X)
 |0,q,u,X,J,_,h1u,hn,hu,_=>by exfalso;omega
 |n+1,q+1,u,X,J,hP,h1u,hn,hu,hq=>by
  rw[aQ];unfold I6;show W9 (nv _ _ _ _ _ _ _) _;unfold nv;show W9 (iL (!X.done) _ _) _;cases hd:X.done with
  |true=>exact h2 X J u _ _
  |false=>
   rw[Bool.not_false,aN,cond_false];cases hl:aV u fuel with
   |false=>exact h1 X J u _
   |true=>
    rw[bk,lδ]at hl;obtain⟨y,hy,hPy⟩:=hI.g X hP hd;obtain⟨J',hJ⟩:=Xw s X J (hI.w X hP) hI.q hm hy;rw[aN,cond_true,hy];simp only;have hJ2:=ae hJ;unfold hsX at hJ2;rw[hJ2,ba,bV,R_];cases he:az y.2 0 with
    |false=>exact h0 y.1 J' y.2 u _
    |true=>
     rw[Bool.not_true,aX,cond_true,cV (by omega) (by omega)];exact I9 s P hI fuel hf start hm k0 k1 k2 h0 h1 h2 n q (u+1) {y.1 with fu:=u} J' (hPy (eqI_t.1 he) u) (by omega) (by omega) (by omega) (by omega)
variable {m:Nat}
def Ĭ (s:Xs)(P:Xt->Prop)(hI:ON s P)(fuel:Int)(hf:0<=fuel/\fuel<1000000)(X:Xt)(J:LD)(hP:P X)(hl:X.fs.length<1501)(hm:1000010<=m):W9 (Ω m 57 [.box 0 0,pI fuel] ((X.x s J).hp 0)) (I6 s fuel X.fs (fuel.toNat+1) 1 X):=by
 obtain⟨m,rfl,hm⟩:=Go.Ab.fuel hm;suffices hs:W9 (JD (cq lay0.tab m) m (X.x s J) fuel) (I6 s fuel X.fs (fuel.toNat+1) 1 X) by
  obtain⟨a,b,c,d,e,h⟩:=hs;exact⟨a,b,c,d,e,Ľ m (X.x s J) fuel _ h⟩
 unfold JD;rw[ae (Si (X.x s J) (m:=m) (by omega)),show ∀K,g_ 5 (.map 5) K=K from fun _=>rfl,S_];have hv:∀v∈X.fs,Lg v:=fun v hv=>m3 ((hI.w X hP).fs v hv)
 have hc:=ae (Jz X.fs hl hv (m:=m) (by omega));rw[show(X.x s J).fn=X.fs.length from rfl,show(X.x s J).fs=X.fs.map Va.e from rfl,hc,dV];simp only[aY,fg,aC];have e:(Xn.mk (X.x s J).ct (X.x s J).mn (X.x s J).mp (X.x s J).mr (X.x s J).ml (X.x s J).mc (X.x s J).aT (X.x s J).aM (X.x s J).aP (X.x s J).ln (X.x s J).ky X.fs.length (X.x s J).sn (X.x s J).en (X.x s J).dn (X.x s J).oK (X.x s J).vK (X.x s J).vN (X.x s J).vS (X.x s J).vI (X.x s J).vL (X.x s J).tT (X.x s J).tK (X.x s J).me (X.x s J).ar (X.x s J).er (X.x s J).oT (X.x s J).oM (X.x s J).oP (X.x s J).ol (X.x s J).of (X.x s J).oe (X.x s J).fu (X.x s J).ls (X.fs.map Va.e) (X.x s J).st (X.x s J).es)=X.x s J:=rfl;have tkA:List.take X.fs.length (X.fs.map Va.e)=X.fs.map Va.e:=lξ (by rw[lα];exact Nat.le_refl _);refine I9 s P hI fuel hf.2 X.fs (by omega) _ _ _ (fun Y K er u r=>?_) (fun Y K u r=>?_) (fun Y K u b r=>?_) (fuel.toNat+1) m 1 X J hP (by omega) (by omega) (by omega) (by omega)
 ·rw[List.drop_zero,tkA];exact⟨_,_,_,_,_,rfl⟩
 ·rw[List.drop_zero,tkA];exact⟨_,_,_,_,_,rfl⟩
 ·show W9 (iL (az Y.ok 2) _ _) _;unfold No;have t1:List.take Y.ls.length (Y.ls.map Va.e)=Y.ls.map Va.e:=lξ (by rw[lα];exact Nat.le_refl _);have t2:List.take Y.fs.length (Y.fs.map Va.e)=Y.fs.map Va.e:=lξ (by rw[lα];exact Nat.le_refl _);have t3:List.take Y.es.length (Y.es.map Ef.e)=Y.es.map Ef.e:=lξ (by rw[lα];exact Nat.le_refl _);simp only[List.drop_zero,show(Xt.x s Y K).ln=Y.ls.length from rfl,show(Xt.x s Y K).ls=Y.ls.map Va.e from rfl,show(Xt.x s Y K).fn=Y.fs.length from rfl,show(Xt.x s Y K).fs=Y.fs.map Va.e from rfl,show(Xt.x s Y K).en=Y.es.length from rfl,show(Xt.x s Y K).es=Y.es.map Ef.e from rfl,t1,t2,t3];cases az Y.ok 2 with
  |true=>exact⟨_,_,_,_,_,rfl⟩
  |false=>exact⟨_,_,_,_,_,rfl⟩
def pr (c:List Ct)(x:Mc)(key:LN)(fs:List Va)(rp:Va)(fuel:Int):Bool:=qD c x&&(!aK 32 key.length&&(WV c x.ty fs&&(!aK fuel 0&&(!aK 20000 fuel&&kh rp (Yi c x)))))
def X0 (x:Mc)(fs:List Va)(rp:Va):Xt:=⟨x.pc,x.ls,fs,bif az rp.k 0 then[]else[rp],[],false,0,v0,[],[],[],[],0⟩
def S0 (c:List Ct)(x:Mc)(key:LN):Xs:=⟨c,(mL c x.ty x.me).getD m0,x.ty,x.me,key⟩
def I7 (c:List Ct)(x:Mc)(key:LN)(fs:List Va)(rp:Va)(fuel:Int):MU×Int:=bif pr c x key fs rp fuel then(I6 (S0 c x key) fuel fs (fuel.toNat+1) 1 (X0 x fs rp),0)else(Q5,1)
def Ï {c:List Ct}(hc:zB c)(x:Mc)(key:LN)(fs:List Va)(rp:Va)(fuel:Int)(hfs:fs.length<1501)(hm:400020<=m)(k0:_->R):qQ (cq lay0.tab m) m k0 (key,fs.map Va.e,fuel,(bif qD c x then Yi c x else 0),qD c x,c4 c,x.r,rp.r,[],[],[],[])=k0 (key,fs.map Va.e,fuel,!pr c x key fs rp fuel,c4 c,x.r,rp.r,[],[],[],[]):=by
 unfold qQ pr;have h1:=ae (ī hc x.ty fs hfs (m:=m) (by omega));change ∀k,cq lay0.tab m _ [.p (.agg [.slice 3 (c4 c).Types]),pI x.r.Type_,_] [] k=_ at h1;have h2:=fun k=>ae (Cj rp k (m:=m) (by omega))
 change ∀k K,cq lay0.tab m _ [.p rp.r.e,_] [] K=_ at h2
 simp only[h1,h2,ba,aL,aC];cases qD c x<;>cases aK 32 (key.length:Int)<;>cases WV c x.ty fs<;>cases aK fuel 0<;>cases aK 20000 fuel<;>rfl
def Ī {c:List Ct}(hc:zB c)(x:Mc)(key:LN)(fs:List Va)(rp:Va)(fuel:Int)(hfs:fs.length<1501)(hll:x.ls.length<1501)(hlv:∀v∈x.ls,Lg v)(hfv:∀v∈fs,Lg v)(hrv:Lg rp)(hI:pr c x key fs rp fuel=true->∃P,ON (S0 c x key) P/\P (X0 x fs rp))(hm:1000020<=m):Ω m 24 [.p (c4 c).e,.p x.e,pS key,pL 5 (fs.map Va.e),.p rp.e,pI fuel] []=some (.tup [.p (I7 c x key fs rp fuel).1.e,pI (I7 c x key fs rp fuel).2],[]):=by
 obtain⟨m,rfl,hm⟩:=Go.Ab.fuel hm;apply ĺ m (c4 c) x.r key (fs.map Va.e) rp.r fuel;unfold Sp I7;refine(ae (OE hc x (m:=m) (by omega)) _).trans ?_;simp only[dB,aY,ba,bV,aL,aC];rw[Ï hc x key fs rp fuel hfs (by omega)];cases hok:pr c x key fs rp fuel with
 |false=>rfl
 |true=>
  obtain⟨P,hP,hP0⟩:=hI hok;rw[Bool.not_true,aX,cond_true];refine(ae (ul hc x (m:=m) (by omega)) _).trans ?_;simp only[dB,aY,ba,GP,aL,aC];have hfl:0<=fuel/\fuel<1000000:=by
   unfold pr at hok;simp only[lγ,Bool.not_eq_true',bT,lζ]at hok;omega
  rw[ae (sP fs hfs hfv (m:=m) (by omega)),dV];simp only[aY,fg,aC];rw[show x.r.Locals=x.ls.map Va.e from rfl,ae (sP x.ls hll hlv (m:=m) (by omega)),dV];simp only[aY,fg,aC];obtain⟨a,b,c',d,e,hrun⟩:=Ĭ (m:=m) (S0 c x key) P hP fuel hfl (X0 x fs rp) [] hP0 hfs (by omega);have hrun2:=ae hrun;show iL (!az rp.k 0) _ _=_;cases hk:az rp.k 0 with
  |true=>
   rw[Bool.not_true,aX];have ex:(X0 x fs rp).x (S0 c x key) []=(⟨c.map Ct.e,((mL c x.ty x.me).getD m0).name,((mL c x.ty x.me).getD m0).params.map iE,((mL c x.ty x.me).getD m0).res,((mL c x.ty x.me).getD m0).locals.map iE,((mL c x.ty x.me).getD m0).code.map Cd.e,x.ty,x.me,x.pc,x.ls.length,key,fs.length,0,0,false,0,0,0,[],[],[],[],[],[],[],0,0,0,0,[],[],[],0,x.ls.map Va.e,fs.map Va.e,[],[]⟩:Xn):=by
    unfold X0;rw[hk];rfl
   rw[ex]at hrun2;refine(hrun2 _).trans ?_;simp only[ba,aY,aC];rfl
  |false=>
   rw[Bool.not_false,aN];refine(ae (iN rp hrv (m:=m) (by omega)) _).trans ?_;simp only[Va.cl,Va.ch,qa,aY,ba,bV,jZ,dV,aC,fg];have hpu:=ae (EU (S0 c x key) ⟨x.pc,x.ls,fs,[],[],false,0,v0,[],[],[],[],0⟩ [] rp (by simp) (m:=m) (by omega));refine(hpu _).trans ?_;rw[dB,aC,ĉ];have ex:(X0 x fs rp)=fX ⟨x.pc,x.ls,fs,[],[],false,0,v0,[],[],[],[],0⟩ rp:=by
    unfold X0 fX;rw[hk];rfl
   rw[ex]at hrun2;refine(hrun2 _).trans ?_;simp only[ba,aY,aC];rw[ex];rfl
def FvL:LI->List Va->Prop
 |[],[]=>True
 |k::r,v::l=>Fv k v/\FvL r l
 |_,_=>False
def FvL.len:∀{ks:LI} {l:List Va},FvL ks l->l.length=ks.length
 |[],[],_=>rfl
 |k::r,v::l,h=>by simp only[List.length_cons,FvL.len h.2]
def FvL.wk:∀{ks:LI} {l:List Va},FvL ks l->∀v∈l,Wk v
 |[],[],_,v,hv=>by cases hv
 |k::r,u::l,h,v,hv=>by
  rcases mγ.1 hv with rfl|hv
  ·exact BA h.1
  ·exact FvL.wk h.2 v hv
def FvL.app:∀{a b:LI} {x y:List Va},FvL a x->FvL b y->FvL (a++b) (x++y)
 |[],_,[],_,_,h=>h
 |_::_,_,_::_,_,h,g=>⟨h.1,FvL.app h.2 g⟩
def FvL.take:∀{ks:LI} {l:List Va} (n:Nat),FvL ks l->FvL (ks.take n) (l.take n)
 |[],[],n,_=>by rw[List.take_nil,List.take_nil];trivial
 |_::_,_::_,0,_=>trivial
 |_::_,_::_,n+1,h=>⟨h.1,FvL.take n h.2⟩
def FvL.drop:∀{ks:LI} {l:List Va} (n:Nat),FvL ks l->FvL (ks.drop n) (l.drop n)
 |[],[],n,_=>by rw[List.drop_nil,List.drop_nil];trivial
 |_::_,_::_,0,h=>h
 |_::_,_::_,n+1,h=>FvL.drop n h.2
def FvL.fit:∀{ks:LI} {l:List Va},FvL ks l->yg l ks=true
 |[],[],_=>rfl
 |k::r,v::l,h=>by show(kh v k&&yg l r)=true;rw[h.1.1,FvL.fit h.2];rfl
def FZ (v:Va):Prop:=kg v.n/\∀x∈v.I,kg x
def FvL.of:∀{ks:LI} {l:List Va},yg l ks=true->(∀v∈l,FZ v)->FvL ks l
 |[],[],_,_=>trivial
 |k::r,v::l,h,hv=>by
  have h:(kh v k&&yg l r)=true:=h;rw[lγ]at h;exact⟨⟨h.1,hv v lχ⟩,FvL.of h.2 fun u hu=>hv u (mα _ hu)⟩
 |[],_::_,h,_=>by cases h
 |_::_,[],h,_=>by cases h
def FvL.get:∀{ks:LI} {l:List Va} {i:Nat} {k:Int},FvL ks l->ks[i]?=some k->∃v,l[i]?=some v/\Fv k v
 |_::_,v::_,0,_,h,e=>by cases e;exact⟨v,rfl,h.1⟩
 |_::_,_::_,i+1,k,h,e=>FvL.get (i:=i) (k:=k) h.2 e
 |[],[],i,k,_,e=>by simp at e
def FvL.set:∀{ks:LI} {l:List Va} {i:Nat} {k:Int} {v:Va},FvL ks l->ks[i]?=some k->Fv k v->FvL ks (l.set i v)
 |_::_,_::_,0,_,_,h,e,hv=>by cases e;exact⟨hv,h.2⟩
 |_::_,_::_,i+1,_,_,h,e,hv=>⟨h.1,FvL.set h.2 e hv⟩
 |[],[],i,k,v,_,e,_=>by simp at e
def FvL.same:∀{k:Int} {n:Nat} {l:List Va},FvL (List.replicate n k) l->∀v∈l,Fv k v
 |k,0,[],_,v,hv=>by cases hv
 |k,n+1,u::l,h,v,hv=>by
  rcases mγ.1 hv with rfl|hv
  ·exact h.1
  ·exact FvL.same (n:=n) h.2 v hv
structure kY (ks:LI)(set:Nat)(ls:List Va):Prop where
 n:ls.length=ks.length
 a:∀(i:Nat) (k:Int) (v:Va),ks[i]?=some k->ls[i]?=some v->Fv k v\/(v=v0/\set.testBit i=false)
variable {ks:LI}
def kY.sub {a b:Nat}{ls:List Va}(h:kY ks b ls)(hs:a &&& b=a):kY ks a ls:=⟨h.n,fun i k v hk hv=>by
 rcases h.a i k v hk hv with h|⟨h,hb⟩
 ·exact .inl h
 ·refine .inr ⟨h,?_⟩;have:=congrArg (fun n=>Nat.testBit n i) hs;simp only[Nat.testBit_and,hb,Bool.and_false]at this;exact this.symm⟩
def kY.wk {a:Nat}{ls:List Va}(h:kY ks a ls):∀v∈ls,Wk v:=fun v hv=>by
 obtain⟨i,hi,rfl⟩:=qζ hv;have hk:i<ks.length:=by rw[<-h.n];exact hi
 rcases h.a i ks[i] ls[i] (lη hk) (lη hi)with h|⟨h,-⟩
 ·exact BA h
 ·rw[h];exact Ĥ
def kY.set {ks:LI}{a:Nat}{ls:List Va}{i:Nat}{k:Int}{v:Va}(h:kY ks a ls)(hk:ks[i]?=some k)(hv:Fv k v):kY ks (a ||| 2 ^ i) (ls.set i v):=⟨by rw[List.length_set];exact h.n,fun j q u hq hu=>by
 by_cases hj:j=i
 ·subst hj;rw[hk]at hq;cases hq;have hl:j<ls.length:=by rw[h.n];exact(List.getElem?_eq_some_iff.1 hk).1
  rw[qα hl]at hu;cases hu;exact .inl hv
 ·rw[mτ (fun e=>hj e.symm)]at hu;rcases h.a j q u hq hu with h|⟨h,hb⟩
  ·exact .inl h
  ·refine .inr ⟨h,?_⟩;rw[Nat.testBit_or,hb,Nat.testBit_two_pow_of_ne (fun e=>hj e.symm)];rfl⟩
structure ĭ (e:Ef):Prop where
 k:1<=e.k/\e.k<=3
 n:1<=e.n.length/\e.n.length<=32
 r:e.k=2->1<=e.a/\1<=e.b
 c:e.k=3->e.a=0/\e.b=0
structure EV (l:List Ef):Prop where
 n:l.length<=16
 a:∀e∈l,ĭ e
def ô (s:Xs)(S:List SV)(X:Xt):Prop:=(X.ok=1/\Fv s.q.res X.ov/\X.ar=[])\/(X.ok=2/\X.ov=v0/\∃(pc:Nat) (x:Cd) (v:SV) (t:Ct) (q:Cm),X.pc=((pc+1:Nat):Int)/\s.q.code[pc]?=some x/\x.op=30/\S[pc+1]?=some v/\kY s.q.locals v.set X.ls/\dK s.c x.a=some t/\dK t.methods x.b=some q/\X.tT=t.name/\X.mn=q.name/\X.tK.length<=32/\FvL q.params X.ar)
structure Gd (s:Xs)(t:Ct)(S:List SV)(X:Xt):Prop where
 fs:FvL (t.fields.map Fe.kind) X.fs
 es:EV X.es
 ls:∀v∈X.ls,Wk v
 st:(∀v∈X.st,Wk v)/\X.st.length<=40
 pc:0<=X.pc/\X.pc<=1501
 lv:X.done=false->∃(pc:Nat) (v:SV),X.pc=(pc:Int)/\S[pc]?=some v/\FvL v.st X.st/\kY s.q.locals v.set X.ls
 dn:X.done=true->ô s S X
def Gd.fu {s t S X}(h:Gd s t S X)(u:Int):Gd s t S {X with fu:=u}:=⟨h.fs,h.es,h.ls,h.st,h.pc,h.lv,h.dn⟩
structure ð (s:Xs)(t:Ct)(S:List SV):Prop where
 f:MT s.c t s.q
 x:Fix s.c t s.q S
 v:∀y∈s.q.code,FZ y.v
def M1 {c t m x}{K K':LI}(h:xF c t m x K=some (K',true)):∃l e,dh c t m x (dT K)=some l/\e∈l/\e.1.length<=K.length/\K.drop (K.length - e.1.length)=e.1/\K'=K.take (K.length - e.1.length)++e.2/\(x.op=30\/x.op=32->K.take (K.length - e.1.length)=[])/\(K=[]->x.op≠15/\x.op≠16/\x.op≠31):=by
 unfold xF at h;cases hb:K.isEmpty&&(az x.op 15||(az x.op 16||az x.op 31))with
 |true=>rw[hb]at h;cases h
 |false=>
  rw[hb,cond_false]at h;cases he:dh c t m x (dT K)with
  |none=>rw[he]at h;cases h
  |some l=>
   rw[he]at h;have h:=Option.some.inj h;have last:K=[]->x.op≠15/\x.op≠16/\x.op≠31:=fun e=>by
    subst e;simp only[List.isEmpty_nil,Bool.true_and,qγ,bp,lζ]at hb;exact⟨hb.1,hb.2.1,hb.2.2⟩
   have go:∀l:List Ek,zG x.op K l=(K',true)->∃e,e∈l/\e.1.length<=K.length/\K.drop (K.length - e.1.length)=e.1/\K'=K.take (K.length - e.1.length)++e.2/\(x.op=30\/x.op=32->K.take (K.length - e.1.length)=[]):=by
    intro l;induction l with
    |nil=>intro h;cases h
    |cons e r ih=>
     intro h;unfold zG at h;revert h;by_cases h1:K.length<e.1.length
     ·rw[lκ h1];intro h;obtain⟨e',h1,h2⟩:=ih h;exact⟨e',mα _ h1,h2⟩
     ·rw[mβ h1];by_cases h2:K.drop (K.length - e.1.length)=e.1
      ·rw[lκ h2];cases h3:decide (0<K.length - e.1.length)&&(az x.op 32||az x.op 30)with
       |true=>intro h;cases h
       |false=>
        intro h;simp only[cond_true,cond_false,lτ,lδ]at h;refine⟨e,lχ,by omega,h2,h.1.symm,fun ho=>?_⟩
        rw[Bool.and_eq_false_iff,lζ,qγ,bp,bp,lζ,lζ]at h3;have:K.length - e.1.length=0:=by omega
        rw[this,List.take_zero]
      ·rw[mβ h2];intro h;obtain⟨e',h1,h2⟩:=ih h;exact⟨e',mα _ h1,h2⟩
   obtain⟨e,h1,h2,h3,h4,h5⟩:=go l h;exact⟨l,e,rfl,h1,h2,h3,h4,h5,last⟩
variable {pc:Nat}
def WG {m:Cm}{x:Cd}(h:(fo m pc x).2=true)(h1:x.op≠32)(h2:x.op≠33)(h3:x.op≠28)(h4:x.op≠29):(fo m pc x).1=[((pc+1:Nat):Int)]:=by
 have e:∀{k:Int},x.op≠k->az x.op k=false:=fun h=>by rw[bp];exact mβ h
 unfold fo at h ⊢
 rw[e h1,e h2,e h3,e h4]at h ⊢
 revert h
 cases decide (pc+1=m.code.length)with
 |true=>intro h;cases h
 |false=>intro _;rfl
section
variable {a:Int}
def yj {l:List Va}(h:FvL [a] l):∃x,l=[x]/\Fv a x:=by
 match l,h with
 |[x],h=>exact⟨x,rfl,h.1⟩
def k9 {b:Int}{l:List Va}(h:FvL [a,b] l):∃x y,l=[x,y]/\Fv a x/\Fv b y:=by
 match l,h with
 |[x,y],h=>exact⟨x,y,rfl,h.1,h.2.1⟩
def Ζ {b c:Int}{l:List Va}(h:FvL [a,b,c] l):∃x y z,l=[x,y,z]/\Fv a x/\Fv b y/\Fv c z:=by
 match l,h with
 |[x,y,z],h=>exact⟨x,y,z,rfl,h.1,h.2.1,h.2.2.1⟩
structure hC (s:Xs)(t:Ct)(S:List SV)(X:Xt)(pc:Nat)(x:Cd)(v:SV)(e:Ek)(st':LI)(l:List Va)(Y:Xt):Prop where
 hx:ð s t S
 g:Gd s t S X
 hc:s.q.code[pc]?=some x
 hv:S[pc]?=some v
 hpc:X.pc=(pc:Int)
 hls:kY s.q.locals v.set X.ls
 hin:gY s.c t s.q x=true
 s2:(fo s.q pc x).2=true
 to:∀k∈(fo s.q pc x).1,Has S k.toNat st' (m9 x v.set)
 st:∃K0,st'=K0++e.2/\FvL K0 Y.st/\(x.op=30\/x.op=32->Y.st=[]/\K0=[])
 l:FvL e.1 l
 le:st'.length<=40
 y:Y={X with pc:=X.pc+1,st:=Y.st}
 d:X.done=false
def hC.nxt {s t S X pc x v e st' l Y}(h:hC s t S X pc x v e st' l Y){Z:Xt}(h1:Z.pc∈(fo s.q pc x).1)(h2:FvL st' Z.st)(h3:kY s.q.locals (m9 x v.set) Z.ls)(h4:FvL (t.fields.map Fe.kind) Z.fs)(h5:EV Z.es)(h6:Z.done=false):Gd s t S Z:=by
 have hpl:pc<s.q.code.length:=(List.getElem?_eq_some_iff.1 h.hc).1;obtain⟨u,hu,-,hus,hub⟩:=h.to _ h1;obtain⟨r1,r2⟩:=(WF h.hin hpl h.s2).1 _ h1;have hcl:=h.hx.f.z.c;have hl:=h.le;refine⟨h4,h5,h3.wk,⟨h2.wk,by rw[h2.len];exact hl⟩,⟨r1,by omega⟩,fun _=>⟨Z.pc.toNat,u,(mυ r1).symm,hu,hus▸h2,h3.sub hub⟩,fun hd=>by rw[h6]at hd;cases hd⟩
def qB {x:Cd}{set:Nat}(h:x.op≠3):m9 x set=set:=by
 unfold m9;rw[show az x.op 3=false by rw[bp];exact mβ h];rfl
section
variable {s:Xs} {t:Ct} {S:List SV} {X:Xt} {pc:Nat} {x:Cd} {v:SV} {e:Ek} {st':LI} {l:List Va} {Y:Xt} (h:hC s t S X pc x v e st' l Y)
include h
def hC.ls:Y.ls=X.ls:=by rw[h.y]
def hC.fs:Y.fs=X.fs:=by rw[h.y]
def hC.es:Y.es=X.es:=by rw[h.y]
def hC.dn:Y.done=false:=by rw[h.y];exact h.d
def hC.pcN:Y.pc=((pc+1:Nat):Int):=by rw[h.y];show X.pc+1=_;rw[h.hpc];omega
def hC.nx (h1:x.op≠32)(h2:x.op≠33)(h3:x.op≠28)(h4:x.op≠29):Y.pc∈(fo s.q pc x).1:=by
 rw[WG h.s2 h1 h2 h3 h4,h.pcN];exact List.mem_singleton.2 rfl
def hC.psh {k:Int}{w:Va}(he:e.2=[k])(hw:Fv k w)(h0:x.op≠3)(h1:x.op≠32)(h2:x.op≠33)(h3:x.op≠28)(h4:x.op≠29):Gd s t S (fX Y w):=by
 obtain⟨K0,k1,k2,-⟩:=h.st;refine h.nxt (Z:=fX Y w) (h.nx h1 h2 h3 h4) ?_ ?_ ?_ ?_ h.dn
 ·rw[k1,he];exact k2.app ⟨hw,trivial⟩
 ·rw[qB h0];show kY _ _ Y.ls;rw[h.ls];exact h.hls
 ·show FvL _ Y.fs;rw[h.fs];exact h.g.fs
 ·show EV Y.es;rw[h.es];exact h.g.es
def hC.pshR {k:Int}{r:Va×Int}(he:e.2=[k])(hw:Į k r)(h0:x.op≠3)(h1:x.op≠32)(h2:x.op≠33)(h3:x.op≠28)(h4:x.op≠29):(fR r Y).2=0->Gd s t S (fR r Y).1:=fun hz=>by
 have hz:r.2=0:=hz;unfold fR;rw[eqI_t.2 hz];exact h.psh he (hw hz) h0 h1 h2 h3 h4
def hC.pop (he:e.2=[]){Z:Xt}(hp:Z.pc∈(fo s.q pc x).1)(hs:Z.st=Y.st)(hl:kY s.q.locals (m9 x v.set) Z.ls)(hf:FvL (t.fields.map Fe.kind) Z.fs)(hes:EV Z.es)(hd:Z.done=false):Gd s t S Z:=by
 obtain⟨K0,k1,k2,-⟩:=h.st;refine h.nxt hp ?_ hl hf hes hd;rw[k1,he,mη,hs];exact k2
def hC.ask (he:e.2=[])(h0:x.op≠3)(h1:x.op≠32)(h2:x.op≠33)(h3:x.op≠28)(h4:x.op≠29){r:Ef×Int}(hr:r.2=0->ĭ r.1/\Y.es.length<16):(xI r Y).2=0->Gd s t S (xI r Y).1:=fun hz=>by
 have hz:r.2=0:=hz;obtain⟨g1,g2⟩:=hr hz;unfold xI;rw[eqI_t.2 hz];refine h.pop he (Z:={Y with es:=Y.es++[r.1]}) (h.nx h1 h2 h3 h4) rfl ?_ ?_ ⟨?_,fun y hy=>?_⟩ h.dn
 ·rw[qB h0];show kY _ _ Y.ls;rw[h.ls];exact h.hls
 ·show FvL _ Y.fs;rw[h.fs];exact h.g.fs
 ·show(Y.es++[r.1]).length<=16;rw[lε];simp only[List.length_singleton];omega
 ·rcases qε.1 hy with hy|hy
  ·rw[h.es]at hy;exact h.g.es.a y hy
  ·rw[List.mem_singleton.1 hy];exact g1
end
def fd (s:Xs)(t:Ct)(S:List SV)(x:Cd)(e:Ek)(l:List Va)(Y:Xt):Prop:=∃f,VE s x=some ((e.1.length:Int),f)/\∃y,f l Y=some y/\(y.2=0->Gd s t S y.1)
def bi {n k:Int}(h:decide (n=k)=false):n≠k:=of_decide_eq_false h
variable {st':LI} {Y:Xt} {vv:Va}
def Ι {s:Xs}{t:Ct}{S:List SV}{X:Xt}{v:SV}{e:Ek}{l:List Va}{b:Int}(h:hC s t S X pc ⟨1,a,b,vv⟩ v e st' l Y)(L:List Ek)(he:dh s.c t s.q ⟨1,a,b,vv⟩ (dT v.st)=some L)(hel:e∈L):fd s t S ⟨1,a,b,vv⟩ e l Y:=by
 obtain rfl:=Option.some.inj he;obtain rfl:=List.mem_singleton.1 hel;have hi:=lc h.hin;have hi:(kj vv&&!az vv.k 0)=true:=hi;rw[lγ]at hi;have hw:Fv vv.k vv:=⟨by unfold kh;rw[hi.1,eqI_t.2 rfl];rfl,h.hx.v _ (mθ h.hc)⟩
 exact⟨_,rfl,_,rfl,fun _=>h.psh rfl hw (bi rfl) (bi rfl) (bi rfl) (bi rfl) (bi rfl)⟩
def Κ {s:Xs}{t:Ct}{S:List SV}{X:Xt}{v:SV}{e:Ek}{l:List Va}{b:Int}(h:hC s t S X pc ⟨2,a,b,vv⟩ v e st' l Y)(L:List Ek)(he:dh s.c t s.q ⟨2,a,b,vv⟩ (dT v.st)=some L)(hel:e∈L):fd s t S ⟨2,a,b,vv⟩ e l Y:=by
 have he:(dK s.q.locals a).map (fun k=>[(([],[k]):Ek)])=some L:=he;cases hk:dK s.q.locals a with
 |none=>rw[hk]at he;cases he
 |some k=>
 rw[hk]at he;obtain rfl:=Option.some.inj he;obtain rfl:=List.mem_singleton.1 hel;obtain⟨g1,g2,g3⟩:=kZ hk;have hlen:=h.hls.n;obtain⟨w,hw,hwm⟩:=jW (l:=X.ls) (x:=a) ⟨g1,by omega⟩
 obtain⟨-,-,hw2⟩:=kZ hw;have hbit:v.set.testBit a.toNat=true:=h.hx.x.l pc _ v h.hc h.hv rfl;have hfv:Fv k w:=by
  rcases h.hls.a a.toNat k w g3 hw2 with h|⟨-,h⟩
  ·exact h
  ·rw[hbit]at h;cases h
 refine⟨_,rfl,(fX Y w,0),?_,fun _=>h.psh rfl hfv (bi rfl) (bi rfl) (bi rfl) (bi rfl) (bi rfl)⟩
 show(dK Y.ls a).map _=_;rw[h.ls,hw];rfl
def Μ {s:Xs}{t:Ct}{S:List SV}{X:Xt}{v:SV}{e:Ek}{l:List Va}{b:Int}(h:hC s t S X pc ⟨4,a,b,vv⟩ v e st' l Y)(L:List Ek)(he:dh s.c t s.q ⟨4,a,b,vv⟩ (dT v.st)=some L)(hel:e∈L):fd s t S ⟨4,a,b,vv⟩ e l Y:=by
 have he:(dK t.fields a).map (fun f=>[(([],[f.kind]):Ek)])=some L:=he;cases hk:dK t.fields a with
 |none=>rw[hk]at he;cases he
 |some k=>
 rw[hk]at he;obtain rfl:=Option.some.inj he;obtain rfl:=List.mem_singleton.1 hel;obtain⟨g1,g2,g3⟩:=kZ hk;obtain⟨w,hw,hfv⟩:=h.g.fs.get (i:=a.toNat) (k:=k.kind) (by rw[lσ,g3];rfl);refine⟨_,rfl,(fX Y w,0),?_,fun _=>h.psh rfl hfv (bi rfl) (bi rfl) (bi rfl) (bi rfl) (bi rfl)⟩
 show(dK Y.fs a).map _=_;rw[h.fs];unfold dK;rw[if_pos g1,hw];rfl
def Ξ {s:Xs}{t:Ct}{S:List SV}{X:Xt}{v:SV}{e:Ek}{l:List Va}{b:Int}(h:hC s t S X pc ⟨6,a,b,vv⟩ v e st' l Y)(L:List Ek)(he:dh s.c t s.q ⟨6,a,b,vv⟩ (dT v.st)=some L)(hel:e∈L)(hky:s.ky.length<=32):fd s t S ⟨6,a,b,vv⟩ e l Y:=by
 obtain rfl:=Option.some.inj he;obtain rfl:=List.mem_singleton.1 hel;exact⟨_,rfl,_,rfl,fun _=>h.psh rfl (fv3.2 ⟨s.ky,rfl,by omega⟩) (bi rfl) (bi rfl) (bi rfl) (bi rfl) (bi rfl)⟩
def Λ {s:Xs}{t:Ct}{S:List SV}{X:Xt}{v:SV}{e:Ek}{l:List Va}{b:Int}(h:hC s t S X pc ⟨3,a,b,vv⟩ v e st' l Y)(L:List Ek)(he:dh s.c t s.q ⟨3,a,b,vv⟩ (dT v.st)=some L)(hel:e∈L):fd s t S ⟨3,a,b,vv⟩ e l Y:=by
 have he:(dK s.q.locals a).map (fun k=>[(([k],[]):Ek)])=some L:=he;cases hk:dK s.q.locals a with
 |none=>rw[hk]at he;cases he
 |some k=>
 rw[hk]at he;obtain rfl:=Option.some.inj he;obtain rfl:=List.mem_singleton.1 hel;obtain⟨g1,g2,g3⟩:=kZ hk;obtain⟨w,rfl,hw⟩:=yj h.l;have hlen:=h.hls.n;obtain⟨z,hz,-⟩:=jW (l:=X.ls) (x:=a) ⟨g1,by omega⟩
 refine⟨_,rfl,({Y with ls:=Y.ls.set a.toNat w},0),?_,fun _=>h.pop rfl (Z:={Y with ls:=Y.ls.set a.toNat w}) (h.nx (bi rfl) (bi rfl) (bi rfl) (bi rfl)) rfl ?_ ?_ ?_ h.dn⟩
 ·show(some w).bind _=_;rw[Option.bind_some,h.ls,hz];rfl
 ·show kY _ (v.set ||| 2 ^ a.toNat) (Y.ls.set a.toNat w);rw[h.ls];exact h.hls.set g3 hw
 ·show FvL _ Y.fs;rw[h.fs];exact h.g.fs
 ·show EV Y.es;rw[h.es];exact h.g.es
def Ν {s:Xs}{t:Ct}{S:List SV}{X:Xt}{v:SV}{e:Ek}{l:List Va}{b:Int}(h:hC s t S X pc ⟨5,a,b,vv⟩ v e st' l Y)(L:List Ek)(he:dh s.c t s.q ⟨5,a,b,vv⟩ (dT v.st)=some L)(hel:e∈L):fd s t S ⟨5,a,b,vv⟩ e l Y:=by
 have he:(dK t.fields a).map (fun f=>[(([f.kind],[]):Ek)])=some L:=he;cases hk:dK t.fields a with
 |none=>rw[hk]at he;cases he
 |some k=>
 rw[hk]at he;obtain rfl:=Option.some.inj he;obtain rfl:=List.mem_singleton.1 hel;obtain⟨g1,g2,g3⟩:=kZ hk;obtain⟨w,rfl,hw⟩:=yj h.l;obtain⟨z,hz,-⟩:=h.g.fs.get (i:=a.toNat) (k:=k.kind) (by rw[lσ,g3];rfl);refine⟨_,rfl,({Y with fs:=Y.fs.set a.toNat w},0),?_,fun _=>h.pop rfl (Z:={Y with fs:=Y.fs.set a.toNat w}) (h.nx (bi rfl) (bi rfl) (bi rfl) (bi rfl)) rfl ?_ ?_ ?_ h.dn⟩
 ·show(some w).bind _=_;rw[Option.bind_some,h.fs];unfold dK;rw[if_pos g1,hz];rfl
 ·rw[qB (bi rfl)];show kY _ _ Y.ls;rw[h.ls];exact h.hls
 ·show FvL _ (Y.fs.set a.toNat w);rw[h.fs];exact h.g.fs.set (by rw[lσ,g3];rfl) hw
 ·show EV Y.es;rw[h.es];exact h.g.es
def Ο {s:Xs}{t:Ct}{S:List SV}{X:Xt}{v:SV}{e:Ek}{l:List Va}{b:Int}(h:hC s t S X pc ⟨7,a,b,vv⟩ v e st' l Y)(L:List Ek)(he:dh s.c t s.q ⟨7,a,b,vv⟩ (dT v.st)=some L)(hel:e∈L):fd s t S ⟨7,a,b,vv⟩ e l Y:=by
 obtain rfl:=Option.some.inj he;obtain rfl:=List.mem_singleton.1 hel;obtain⟨w,rfl,hw⟩:=yj h.l;exact⟨_,rfl,_,rfl,h.pshR rfl Ϸ (bi rfl) (bi rfl) (bi rfl) (bi rfl) (bi rfl)⟩
def Ρ {s:Xs}{t:Ct}{S:List SV}{X:Xt}{v:SV}{e:Ek}{l:List Va}{b:Int}(h:hC s t S X pc ⟨8,a,b,vv⟩ v e st' l Y)(L:List Ek)(he:dh s.c t s.q ⟨8,a,b,vv⟩ (dT v.st)=some L)(hel:e∈L):fd s t S ⟨8,a,b,vv⟩ e l Y:=by
 obtain rfl:=Option.some.inj he;obtain rfl:=List.mem_singleton.1 hel;obtain⟨w,rfl,hw⟩:=yj h.l;exact⟨_,rfl,_,rfl,h.pshR rfl ϸ (bi rfl) (bi rfl) (bi rfl) (bi rfl) (bi rfl)⟩
def Τ {s:Xs}{t:Ct}{S:List SV}{X:Xt}{v:SV}{e:Ek}{l:List Va}{b:Int}(h:hC s t S X pc ⟨9,a,b,vv⟩ v e st' l Y)(L:List Ek)(he:dh s.c t s.q ⟨9,a,b,vv⟩ (dT v.st)=some L)(hel:e∈L):fd s t S ⟨9,a,b,vv⟩ e l Y:=by
 obtain rfl:=Option.some.inj he;obtain rfl:=List.mem_singleton.1 hel;obtain⟨w,z,rfl,hw,hz⟩:=k9 h.l;exact⟨_,rfl,_,rfl,h.pshR rfl (GG _ (.inl rfl) hw) (bi rfl) (bi rfl) (bi rfl) (bi rfl) (bi rfl)⟩
def Zw {s:Xs}{t:Ct}{S:List SV}{X:Xt}{v:SV}{e:Ek}{l:List Va}{b:Int}(h:hC s t S X pc ⟨11,a,b,vv⟩ v e st' l Y)(L:List Ek)(he:dh s.c t s.q ⟨11,a,b,vv⟩ (dT v.st)=some L)(hel:e∈L):fd s t S ⟨11,a,b,vv⟩ e l Y:=by
 obtain rfl:=Option.some.inj he;obtain rfl:=List.mem_singleton.1 hel;obtain⟨w,z,rfl,hw,hz⟩:=k9 h.l;exact⟨_,rfl,_,rfl,h.pshR rfl (GG _ (.inr (.inl rfl)) hw) (bi rfl) (bi rfl) (bi rfl) (bi rfl) (bi rfl)⟩
def Zx {s:Xs}{t:Ct}{S:List SV}{X:Xt}{v:SV}{e:Ek}{l:List Va}{b:Int}(h:hC s t S X pc ⟨12,a,b,vv⟩ v e st' l Y)(L:List Ek)(he:dh s.c t s.q ⟨12,a,b,vv⟩ (dT v.st)=some L)(hel:e∈L):fd s t S ⟨12,a,b,vv⟩ e l Y:=by
 obtain rfl:=Option.some.inj he;obtain rfl:=List.mem_singleton.1 hel;obtain⟨w,z,rfl,hw,hz⟩:=k9 h.l;exact⟨_,rfl,_,rfl,h.pshR rfl (GG _ (.inr (.inr (.inl rfl))) hw) (bi rfl) (bi rfl) (bi rfl) (bi rfl) (bi rfl)⟩
def Zy {s:Xs}{t:Ct}{S:List SV}{X:Xt}{v:SV}{e:Ek}{l:List Va}{b:Int}(h:hC s t S X pc ⟨13,a,b,vv⟩ v e st' l Y)(L:List Ek)(he:dh s.c t s.q ⟨13,a,b,vv⟩ (dT v.st)=some L)(hel:e∈L):fd s t S ⟨13,a,b,vv⟩ e l Y:=by
 obtain rfl:=Option.some.inj he;obtain rfl:=List.mem_singleton.1 hel;obtain⟨w,z,rfl,hw,hz⟩:=k9 h.l;exact⟨_,rfl,_,rfl,h.pshR rfl (GG _ (.inr (.inr (.inr (.inl rfl)))) hw) (bi rfl) (bi rfl) (bi rfl) (bi rfl) (bi rfl)⟩
def Zz {s:Xs}{t:Ct}{S:List SV}{X:Xt}{v:SV}{e:Ek}{l:List Va}{b:Int}(h:hC s t S X pc ⟨14,a,b,vv⟩ v e st' l Y)(L:List Ek)(he:dh s.c t s.q ⟨14,a,b,vv⟩ (dT v.st)=some L)(hel:e∈L):fd s t S ⟨14,a,b,vv⟩ e l Y:=by
 obtain rfl:=Option.some.inj he;obtain rfl:=List.mem_singleton.1 hel;obtain⟨w,z,rfl,hw,hz⟩:=k9 h.l;exact⟨_,rfl,_,rfl,h.pshR rfl (GG _ (.inr (.inr (.inr (.inr rfl)))) hw) (bi rfl) (bi rfl) (bi rfl) (bi rfl) (bi rfl)⟩
def Zv {s:Xs}{t:Ct}{S:List SV}{X:Xt}{v:SV}{e:Ek}{l:List Va}{b:Int}(h:hC s t S X pc ⟨10,a,b,vv⟩ v e st' l Y)(L:List Ek)(he:dh s.c t s.q ⟨10,a,b,vv⟩ (dT v.st)=some L)(hel:e∈L):fd s t S ⟨10,a,b,vv⟩ e l Y:=by
 obtain rfl:=Option.some.inj he;obtain rfl:=List.mem_singleton.1 hel;obtain⟨w,z,rfl,hw,hz⟩:=k9 h.l;exact⟨_,rfl,_,rfl,h.pshR rfl (ŏ hw hz) (bi rfl) (bi rfl) (bi rfl) (bi rfl) (bi rfl)⟩
def ZA {s:Xs}{t:Ct}{S:List SV}{X:Xt}{v:SV}{e:Ek}{l:List Va}{b:Int}(h:hC s t S X pc ⟨15,a,b,vv⟩ v e st' l Y)(L:List Ek)(he:dh s.c t s.q ⟨15,a,b,vv⟩ (dT v.st)=some L)(hel:e∈L):fd s t S ⟨15,a,b,vv⟩ e l Y:=by
 obtain rfl:=Option.some.inj he;obtain rfl:=List.mem_singleton.1 hel;obtain⟨w,z,rfl,hw,hz⟩:=k9 h.l;exact⟨_,rfl,_,rfl,h.pshR rfl (k7 _ (.inl rfl)) (bi rfl) (bi rfl) (bi rfl) (bi rfl) (bi rfl)⟩
def ZB {s:Xs}{t:Ct}{S:List SV}{X:Xt}{v:SV}{e:Ek}{l:List Va}{b:Int}(h:hC s t S X pc ⟨16,a,b,vv⟩ v e st' l Y)(L:List Ek)(he:dh s.c t s.q ⟨16,a,b,vv⟩ (dT v.st)=some L)(hel:e∈L):fd s t S ⟨16,a,b,vv⟩ e l Y:=by
 obtain rfl:=Option.some.inj he;obtain rfl:=List.mem_singleton.1 hel;obtain⟨w,z,rfl,hw,hz⟩:=k9 h.l;exact⟨_,rfl,_,rfl,h.pshR rfl (k7 _ (.inr (.inl rfl))) (bi rfl) (bi rfl) (bi rfl) (bi rfl) (bi rfl)⟩
def ZC {s:Xs}{t:Ct}{S:List SV}{X:Xt}{v:SV}{e:Ek}{l:List Va}{b:Int}(h:hC s t S X pc ⟨17,a,b,vv⟩ v e st' l Y)(L:List Ek)(he:dh s.c t s.q ⟨17,a,b,vv⟩ (dT v.st)=some L)(hel:e∈L):fd s t S ⟨17,a,b,vv⟩ e l Y:=by
 obtain rfl:=Option.some.inj he;simp only[mγ,List.not_mem_nil,or_false]at hel;rcases hel with rfl|rfl
 ·obtain⟨w,z,rfl,hw,hz⟩:=k9 h.l;exact⟨_,rfl,_,rfl,h.pshR rfl (k7 _ (.inr (.inr (.inl rfl)))) (bi rfl) (bi rfl) (bi rfl) (bi rfl) (bi rfl)⟩
 ·obtain⟨w,z,rfl,hw,hz⟩:=k9 h.l;exact⟨_,rfl,_,rfl,h.pshR rfl (k7 _ (.inr (.inr (.inl rfl)))) (bi rfl) (bi rfl) (bi rfl) (bi rfl) (bi rfl)⟩
def ZD {s:Xs}{t:Ct}{S:List SV}{X:Xt}{v:SV}{e:Ek}{l:List Va}{b:Int}(h:hC s t S X pc ⟨18,a,b,vv⟩ v e st' l Y)(L:List Ek)(he:dh s.c t s.q ⟨18,a,b,vv⟩ (dT v.st)=some L)(hel:e∈L):fd s t S ⟨18,a,b,vv⟩ e l Y:=by
 obtain rfl:=Option.some.inj he;simp only[mγ,List.not_mem_nil,or_false]at hel;rcases hel with rfl|rfl
 ·obtain⟨w,z,rfl,hw,hz⟩:=k9 h.l;exact⟨_,rfl,_,rfl,h.pshR rfl (k7 _ (.inr (.inr (.inr (.inl rfl))))) (bi rfl) (bi rfl) (bi rfl) (bi rfl) (bi rfl)⟩
 ·obtain⟨w,z,rfl,hw,hz⟩:=k9 h.l;exact⟨_,rfl,_,rfl,h.pshR rfl (k7 _ (.inr (.inr (.inr (.inl rfl))))) (bi rfl) (bi rfl) (bi rfl) (bi rfl) (bi rfl)⟩
def ZE {s:Xs}{t:Ct}{S:List SV}{X:Xt}{v:SV}{e:Ek}{l:List Va}{b:Int}(h:hC s t S X pc ⟨19,a,b,vv⟩ v e st' l Y)(L:List Ek)(he:dh s.c t s.q ⟨19,a,b,vv⟩ (dT v.st)=some L)(hel:e∈L):fd s t S ⟨19,a,b,vv⟩ e l Y:=by
 obtain rfl:=Option.some.inj he;simp only[mγ,List.not_mem_nil,or_false]at hel;rcases hel with rfl|rfl
 ·obtain⟨w,z,rfl,hw,hz⟩:=k9 h.l;exact⟨_,rfl,_,rfl,h.pshR rfl (k7 _ (.inr (.inr (.inr (.inr (.inl rfl)))))) (bi rfl) (bi rfl) (bi rfl) (bi rfl) (bi rfl)⟩
 ·obtain⟨w,z,rfl,hw,hz⟩:=k9 h.l;exact⟨_,rfl,_,rfl,h.pshR rfl (k7 _ (.inr (.inr (.inr (.inr (.inl rfl)))))) (bi rfl) (bi rfl) (bi rfl) (bi rfl) (bi rfl)⟩
def ZF {s:Xs}{t:Ct}{S:List SV}{X:Xt}{v:SV}{e:Ek}{l:List Va}{b:Int}(h:hC s t S X pc ⟨20,a,b,vv⟩ v e st' l Y)(L:List Ek)(he:dh s.c t s.q ⟨20,a,b,vv⟩ (dT v.st)=some L)(hel:e∈L):fd s t S ⟨20,a,b,vv⟩ e l Y:=by
 obtain rfl:=Option.some.inj he;simp only[mγ,List.not_mem_nil,or_false]at hel;rcases hel with rfl|rfl
 ·obtain⟨w,z,rfl,hw,hz⟩:=k9 h.l;exact⟨_,rfl,_,rfl,h.pshR rfl (k7 _ (.inr (.inr (.inr (.inr (.inr (rfl))))))) (bi rfl) (bi rfl) (bi rfl) (bi rfl) (bi rfl)⟩
 ·obtain⟨w,z,rfl,hw,hz⟩:=k9 h.l;exact⟨_,rfl,_,rfl,h.pshR rfl (k7 _ (.inr (.inr (.inr (.inr (.inr (rfl))))))) (bi rfl) (bi rfl) (bi rfl) (bi rfl) (bi rfl)⟩
def ZG {s:Xs}{t:Ct}{S:List SV}{X:Xt}{v:SV}{e:Ek}{l:List Va}{b:Int}(h:hC s t S X pc ⟨21,a,b,vv⟩ v e st' l Y)(L:List Ek)(he:dh s.c t s.q ⟨21,a,b,vv⟩ (dT v.st)=some L)(hel:e∈L):fd s t S ⟨21,a,b,vv⟩ e l Y:=by
 obtain rfl:=Option.some.inj he;simp only[mγ,List.not_mem_nil,or_false]at hel;rcases hel with rfl|rfl|rfl
 ·obtain⟨w,rfl,hw⟩:=yj h.l;obtain⟨r,hr,hg⟩:=Kw hw;exact⟨_,rfl,fR r Y,by show(lx _ _).map _=_;rw[hr];rfl,h.pshR rfl hg (bi rfl) (bi rfl) (bi rfl) (bi rfl) (bi rfl)⟩
 ·obtain⟨w,rfl,hw⟩:=yj h.l;obtain⟨r,hr,hg⟩:=Kw hw;exact⟨_,rfl,fR r Y,by show(lx _ _).map _=_;rw[hr];rfl,h.pshR rfl hg (bi rfl) (bi rfl) (bi rfl) (bi rfl) (bi rfl)⟩
 ·obtain⟨w,rfl,hw⟩:=yj h.l;obtain⟨r,hr,hg⟩:=Kw hw;exact⟨_,rfl,fR r Y,by show(lx _ _).map _=_;rw[hr];rfl,h.pshR rfl hg (bi rfl) (bi rfl) (bi rfl) (bi rfl) (bi rfl)⟩
def ZH {s:Xs}{t:Ct}{S:List SV}{X:Xt}{v:SV}{e:Ek}{l:List Va}{b:Int}(h:hC s t S X pc ⟨22,a,b,vv⟩ v e st' l Y)(L:List Ek)(he:dh s.c t s.q ⟨22,a,b,vv⟩ (dT v.st)=some L)(hel:e∈L):fd s t S ⟨22,a,b,vv⟩ e l Y:=by
 obtain rfl:=Option.some.inj he;simp only[mγ,List.not_mem_nil,or_false]at hel;rcases hel with rfl|rfl
 ·obtain⟨w,z,rfl,hw,hz⟩:=k9 h.l;obtain⟨r,hr,hg⟩:=Ő hw hz;exact⟨_,rfl,fR r Y,by show(lx _ _).map _=_;rw[hr];rfl,h.pshR rfl hg (bi rfl) (bi rfl) (bi rfl) (bi rfl) (bi rfl)⟩
 ·obtain⟨w,z,rfl,hw,hz⟩:=k9 h.l;obtain⟨r,hr,hg⟩:=ő hw hz;exact⟨_,rfl,fR r Y,by show(lx _ _).map _=_;rw[hr];rfl,h.pshR rfl hg (bi rfl) (bi rfl) (bi rfl) (bi rfl) (bi rfl)⟩
def ZI {s:Xs}{t:Ct}{S:List SV}{X:Xt}{v:SV}{e:Ek}{l:List Va}{b:Int}(h:hC s t S X pc ⟨23,a,b,vv⟩ v e st' l Y)(L:List Ek)(he:dh s.c t s.q ⟨23,a,b,vv⟩ (dT v.st)=some L)(hel:e∈L):fd s t S ⟨23,a,b,vv⟩ e l Y:=by
 obtain rfl:=Option.some.inj he;simp only[mγ,List.not_mem_nil,or_false]at hel;rcases hel with rfl|rfl
 ·obtain⟨w,z,rfl,hw,hz⟩:=k9 h.l;obtain⟨r,hr,hg⟩:=Yu hw hz;exact⟨_,rfl,fR r Y,by show(lx _ _).map _=_;rw[hr];rfl,h.pshR rfl hg (bi rfl) (bi rfl) (bi rfl) (bi rfl) (bi rfl)⟩
 ·obtain⟨w,z,rfl,hw,hz⟩:=k9 h.l;obtain⟨r,hr,hg⟩:=Yv hw hz;exact⟨_,rfl,fR r Y,by show(lx _ _).map _=_;rw[hr];rfl,h.pshR rfl hg (bi rfl) (bi rfl) (bi rfl) (bi rfl) (bi rfl)⟩
def ZJ {s:Xs}{t:Ct}{S:List SV}{X:Xt}{v:SV}{e:Ek}{l:List Va}{b:Int}(h:hC s t S X pc ⟨24,a,b,vv⟩ v e st' l Y)(L:List Ek)(he:dh s.c t s.q ⟨24,a,b,vv⟩ (dT v.st)=some L)(hel:e∈L):fd s t S ⟨24,a,b,vv⟩ e l Y:=by
 obtain rfl:=Option.some.inj he;simp only[mγ,List.not_mem_nil,or_false]at hel;rcases hel with rfl|rfl
 ·obtain⟨w,z,q,rfl,hw,hz,hq⟩:=Ζ h.l;obtain⟨r,hr,hg⟩:=Yw hw hz hq;exact⟨_,rfl,fR r Y,by show(lx _ _).map _=_;rw[hr];rfl,h.pshR rfl hg (bi rfl) (bi rfl) (bi rfl) (bi rfl) (bi rfl)⟩
 ·obtain⟨w,z,q,rfl,hw,hz,hq⟩:=Ζ h.l;obtain⟨r,hr,hg⟩:=Yx hw hz hq;exact⟨_,rfl,fR r Y,by show(lx _ _).map _=_;rw[hr];rfl,h.pshR rfl hg (bi rfl) (bi rfl) (bi rfl) (bi rfl) (bi rfl)⟩
def ZK {s:Xs}{t:Ct}{S:List SV}{X:Xt}{v:SV}{e:Ek}{l:List Va}{b:Int}(h:hC s t S X pc ⟨25,a,b,vv⟩ v e st' l Y)(L:List Ek)(he:dh s.c t s.q ⟨25,a,b,vv⟩ (dT v.st)=some L)(hel:e∈L):fd s t S ⟨25,a,b,vv⟩ e l Y:=by
 obtain rfl:=Option.some.inj he;obtain rfl:=List.mem_singleton.1 hel
 ·obtain⟨w,rfl,hw⟩:=yj h.l;obtain⟨r,hr,hg⟩:=Œ hw;exact⟨_,rfl,fR r Y,by show(lx _ _).map _=_;rw[hr];rfl,h.pshR rfl hg (bi rfl) (bi rfl) (bi rfl) (bi rfl) (bi rfl)⟩
def ZL {s:Xs}{t:Ct}{S:List SV}{X:Xt}{v:SV}{e:Ek}{l:List Va}{b:Int}(h:hC s t S X pc ⟨26,a,b,vv⟩ v e st' l Y)(L:List Ek)(he:dh s.c t s.q ⟨26,a,b,vv⟩ (dT v.st)=some L)(hel:e∈L):fd s t S ⟨26,a,b,vv⟩ e l Y:=by
 obtain rfl:=Option.some.inj he;obtain rfl:=List.mem_singleton.1 hel;have hi:fT a 17=true:=lc h.hin;have hr:0<=a/\a<17:=Jk (n:=17) hi;have hl:=h.l.len;rw[mν]at hl;have hl:l.length=a.toNat:=hl;obtain⟨r,hr2,hg⟩:=Yy (by omega) h.l.same;refine⟨fun l X=>(lx [105,110,116,115] l).map fun r=>fR r X,?_,fR r Y,by show(lx _ _).map _=_;rw[hr2];rfl,h.pshR rfl hg (bi rfl) (bi rfl) (bi rfl) (bi rfl) (bi rfl)⟩
 show VE s _=some (((List.replicate a.toNat _).length:Int),_);rw[mν,mυ hr.1];rfl
def ZM {s:Xs}{t:Ct}{S:List SV}{X:Xt}{v:SV}{e:Ek}{l:List Va}{b:Int}(h:hC s t S X pc ⟨27,a,b,vv⟩ v e st' l Y)(L:List Ek)(he:dh s.c t s.q ⟨27,a,b,vv⟩ (dT v.st)=some L)(hel:e∈L):fd s t S ⟨27,a,b,vv⟩ e l Y:=by
 obtain rfl:=Option.some.inj he;obtain rfl:=List.mem_singleton.1 hel;have hi:fT a 17=true:=lc h.hin;have hr:0<=a/\a<17:=Jk (n:=17) hi;have hl:=h.l.len;rw[mν]at hl;have hl:l.length=a.toNat:=hl;obtain⟨r,hr2,hg⟩:=Kx (by omega) h.l.same;refine⟨fun l X=>(lx [115,116,114,105,110,103,115] l).map fun r=>fR r X,?_,fR r Y,by show(lx _ _).map _=_;rw[hr2];rfl,h.pshR rfl hg (bi rfl) (bi rfl) (bi rfl) (bi rfl) (bi rfl)⟩
 show VE s _=some (((List.replicate a.toNat _).length:Int),_);rw[mν,mυ hr.1];rfl
end
section
def EN (c:Nat)(o:Option (Ef×Int)):Prop:=∃r,o=some r/\(r.2=0->ĭ r.1/\c<16)
def ik {c:Nat}{b:Bool}{A B:Option (Ef×Int)}(h:b=true->EN c A)(g:b=false->EN c B):EN c (bif b then A else B):=by cases b;exact g rfl;exact h rfl
def il {c:Nat}{e:Int}(h:e≠0):EN c (some (Rs,e)):=⟨_,rfl,fun g=>absurd g h⟩
def Lm {s:LN}(h:cM s []=false)(g:aK 32 (s.length:Int)=false):1<=s.length/\s.length<=32:=by
 rw[hM,lζ]at h;rw[bT,lζ]at g;cases s with
 |nil=>exact absurd rfl h
 |cons a r=>simp only[List.length_cons]at g ⊢;omega
variable {w:Va}
def A_ {z:Va}(c:Nat)(hw:Fv 3 w):EN c (td 1 [w,z] c):=by
 refine ik (fun _=>il (bi rfl)) fun h1=>?_
 refine ik (fun _=>il (bi rfl)) fun h2=>?_
 refine ik (fun _=>il (bi rfl)) fun h3=>?_
 rw[bk,lζ]at h1;exact⟨(⟨1,w.s,z.n,0⟩,0),rfl,fun _=>⟨⟨⟨by show(1:Int)<=1;omega,by show(1:Int)<=3;omega⟩,Lm h2 h3,(fun h=>absurd h (bi rfl)),(fun h=>absurd h (bi rfl))⟩,by omega⟩⟩
def B_ {z u:Va}(c:Nat)(hw:Fv 3 w):EN c (td 2 [w,z,u] c):=by
 refine ik (fun _=>il (bi rfl)) fun h1=>?_
 refine ik (fun _=>il (bi rfl)) fun h2=>?_
 refine ik (fun _=>il (bi rfl)) fun h3=>?_
 rw[bk,lζ]at h1;show EN c (bif aK z.n 1 then some (Rs,5)else bif aK 1073741824 z.n then some (Rs,5)else bif aK u.n 1 then some (Rs,5)else bif aK 1073741824 u.n then some (Rs,5)else some (⟨2,w.s,z.n,u.n⟩,0));refine ik (fun _=>il (bi rfl)) fun h4=>?_
 refine ik (fun _=>il (bi rfl)) fun h5=>?_
 refine ik (fun _=>il (bi rfl)) fun h6=>?_
 refine ik (fun _=>il (bi rfl)) fun h7=>?_
 rw[bT,lζ]at h4 h6;exact⟨_,rfl,fun _=>⟨⟨⟨by show(1:Int)<=2;omega,by show(2:Int)<=3;omega⟩,Lm h2 h3,(fun _=>⟨by show 1<=z.n;omega,by show 1<=u.n;omega⟩),(fun h=>absurd h (bi rfl))⟩,by omega⟩⟩
def C_ (c:Nat)(hw:Fv 3 w):EN c (td 3 [w] c):=by
 refine ik (fun _=>il (bi rfl)) fun h1=>?_
 refine ik (fun _=>il (bi rfl)) fun h2=>?_
 refine ik (fun _=>il (bi rfl)) fun h3=>?_
 rw[bk,lζ]at h1;exact⟨(⟨3,w.s,0,0⟩,0),rfl,fun _=>⟨⟨⟨by show(1:Int)<=3;omega,by show(3:Int)<=3;omega⟩,Lm h2 h3,(fun h=>absurd h (bi rfl)),(fun _=>⟨rfl,rfl⟩)⟩,by omega⟩⟩
section
variable {s:Xs} {t:Ct} {S:List SV} {X:Xt} {pc:Nat} {v:SV} {e:Ek} {st':LI} {l:List Va} {Y:Xt} {a b:Int} {vv:Va}
def ZN (h:hC s t S X pc ⟨28,a,b,vv⟩ v e st' l Y)(L:List Ek)(he:dh s.c t s.q ⟨28,a,b,vv⟩ (dT v.st)=some L)(hel:e∈L):fd s t S ⟨28,a,b,vv⟩ e l Y:=by
 obtain rfl:=Option.some.inj he;obtain rfl:=List.mem_singleton.1 hel;obtain rfl:l=[]:=lθ h.l.len;refine⟨_,rfl,({Y with pc:=a},0),rfl,fun _=>h.pop rfl (Z:={Y with pc:=a}) (List.mem_singleton.2 rfl) rfl ?_ ?_ ?_ h.dn⟩
 ·rw[qB (bi rfl)];show kY _ _ Y.ls;rw[h.ls];exact h.hls
 ·show FvL _ Y.fs;rw[h.fs];exact h.g.fs
 ·show EV Y.es;rw[h.es];exact h.g.es
def ZO (h:hC s t S X pc ⟨29,a,b,vv⟩ v e st' l Y)(L:List Ek)(he:dh s.c t s.q ⟨29,a,b,vv⟩ (dT v.st)=some L)(hel:e∈L):fd s t S ⟨29,a,b,vv⟩ e l Y:=by
 obtain rfl:=Option.some.inj he;obtain rfl:=List.mem_singleton.1 hel;obtain⟨w,rfl,hw⟩:=yj h.l;have h2:=h.s2;have hsu:(fo s.q pc ⟨29,a,b,vv⟩).1=[((pc+1:Nat):Int),a]:=by
  have e1:fo s.q pc ⟨29,a,b,vv⟩=bif decide (pc+1=s.q.code.length)then([],false)else([((pc+1:Nat):Int),a],true):=rfl
  rw[e1]at h2 ⊢
  revert h2
  cases decide (pc+1=s.q.code.length)with
  |true=>intro h;cases h
  |false=>intro _;rfl
 have q1:kY s.q.locals (m9 ⟨29,a,b,vv⟩ v.set) Y.ls:=by rw[qB (bi rfl),h.ls];exact h.hls
 have q2:FvL (t.fields.map Fe.kind) Y.fs:=by rw[h.fs];exact h.g.fs
 have q3:EV Y.es:=by rw[h.es];exact h.g.es
 refine⟨_,rfl,Qs ⟨29,a,b,vv⟩ [w] Y,rfl,fun _=>?_⟩
 have e2:Qs ⟨29,a,b,vv⟩ [w] Y=bif az w.n 0 then({Y with pc:=a},0)else(Y,0):=rfl
 rw[e2];cases az w.n 0 with
 |true=>exact h.pop rfl (Z:={Y with pc:=a}) (by rw[hsu];exact mα _ lχ) rfl q1 q2 q3 h.dn
 |false=>exact h.pop rfl (Z:=Y) (by rw[hsu,h.pcN];exact lχ) rfl q1 q2 q3 h.dn
def hC.out (h:hC s t S X pc ⟨30,a,b,vv⟩ v e st' l Y\/hC s t S X pc ⟨32,a,b,vv⟩ v e st' l Y){Z:Xt}(hfs:Z.fs=X.fs)(hes:Z.es=X.es)(hls:Z.ls=X.ls)(hst:Z.st=[])(hpc:Z.pc=((pc+1:Nat):Int))(hd:Z.done=true)(ho:ô s S Z):Gd s t S Z:=by
 have k:Gd s t S X/\s.q.code[pc]?≠none/\s.q.code.length<1501:=by
  rcases h with h|h
  ·exact⟨h.g,by rw[h.hc];simp,h.hx.f.z.c⟩
  ·exact⟨h.g,by rw[h.hc];simp,h.hx.f.z.c⟩
 obtain⟨g,k2,k3⟩:=k;have hp:pc<s.q.code.length:=by
  by_cases hh:pc<s.q.code.length
  ·exact hh
  ·exact absurd (lυ (by omega)) k2
 refine⟨by rw[hfs];exact g.fs,by rw[hes];exact g.es,by rw[hls];exact g.ls,by rw[hst];simp,by rw[hpc];omega,(fun h=>by rw[hd]at h;cases h),fun _=>ho⟩
def ZP (h:hC s t S X pc ⟨30,a,b,vv⟩ v e st' l Y)(L:List Ek)(he:dh s.c t s.q ⟨30,a,b,vv⟩ (dT v.st)=some L)(hel:e∈L):fd s t S ⟨30,a,b,vv⟩ e l Y:=by
 have he:(fC s.c a b).map (fun q=>[((3::q.params,m8 q):Ek)])=some L:=he;cases hq:fC s.c a b with
 |none=>rw[hq]at he;cases he
 |some q=>
 rw[hq]at he;obtain rfl:=Option.some.inj he;obtain rfl:=List.mem_singleton.1 hel;refine⟨Us s ⟨30,a,b,vv⟩,?_,?_⟩
 ·show(fC s.c a b).map _=_;rw[hq];show some ((1+(q.params.length:Int)),_)=some (((q.params.length+1:Nat):Int),_);rw[show(1+(q.params.length:Int))=((q.params.length+1:Nat):Int) by omega]
 match l,h with
 |w::r,h=>
 have hw:=h.l.1;have hr:FvL q.params r:=h.l.2;unfold fC at hq;cases ht:dK s.c a with
 |none=>rw[ht]at hq;cases hq
 |some u=>
 rw[ht,Option.bind_some]at hq;have e1:Us s ⟨30,a,b,vv⟩ (w::r) Y=bif aK 32 (w.s.length:Int)then some (Y,5)else(dK s.c a).bind fun t=>(dK t.methods b).map fun q=>({Y with done:=true,ok:=2,ov:=v0,tT:=t.name,tK:=w.s,mn:=q.name,ar:=r,fu:=0},0):=rfl
 rw[e1];cases h5:aK 32 (w.s.length:Int)with
 |true=>exact⟨_,rfl,fun h=>absurd h (bi rfl)⟩
 |false=>
  rw[cond_false,ht,Option.bind_some,hq];refine⟨_,rfl,fun _=>?_⟩
  rw[bT,lζ]at h5;obtain⟨K0,k1,k2,k3⟩:=h.st;obtain⟨k4,k5⟩:=k3 (.inl rfl);have hp1:((pc+1:Nat):Int)∈(fo s.q pc ⟨30,a,b,vv⟩).1:=by
   rw[WG h.s2 (bi rfl) (bi rfl) (bi rfl) (bi rfl)];exact List.mem_singleton.2 rfl
  obtain⟨z,hz,-,hzs,hzb⟩:=h.to _ hp1;rw[qB (bi rfl)]at hzb;refine hC.out (.inl h) h.fs h.es h.ls k4 h.pcN rfl (.inr ⟨rfl,rfl,pc,_,z,u,q,h.pcN,h.hc,rfl,hz,?_,ht,hq,rfl,rfl,by show w.s.length<=32;omega,hr⟩);show kY _ _ Y.ls;rw[h.ls];exact h.hls.sub hzb
def ZQ (h:hC s t S X pc ⟨31,a,b,vv⟩ v e st' l Y)(L:List Ek)(he:dh s.c t s.q ⟨31,a,b,vv⟩ (dT v.st)=some L)(hel:e∈L):fd s t S ⟨31,a,b,vv⟩ e l Y:=by
 obtain rfl:=Option.some.inj he;obtain rfl:=List.mem_singleton.1 hel;refine⟨_,rfl,(Y,0),rfl,fun _=>h.pop rfl (Z:=Y) (h.nx (bi rfl) (bi rfl) (bi rfl) (bi rfl)) rfl ?_ ?_ ?_ h.dn⟩
 ·rw[qB (bi rfl),h.ls];exact h.hls
 ·rw[h.fs];exact h.g.fs
 ·rw[h.es];exact h.g.es
def ZR (h:hC s t S X pc ⟨32,a,b,vv⟩ v e st' l Y)(L:List Ek)(he:dh s.c t s.q ⟨32,a,b,vv⟩ (dT v.st)=some L)(hel:e∈L):fd s t S ⟨32,a,b,vv⟩ e l Y:=by
 obtain rfl:=Option.some.inj he;obtain rfl:=List.mem_singleton.1 hel;obtain⟨K0,k1,k2,k3⟩:=h.st;obtain⟨k4,k5⟩:=k3 (.inr rfl);have hl:FvL (m8 s.q) l:=h.l;refine⟨fun l X=>some (Vn l X,0),?_,(Vn l Y,0),rfl,fun _=>hC.out (.inr h) h.fs h.es h.ls k4 h.pcN rfl (.inl ⟨rfl,?_,rfl⟩)⟩
 ·show some (Wt s.q,_)=some (((m8 s.q).length:Int),_);unfold Wt m8;cases az s.q.res 0<;>rfl
 ·show Fv s.q.res (l.headD v0);unfold m8 at hl;cases hr:az s.q.res 0 with
  |true=>
   rw[hr]at hl;obtain rfl:l=[]:=lθ hl.len;rw[eqI_t.1 hr];exact(mE 0 v0).2 ⟨⟨rfl,by omega,.inl rfl,.inl rfl,.inl rfl,.inl rfl,by simp[v0],by simp[v0],by simp[v0],by simp[v0]⟩,Mr,by simp[v0]⟩
  |false=>
   rw[hr]at hl;obtain⟨w,rfl,hw⟩:=yj hl;exact hw
def ZS (h:hC s t S X pc ⟨33,a,b,vv⟩ v e st' l Y)(L:List Ek)(he:dh s.c t s.q ⟨33,a,b,vv⟩ (dT v.st)=some L)(hel:e∈L):fd s t S ⟨33,a,b,vv⟩ e l Y:=by
 obtain rfl:=Option.some.inj he;obtain rfl:=List.mem_singleton.1 hel;exact⟨_,rfl,(Y,26),rfl,fun h=>absurd h (bi rfl)⟩
def ZT (h:hC s t S X pc ⟨34,a,b,vv⟩ v e st' l Y)(L:List Ek)(he:dh s.c t s.q ⟨34,a,b,vv⟩ (dT v.st)=some L)(hel:e∈L):fd s t S ⟨34,a,b,vv⟩ e l Y:=by
 obtain rfl:=Option.some.inj he;obtain rfl:=List.mem_singleton.1 hel;obtain⟨w,z,rfl,hw,hz⟩:=k9 h.l;obtain⟨r,hr,hg⟩:=A_ (z:=z) Y.es.length hw;exact⟨_,rfl,xI r Y,by show(td 1 [w,z] Y.es.length).map _=_;rw[hr];rfl,h.ask rfl (bi rfl) (bi rfl) (bi rfl) (bi rfl) (bi rfl) hg⟩
def ZU (h:hC s t S X pc ⟨35,a,b,vv⟩ v e st' l Y)(L:List Ek)(he:dh s.c t s.q ⟨35,a,b,vv⟩ (dT v.st)=some L)(hel:e∈L):fd s t S ⟨35,a,b,vv⟩ e l Y:=by
 obtain rfl:=Option.some.inj he;obtain rfl:=List.mem_singleton.1 hel;obtain⟨w,z,u,rfl,hw,hz,hu⟩:=Ζ h.l;obtain⟨r,hr,hg⟩:=B_ (z:=z) (u:=u) Y.es.length hw;exact⟨_,rfl,xI r Y,by show(td 2 [w,z,u] Y.es.length).map _=_;rw[hr];rfl,h.ask rfl (bi rfl) (bi rfl) (bi rfl) (bi rfl) (bi rfl) hg⟩
def ZV (h:hC s t S X pc ⟨36,a,b,vv⟩ v e st' l Y)(L:List Ek)(he:dh s.c t s.q ⟨36,a,b,vv⟩ (dT v.st)=some L)(hel:e∈L):fd s t S ⟨36,a,b,vv⟩ e l Y:=by
 obtain rfl:=Option.some.inj he;obtain rfl:=List.mem_singleton.1 hel;obtain⟨w,rfl,hw⟩:=yj h.l;obtain⟨r,hr,hg⟩:=C_ Y.es.length hw;exact⟨_,rfl,xI r Y,by show(td 3 [w] Y.es.length).map _=_;rw[hr];rfl,h.ask rfl (bi rfl) (bi rfl) (bi rfl) (bi rfl) (bi rfl) hg⟩
end
end
def Vw {s:Xs}{t:Ct}{S:List SV}{X:Xt}{x:Cd}{v:SV}{e:Ek}{st':LI}{l2:List Va}{Y:Xt}(hs:hC s t S X pc x v e st' l2 Y)(hky:s.ky.length<=32)(l:List Ek)(he:dh s.c t s.q x (dT v.st)=some l)(hel:e∈l):fd s t S x e l2 Y:=by
 obtain⟨op,a,b,vv⟩:=x;have ho:1<=op/\op<=36:=ϋ hs.hin;have hc:op=1\/op=2\/op=3\/op=4\/op=5\/op=6\/op=7\/op=8\/op=9\/op=10\/op=11\/op=12\/op=13\/op=14\/op=15\/op=16\/op=17\/op=18\/op=19\/op=20\/op=21\/op=22\/op=23\/op=24\/op=25\/op=26\/op=27\/op=28\/op=29\/op=30\/op=31\/op=32\/op=33\/op=34\/op=35\/op=36:=by omega
 rcases hc with rfl|rfl|rfl|rfl|rfl|rfl|rfl|rfl|rfl|rfl|rfl|rfl|rfl|rfl|rfl|rfl|rfl|rfl|rfl|rfl|rfl|rfl|rfl|rfl|rfl|rfl|rfl|rfl|rfl|rfl|rfl|rfl|rfl|rfl|rfl|rfl
 ·exact Ι hs l he hel
 ·exact Κ hs l he hel
 ·exact Λ hs l he hel
 ·exact Μ hs l he hel
 ·exact Ν hs l he hel
 ·exact Ξ hs l he hel hky
 ·exact Ο hs l he hel
 ·exact Ρ hs l he hel
 ·exact Τ hs l he hel
 ·exact Zv hs l he hel
 ·exact Zw hs l he hel
 ·exact Zx hs l he hel
 ·exact Zy hs l he hel
 ·exact Zz hs l he hel
 ·exact ZA hs l he hel
 ·exact ZB hs l he hel
 ·exact ZC hs l he hel
 ·exact ZD hs l he hel
 ·exact ZE hs l he hel
 ·exact ZF hs l he hel
 ·exact ZG hs l he hel
 ·exact ZH hs l he hel
 ·exact ZI hs l he hel
 ·exact ZJ hs l he hel
 ·exact ZK hs l he hel
 ·exact ZL hs l he hel
 ·exact ZM hs l he hel
 ·exact ZN hs l he hel
 ·exact ZO hs l he hel
 ·exact ZP hs l he hel
 ·exact ZQ hs l he hel
 ·exact ZR hs l he hel
 ·exact ZS hs l he hel
 ·exact ZT hs l he hel
 ·exact ZU hs l he hel
 ·exact ZV hs l he hel
def Oj {s:Xs}{t:Ct}{S:List SV}{X:Xt}(hx:ð s t S)(hky:s.ky.length<=32)(h:Gd s t S X)(hd:X.done=false):∃y,B4 s X=some y/\(y.2=0->Gd s t S y.1):=by
 obtain⟨pc,v,hpc,hv,hst,hls⟩:=h.lv hd;have hlen:pc<s.q.code.length:=by rw[<-hx.x.o.n];exact(List.getElem?_eq_some_iff.1 hv).1
 have hc:=lη hlen;have hin:=hx.f.i _ (lμ hlen);generalize s.q.code[pc]=x at hc hin;obtain⟨st',ha,hs2,hto⟩:=hx.x.c pc x v hc hv;obtain⟨l,e,he,hel,hle,hdrop,hst',hcl,-⟩:=M1 ha;have hll:=hst.len;have hs:hC s t S X pc x v e st' (X.st.drop (X.st.length - e.1.length)) {X with pc:=X.pc+1,st:=X.st.take (X.st.length - e.1.length)}:=by
  refine⟨hx,h,hc,hv,hpc,hls,hin,hs2,hto,⟨v.st.take (v.st.length - e.1.length),hst',?_,fun ho=>?_⟩,?_,CI ha,rfl,hd⟩
  ·show FvL _ (X.st.take (X.st.length - e.1.length));rw[hll];exact hst.take _
  ·have hz:=hcl ho;refine⟨?_,hz⟩;have:=(hst.take (v.st.length - e.1.length)).len;rw[hz]at this;show X.st.take (X.st.length - e.1.length)=[];rw[hll];exact lθ this
  ·have:=hst.drop (v.st.length - e.1.length);rw[hdrop]at this;rw[hll];exact this
 obtain⟨f,hf,y,hy,hg⟩:=Vw hs hky l he hel;refine⟨y,?_,hg⟩;unfold B4;rw[hpc,qX,hc,Option.bind_some,hf,Option.bind_some];unfold At;have h1:(aV 0 (e.1.length:Int)&&aV (e.1.length:Int) (X.st.length:Int))=true:=by
  rw[lγ,bk,bk,lδ,lδ];omega
 show(bif(aV 0 (e.1.length:Int)&&aV (e.1.length:Int) (X.st.length:Int))then _ else _)=_;rw[h1,cond_true,Int.toNat_natCast];exact hy
def abh {s:Xs}{t:Ct}{S:List SV}{X:Xt}(hx:ð s t S)(h:Gd s t S X)(hw:∀y∈s.q.code,Wk y.v):Wx s X:=by
 have:=h.es.n;have h2:=h.st.2;exact⟨h.ls,h.fs.wk,h.st.1,by omega,by omega,hw,hx.f.z.c,h.pc⟩
def Z3 {s:Xs}{t:Ct}{S:List SV}(hx:ð s t S)(hky:s.ky.length<=32):ON s (Gd s t S):=by
 have hw:∀y∈s.q.code,Wk y.v:=fun y hy=>by
  have hin:=hx.f.i y hy;have hv:=hx.v y hy;have hi:=lc hin;cases h1:az y.op 1 with
  |true=>
   rw[h1,cond_true,lγ]at hi;exact BA (k:=y.v.k) ⟨by unfold kh;rw[hi.1,eqI_t.2 rfl];rfl,hv⟩
  |false=>
   unfold gY at hin;rw[lγ,lγ (az y.op 1||eZ y.v v0),h1,Bool.false_or]at hin;have h0:=hin.2.1;unfold eZ at h0;simp only[lγ,bp,hM,lδ]at h0;obtain⟨a1,a2,a3,a4,a5⟩:=h0;have:y.v=v0:=by
    obtain⟨op,a,b,k,n,s,I,L⟩:=y;simp only at a1 a2 a3 a4 a5;simp only[a1,a2,a3,a4,a5,v0]
   rw[this];exact Ĥ
 refine⟨fun X h=>abh hx h hw,fun X h hd=>?_,hx.f.q⟩
 obtain⟨y,hy,hg⟩:=Oj hx hky h hd;exact⟨y,hy,fun h0 u=>(hg h0).fu u⟩
def Û {v:Va}(h:eZ v v0=true):v=v0:=by
 unfold eZ at h;simp only[lγ,bp,hM,lδ]at h;obtain⟨a1,a2,a3,a4,a5⟩:=h;obtain⟨k,n,s,I,L⟩:=v;simp only at a1 a2 a3 a4 a5;simp only[a1,a2,a3,a4,a5,v0]
def CoV (c:List Ct):Prop:=∀t∈c,∀m∈t.methods,∀y∈m.code,FZ y.v
variable {a:Nat}
def ϕ {ls:List Va}(hl:ls.length=ks.length)(hb:HL ((List.range ks.length).map fun i=>a.testBit i) ls ks=true)(hv:∀v∈ls,FZ v):kY ks a ls:=⟨hl,fun i k v hk hv'=>by
 obtain⟨h1,rfl⟩:=List.getElem?_eq_some_iff.1 hk;obtain⟨h2,rfl⟩:=List.getElem?_eq_some_iff.1 hv';unfold HL at hb;have hlen:i<(((List.range ks.length).map fun i=>a.testBit i).zip (ls.zip ks)).length:=by
  rw[qβ,qβ,lα,List.length_range];omega
 have:=mζ.1 hb _ (lμ hlen);rw[List.getElem_zip,List.getElem_zip]at this;simp only[List.getElem_map,List.getElem_range,mπ,lγ,Bool.not_eq_true']at this;rcases this with h|⟨h,h'⟩
 ·exact .inl ⟨h,hv _ (lμ h2)⟩
 ·exact .inr ⟨Û h',h⟩⟩
def aaP {c:List Ct}(hc:zB c){x:Mc}(h:qD c x=true):∃t S q,mL c x.ty x.me=some q/\Jq c=0/\dK c x.ty=some t/\t∈c/\dK t.methods x.me=some q/\q∈t.methods/\MT c t q/\Fix c t q S/\jV c t q=some S/\∃(pc:Nat) (v:SV),x.pc=(pc:Int)/\S[pc]?=some v/\Bh q x.pc=true/\x.ls.length=q.locals.length/\HL ((List.range q.locals.length).map fun i=>v.set.testBit i) x.ls q.locals=true:=by
 cases hq:mL c x.ty x.me with
 |none=>rw[Ģ hq]at h;cases h
 |some q=>
  rw[ģ hq]at h;obtain⟨t,S,g1,g2,g3,g4,g5,g6,g7,g8,g9,g10⟩:=V5 hc hq;simp only[lγ,Bool.not_eq_true',bT,bk,lζ,lδ]at h;obtain⟨h1,h2,h3,h4,h5⟩:=h;obtain⟨v,hv,-,has⟩:=ÿ g8 g9 g10.n (p:=x.pc) ⟨by omega,by omega⟩
  rw[has]at h5;obtain⟨p0,-,p2⟩:=kZ hv;exact⟨t,S,q,rfl,g1,g2,g3,g4,g5,g6,Yb g6 g7,g7,x.pc.toNat,v,(mυ p0).symm,p2,h3,h4,h5⟩
variable {key:LN}
def B1 {c:List Ct}(hc:zB c)(hcv:CoV c){x:Mc}{fs:List Va}{rp:Va}{fuel:Int}(hx:∀v∈x.ls,FZ v)(hfs:∀v∈fs,FZ v)(hrp:FZ rp)(h:pr c x key fs rp fuel=true):∃t S,ð (S0 c x key) t S/\Gd (S0 c x key) t S (X0 x fs rp)/\key.length<=32/\dK c x.ty=some t/\t∈c/\mL c x.ty x.me=some (S0 c x key).q/\jV c t (S0 c x key).q=some S:=by
 unfold pr at h;simp only[lγ,Bool.not_eq_true',bT,lζ]at h;obtain⟨h1,h2,h3,h4,h5,h6⟩:=h;obtain⟨t,S,q,e1,e2,e3,e4,e5,e6,e7,e8,e14,pc,v,e9,e10,e11,e12,e13⟩:=aaP hc h1;have hq:(S0 c x key).q=q:=by unfold S0;rw[e1];rfl
 have hctx:ð (S0 c x key) t S:=⟨by rw[hq];exact e7,by rw[hq];exact e8,by rw[hq];exact hcv t e4 q e6⟩
 have hfv:FvL (t.fields.map Fe.kind) fs:=by
  unfold WV Aw at h3;rw[show az (Jq c) 0=true from eqI_t.2 e2,cond_true,e3]at h3;exact FvL.of h3 hfs
 have hlc:=ϕ e12 e13 hx;have hpl:pc<q.code.length:=by rw[<-e8.o.n];exact(List.getElem?_eq_some_iff.1 e10).1
 have hcl:=e7.z.c;have hrk:Fv (Yi c x) rp:=⟨h6,hrp⟩;have hst:FvL v.st (bif az rp.k 0 then[]else[rp]):=by
  cases hp:az x.pc 0 with
  |true=>
   have hp0:pc=0:=by have:=eqI_t.1 hp;omega
   subst hp0;obtain⟨u,hu,hus,-⟩:=e8.z;rw[e10]at hu;cases hu;unfold Yi at hrk;rw[hp,cond_true]at hrk;have:rp.k=0:=((mE 0 rp).1 hrk).1.1;rw[hus,eqI_t.2 this];trivial
  |false=>
   rw[bp,lζ]at hp;obtain⟨p,rfl⟩:∃p,pc=p+1:=⟨pc - 1,by omega⟩
   unfold Bh at e11;rw[show aK 0 x.pc=true from fp (by omega),cond_true,e9,show((p+1:Nat):Int) - 1=(p:Int) by omega,qX]at e11;have hpc:=lη (show p<q.code.length by omega);rw[hpc]at e11;have hin:=e7.i _ (lμ (show p<q.code.length by omega));generalize q.code[p]=y at hpc e11 hin;have hop:y.op=30:=eqI_t.1 e11;have hpS:p<S.length:=by rw[e8.o.n];omega
   have hS:=lη hpS;generalize S[p]=w at hS;obtain⟨st',ha,hs2,hto⟩:=e8.c p y w hpc hS;obtain⟨l,e,he,hel,-,-,hst',hcl',-⟩:=M1 ha;have hp1:((p+1:Nat):Int)∈(fo q p y).1:=by
    rw[WG hs2 (by omega) (by omega) (by omega) (by omega)];exact List.mem_singleton.2 rfl
   obtain⟨u,hu,-,hus,-⟩:=hto _ hp1;rw[Int.toNat_natCast,e10]at hu;cases hu;rw[hus,hst',hcl' (.inl hop),List.nil_append];obtain⟨op,a,b,vv⟩:=y;have hop:op=30:=hop;subst hop;have he:(fC c a b).map (fun q=>[((3::q.params,m8 q):Ek)])=some l:=he;cases hz:fC c a b with
   |none=>rw[hz]at he;cases he
   |some z=>
   rw[hz]at he;obtain rfl:=Option.some.inj he;obtain rfl:=List.mem_singleton.1 hel;have haw:Yi c x=z.res:=by
    unfold Yi;rw[show az x.pc 0=false by rw[bp];exact mβ hp,cond_false,e1,Option.bind_some,e9,show((p+1:Nat):Int) - 1=(p:Int) by omega,qX,hpc,Option.bind_some];show((fC c a b).getD m0).res=_;rw[hz];rfl
   rw[haw]at hrk;have hk:rp.k=z.res:=((mE _ rp).1 hrk).1.1;show FvL (m8 z) _;unfold m8;rw[<-hk];cases az rp.k 0 with
   |true=>trivial
   |false=>exact⟨hk▸hrk,trivial⟩
 have hsw:=hst.wk;have hsl:=hst.len;have h40:=(e8.o.v v (mθ e10)).1;refine⟨t,S,hctx,⟨hfv,⟨by simp[X0],fun e he=>by cases he⟩,hlc.wk,⟨hsw,by show(bif az rp.k 0 then[]else[rp]:List Va).length<=40;omega⟩,by show 0<=x.pc/\x.pc<=1501;omega,fun _=>⟨pc,v,e9,e10,hst,by rw[hq];exact hlc⟩,fun h=>by cases h⟩,by omega,e3,e4,by rw[hq];exact e1,by rw[hq];exact e14⟩
structure VB (v:Va):Prop where
 L:v.L.length<m5
 v:FZ v
structure LB (l:List Va):Prop where
 n:l.length<m5
 v:∀v∈l,VB v
def DH {l:List Va}(h:yB l=true):l.length<=20/\∀v∈l,Lg v:=by
 unfold yB at h;rw[lγ,bk,lδ,mζ]at h;refine⟨by omega,fun v hv=>?_⟩
 have:=h.1 v hv;unfold vaB at this;simp only[lγ,Bool.not_eq_true',bT,lζ]at this;exact⟨by omega,by omega⟩
def WC {c:List Ct}(h:y8 c=true):zB c:=by
 unfold y8 at h;simp only[lγ,Bool.not_eq_true',bT,lζ,mζ]at h;refine⟨by omega,fun t ht=>?_⟩
 have h1:=h.2 t ht;unfold P4 at h1;simp only[lγ,Bool.not_eq_true',bT,lζ,mζ]at h1;refine⟨by omega,by omega,fun m hm=>?_⟩
 have h2:=h1.2.2.2.2 m hm;unfold Lk at h2;simp only[lγ,Bool.not_eq_true',bT,lζ]at h2;exact⟨by omega,by omega,by omega⟩
def aaL {p:Int}(h:0<=p){k:Int}(hk:0<k):0<=Int.tmod p k/\Int.tmod p k<k:=⟨Int.tmod_nonneg _ h,Int.tmod_lt_of_pos _ hk⟩
section
def Zj:LN->LN->Bool
 |[],[]=>true
 |a::r,b::s=>Nat.beq a b&&Zj r s
 |_,_=>false
def Nv:∀{a b:LN},Zj a b=true->a=b
 |[],[],_=>rfl
 |[],_::_,h=>by cases h
 |_::_,[],h=>by cases h
 |a::r,b::s,h=>by
  simp only[Zj,lγ]at h;rw[lν h.1,Nv h.2]
def tQ (P:Program)(k:IntKind)(t:TypeId):Bool:=match P.underlying t with|some (.int k')=>decide (k'=k)|_=>false
def qm (P:Program)(t:TypeId):Bool:=match P.underlying t with|some .string=>true|_=>false
def nS (P:Program)(t e z:Nat):Bool:=match P.underlying t with|some (.slice e')=>Nat.beq e' e&&Nat.beq (P.cellsOf e) z|_=>false
def nT (P:Program)(t:Nat)(ts:LN):Bool:=match P.underlying t with|some (.struct fs)=>Zj (fs.toList.map (·.type)) ts|_=>false
def Db (C:TypeId->LD->Prop):List TypeId->LD->Prop
 |[],xs=>xs=[]
 |t::r,xs=>∃ys zs,xs=ys++zs/\C t ys/\Db C r zs
def yd {C:TypeId->LD->Prop}:∀{fs:List Field} {xs:LD},rn C fs xs->Db C (fs.map (·.type)) xs
 |[],_,h=>h
 |f::r,xs,⟨ys,zs,h1,h2,h3⟩=>⟨ys,zs,h1,h2,yd h3⟩
section
variable {P:Program} {B:TypeId->Nat} {n t:Nat} {xs:LD} {x:Da}
def gT {k:IntKind}(h:tQ P k t=true)(hc:cg P B (n+1) t xs):∃i,xs=[.int k i]/\(Lit.int k i).wf=true:=by
 unfold tQ at h;simp only[cg]at hc;split at h
 ·rename_i hu;rw[hu]at hc;have:=of_decide_eq_true h;subst this;exact hc
 ·cases h
def Mm (h:qm P t=true)(hc:cg P B (n+1) t xs):∃s,xs=[.str s]:=by
 unfold qm at h;simp only[cg]at hc;split at h
 ·rename_i hu;rw[hu]at hc;obtain⟨s,rfl,_⟩:=hc;exact⟨s,rfl⟩
 ·cases h
def vq {e z:Nat}(h:nS P t e z=true)(hc:cg P B (n+1) t xs):∃es,xs=[.slice z es]/\es.length<=B e/\∀x∈es,hH P (cg P B n) e x:=by
 unfold nS at h;simp only[cg]at hc;split at h
 ·rename_i hu;rw[hu]at hc;rw[lγ]at h;obtain⟨es,rfl,_,h2,h3⟩:=hc;have h4:=lν h.1;subst h4;rw[lν h.2];exact⟨es,rfl,h2,h3⟩
 ·cases h
variable {ts:LN}
def vr (h:nT P t ts=true)(hc:cg P B (n+1) t xs):Db (cg P B n) ts xs:=by
 unfold nT at h;simp only[cg]at hc;split at h
 ·rename_i hu;rw[hu]at hc;rw[<-Nv h];exact yd hc
 ·cases h
def qb {C:TypeId->LD->Prop}(h:nT P t ts=true)(hc:hH P C t x):∃cs,x= .agg cs/\C t cs:=by
 unfold nT at h;unfold hH at hc;split at h
 ·rename_i hu;have:iv P t=true:=by unfold iv;rw[hu]
  rw[this]at hc;exact hc
 ·cases h
def Nm {k:IntKind}{C:TypeId->LD->Prop}(h:tQ P k t=true)(hc:hH P C t x):C t [x]:=by
 unfold tQ at h;unfold hH at hc;split at h
 ·rename_i hu;have:iv P t=false:=by unfold iv;rw[hu]
  rw[this]at hc;exact hc
 ·cases h
def CW {C:TypeId->LD->Prop}(h:qm P t=true)(hc:hH P C t x):C t [x]:=by
 unfold qm at h;unfold hH at hc;split at h
 ·rename_i hu;have:iv P t=false:=by unfold iv;rw[hu]
  rw[this]at hc;exact hc
 ·cases h
end
def gQ {α:Type}{f:α->Da}{Q:α->Prop}:∀{es:LD},(∀x∈es,∃a,x=f a/\Q a)->∃l:List α,es=l.map f/\∀a∈l,Q a
 |[],_=>⟨[],rfl,fun _ h=>by cases h⟩
 |x::es,h=>by
  obtain⟨a,rfl,ha⟩:=h x (lχ ..);obtain⟨l,rfl,hl⟩:=gQ (es:=es) fun y hy=>h y (mα _ hy)
  refine⟨a::l,rfl,fun b hb=>?_⟩
  rcases mγ.1 hb with rfl|hb
  ·exact ha
  ·exact hl b hb
noncomputable section
abbrev Bn:TypeId->Nat:=fun _=>1048576
abbrev CT (n t:Nat)(xs:LD):Prop:=cg prog0 Bn n t xs
abbrev DT (n t:Nat)(x:Da):Prop:=hH prog0 (cg prog0 Bn n) t x
def NH:tQ prog0 .i64 3=true:=by kernel_rfl
def VJ:qm prog0 9=true:=by kernel_rfl
def abk:nS prog0 42 3 1=true:=by kernel_rfl
def aao:nS prog0 43 9 1=true:=by kernel_rfl
def VK:nT prog0 45 [3,3,9,42,43]=true:=by kernel_rfl
def VL:nS prog0 25 45 5=true:=by kernel_rfl
def ē:nT prog0 87 [9,3,45]=true:=by kernel_rfl
def ό:nS prog0 58 87 7=true:=by kernel_rfl
def Ĕ:nT prog0 89 [3,3,3,45]=true:=by kernel_rfl
def ύ:nS prog0 62 89 8=true:=by kernel_rfl
def aaj:nT prog0 64 [9,42,3,42,62]=true:=by kernel_rfl
def aak:nS prog0 59 64 5=true:=by kernel_rfl
def aal:nT prog0 61 [9,58,59]=true:=by kernel_rfl
def aam:nS prog0 22 61 3=true:=by kernel_rfl
def VI:nT prog0 24 [22]=true:=by kernel_rfl
def ĕ:nT prog0 27 [3,3,3,25]=true:=by kernel_rfl
def Ė:tQ prog0 .u16 57=true:=by kernel_rfl
variable {xs:LD}
def ŕ {n:Nat}(h:CT (n+2) 43 xs):∃l:List LN,xs=[.slice 1 (l.map .str)]/\l.length<=1048576:=by
 obtain⟨es,rfl,h1,h2⟩:=vq aao h;obtain⟨l,rfl,_⟩:=gQ (f:=Da.str) (Q:=fun _=>True) (es:=es) fun x hx=>by
  obtain⟨i,e⟩:=Mm VJ (CW VJ (h2 x hx));simp only[lω,and_true]at e;exact⟨i,e,trivial⟩
 exact⟨l,rfl,by simpa using h1⟩
def ű {P:Program}{t e z:Nat}{x:Da}{C:TypeId->LD->Prop}(h:nS P t e z=true)(hc:hH P C t x):C t [x]:=by
 unfold nS at h;unfold hH at hc;split at h
 ·rename_i hu;have:iv P t=false:=by unfold iv;rw[hu]
  rw[this]at hc;exact hc
 ·cases h
def NG {i:Int}(h:(Lit.int .i64 i).wf=true):kg i:=by
 simp only[Lit.wf,lγ,lδ]at h;have h1:IntKind.i64.min= -9223372036854775808:=rfl;have h2:IntKind.i64.max=9223372036854775807:=rfl;rw[h1,h2]at h;exact⟨by omega,by omega⟩
def vV {n:Nat}(h:CT (n+2) 42 xs):∃l:LI,xs=[.slice 1 (l.map iE)]/\∀i∈l,kg i:=by
 obtain⟨es,rfl,h1,h2⟩:=vq abk h;obtain⟨l,rfl,hl⟩:=gQ (f:=iE) (Q:=kg) (es:=es) fun x hx=>by
  obtain⟨i,e,hw⟩:=gT NH (Nm NH (h2 x hx));simp only[lω,and_true]at e;exact⟨i,e,NG hw⟩
 exact⟨l,rfl,hl⟩
def I_ {n:Nat}(h:CT (n+3) 45 xs):∃v:Va,xs=v.c/\VB v:=by
 obtain⟨_,_,rfl,h1,_,_,rfl,h2,_,_,rfl,h3,_,_,rfl,h4,_,_,rfl,h5,rfl⟩:=vr VK h;obtain⟨k,rfl,_⟩:=gT NH h1;obtain⟨m,rfl,hm⟩:=gT NH h2;obtain⟨s,rfl⟩:=Mm VJ h3;obtain⟨I,rfl,hI⟩:=vV h4;obtain⟨L,rfl,hL⟩:=ŕ h5;exact⟨⟨k,m,s,I,L⟩,rfl,by show L.length<2000000;omega,NG hm,hI⟩
def Ċ {n:Nat}{x:Da}(h:DT (n+3) 45 x):∃v:Va,x=v.e/\VB v:=by
 obtain⟨cs,rfl,g⟩:=qb VK h;obtain⟨v,rfl,hv⟩:=I_ g;exact⟨v,rfl,hv⟩
def Up {n:Nat}(h:CT (n+4) 25 xs):∃l:List Va,xs=[.slice 5 (l.map Va.e)]/\LB l:=by
 obtain⟨es,rfl,h1,h2⟩:=vq VL h;obtain⟨l,rfl,hl⟩:=gQ (f:=Va.e) (Q:=VB) (es:=es) fun x hx=>Ċ (h2 x hx)
 rw[lα]at h1;exact⟨l,rfl,by show l.length<2000000;exact Nat.lt_of_le_of_lt h1 (by decide),hl⟩
def T_ {n:Nat}{x:Da}(h:DT (n+5) 27 x):∃m:Mc,x=m.e/\LB m.ls:=by
 obtain⟨cs,rfl,g⟩:=qb ĕ h;obtain⟨_,_,rfl,h1,_,_,rfl,h2,_,_,rfl,h3,_,_,rfl,h4,rfl⟩:=vr ĕ g;obtain⟨a,rfl,_⟩:=gT NH h1;obtain⟨b,rfl,_⟩:=gT NH h2;obtain⟨c,rfl,_⟩:=gT NH h3;obtain⟨l,rfl,hl⟩:=Up h4;exact⟨⟨a,b,c,l⟩,rfl,hl⟩
def U_ {n:Nat}{x:Da}(h:DT (n+1) 9 x):∃s,x= .str s:=by
 obtain⟨s,e⟩:=Mm VJ (CW VJ h);simp only[lω,and_true]at e;exact⟨s,e⟩
def Ű {n:Nat}{x:Da}(h:DT (n+4) 25 x):∃l:List Va,x= .slice 5 (l.map Va.e)/\LB l:=by
 obtain⟨l,e,h1⟩:=Up (ű VL h);simp only[lω,and_true]at e;exact⟨l,e,h1⟩
def V_ {n:Nat}{x:Da}(h:DT (n+1) 57 x):∃i,x= .int .u16 i/\0<=i/\i<=65535:=by
 obtain⟨i,e,hw⟩:=gT Ė (Nm Ė h);simp only[lω,and_true]at e;simp only[Lit.wf,lγ,lδ]at hw;have h1:IntKind.u16.min=0:=rfl;have h2:IntKind.u16.max=65535:=rfl;rw[h1,h2]at hw;exact⟨i,e,hw.1,hw.2⟩
def call0_ok (L:Letters)(N:Nat):eK prog0 globs0 (Ω N):=rj (P:=prog0) (G:=globs0) yD (lay0.okM L mvG) N
def Xf {n:Nat}:Ω (n+1) 9 [] []=some (pB true,[]):=by kernel_rfl
end
end
section
section
variable {s:Xs} {P:Xt->Prop} (hI:ON s P) (st:List Va) {f1 f2:Int} (h12:f1<=f2)
include hI h12
end
end

def B3 (v:Va):eZ v v=true:=by
 unfold eZ;simp only[bp,hM,decide_true,Bool.and_self]
def ER (v:Va)(h:Lg v)(hm:1504<=m):Ω m 48 [.p v.e,.p v.e] []=dQ true:=by
 obtain⟨k,rfl⟩:=uD hm;have:=vJ (n:=k) v v (.inl h.I) (.inl h.L);rw[B3]at this;exact this
def R3 (l:List Va)(hl:l.length<1501)(hv:∀v∈l,Lg v)(hm:1510<=m):Ω m 101 [pL 5 (l.map Va.e),pL 5 (l.map Va.e),.p (.fn 48 [])] []=dQ true:=by
 replace hm:=fuel hm;obtain⟨m,rfl,hm⟩:=hm;apply Ĺ m (l.map Va.e) (l.map Va.e);unfold So;rw[lα,bp,lκ rfl,Bool.not_true,aX];refine(br l (fun q i=>itL (nu (cq lay0.tab m) m _ _) q (l.map Va.e,l.map Va.e,(l.length:Int),i)) (fun _=>false) (fun _=>dQ false) (dQ true) (fun q i hi=>?_) (fun q=>?_) (by omega)).trans ?_
 ·rw[aQ];have hs:=ae (ER l[i] (hv _ (lμ hi)) (m:=m) (by omega));simp only[nu,fp (show(i:Int)<(l.length:Int) by omega),aN,aU,be,bh hi,bw,Va.e,KI,wS (show i<c9 by unfold c9;omega)];refine(hs _).trans ?_;simp only[ba,aL,aC];rfl
 ·rw[aQ];simp only[nu,c8,aX];rfl
 ·rw[mσ.2 fun _ _=>rfl];rfl
def ne (l:List Va)(hl:l.length<1501)(hv:∀v∈l,Lg v)(hm:1511<=m):Ω m 61 [pL 5 (l.map Va.e),pL 5 (l.map Va.e)] []=dQ true:=by
 replace hm:=fuel hm;obtain⟨m,rfl,hm⟩:=hm;apply Pq m (l.map Va.e) (l.map Va.e);unfold AZ;refine(ae (R3 l hl hv hm) _).trans ?_;simp only[ba,aL];exact cd _ _
def RZ (l:List Ef)(hl:l.length<1501)(hm:1510<=m):Ω m 62 [pL 4 (l.map Ef.e),pL 4 (l.map Ef.e)] []=dQ true:=by
 replace hm:=fuel hm;obtain⟨m,rfl,hm⟩:=hm;apply Ķ m (l.map Ef.e) (l.map Ef.e);unfold Sl;rw[lα,bp,lκ rfl,Bool.not_true,aX];refine(br l (fun q i=>itL (nq (cq lay0.tab m) m _ _) q (l.map Ef.e,l.map Ef.e,(l.length:Int),i)) (fun _=>false) (fun _=>dQ false) (dQ true) (fun q i hi=>?_) (fun q=>?_) (by omega)).trans ?_
 ·rw[aQ];simp only[nq,fp (show(i:Int)<(l.length:Int) by omega),aN,aU,be,bh hi,bw,O_,bp,hM,decide_true,wS (show i<c9 by unfold c9;omega)];rfl
 ·rw[aQ];simp only[nq,c8,aX];rfl
 ·rw[mσ.2 fun _ _=>rfl];rfl
structure c_ (g:MU):Prop where
 v:Lg g.v
 a:g.ar.length<1501/\∀v∈g.ar,Lg v
 l:g.mc.ls.length<1501/\∀v∈g.mc.ls,Lg v
 f:g.fs.length<1501/\∀v∈g.fs,Lg v
 e:g.es.length<1501
def ET (g:MU)(h:c_ g)(hm:1520<=m):Ω m 27 [.p g.e,.p g.e] []=dQ true:=by
 replace hm:=fuel hm;obtain⟨m,rfl,hm⟩:=hm;apply Pn m g.r g.r;unfold AW;have h1:=ae (ER g.v h.v (m:=m) (by omega));have h2:=ae (ne g.ar h.a.1 h.a.2 (m:=m) (by omega));have h3:=ae (ne g.mc.ls h.l.1 h.l.2 (m:=m) (by omega));have h4:=ae (ne g.fs h.f.1 h.f.2 (m:=m) (by omega));have h5:=ae (RZ g.es h.e (m:=m) (by omega));simp only[Va.e,Va.c]at h1;simp only[MU.r,bp,hM,decide_true,aN,h1,h2,h3,h4,h5,ba,aL,aC];refine(cd _ _).trans ?_;rfl
def aaq:c_ Q5:=⟨⟨by simp[Q5,v0],by simp[Q5,v0]⟩,⟨by simp[Q5],by simp[Q5]⟩,⟨by simp[Q5,mc0],by simp[Q5,mc0]⟩,⟨by simp[Q5],by simp[Q5]⟩,by simp[Q5]⟩
def lgT (e u:Int){fs:List Va}(h:fs.length<1501/\∀v∈fs,Lg v):c_ (m2 e u fs):=⟨⟨by simp[m2,v0],by simp[m2,v0]⟩,⟨by simp[m2],by simp[m2]⟩,⟨by simp[m2,mc0],by simp[m2,mc0]⟩,h,by simp[m2]⟩
def lgD {s:Xs}{t:Ct}{S:List SV}{X:Xt}(hc:zB s.c)(ht:t∈s.c)(hx:ð s t S)(h:Gd s t S X)(hd:X.done=true):c_ (No s X):=by
 have hfl:=h.fs.len;rw[lα]at hfl;have hf:X.fs.length<1501/\∀v∈X.fs,Lg v:=⟨by have:=(hc.s t ht).f;omega,fun v hv=>m3 (h.fs.wk v hv)⟩
 have he:X.es.length<1501:=by have:=h.es.n;omega
 have hm0:(mc0.ls.length<1501/\∀v∈mc0.ls,Lg v):=⟨by simp[mc0],by simp[mc0]⟩
 rcases h.dn hd with⟨h1,h2,h3⟩|⟨h1,h2,pc,x,v,u,q,-,h4,-,-,h5,h6,h7,-,-,-,h8⟩
 ·refine⟨m3 (BA h2),?_,?_,hf,he⟩
  ·show X.ar.length<1501/\∀v∈X.ar,Lg v;rw[h3];exact⟨by simp,by simp⟩
  ·show(bif az X.ok 2 then(⟨s.ty,s.me,X.pc,X.ls⟩:Mc)else mc0:Mc).ls.length<1501/\∀v∈(bif az X.ok 2 then(⟨s.ty,s.me,X.pc,X.ls⟩:Mc)else mc0:Mc).ls,Lg v;rw[h1];exact hm0
 ·refine⟨?_,⟨?_,fun v hv=>m3 (h8.wk v hv)⟩,?_,hf,he⟩
  ·show Lg X.ov;rw[h2];exact⟨by simp[v0],by simp[v0]⟩
  ·show X.ar.length<1501;rw[h8.len];exact((hc.s u (p7 h6)).s q (p7 h7)).p
  ·show(bif az X.ok 2 then(⟨s.ty,s.me,X.pc,X.ls⟩:Mc)else mc0:Mc).ls.length<1501/\∀v∈(bif az X.ok 2 then(⟨s.ty,s.me,X.pc,X.ls⟩:Mc)else mc0:Mc).ls,Lg v;rw[h1];refine⟨?_,fun v hv=>m3 (h.ls v hv)⟩
   show X.ls.length<1501;rw[h5.n];exact hx.f.z.l
def VU {s:Xs}{t:Ct}{S:List SV}(hc:zB s.c)(ht:t∈s.c)(hx:ð s t S)(hky:s.ky.length<=32){fs:List Va}(hfs:fs.length<1501/\∀v∈fs,Lg v)(f:Int):∀(N:Nat) (u:Int) (X:Xt),Gd s t S X->c_ (I6 s f fs N u X)
 |0,u,X,_=>aaq
 |N+1,u,X,h=>by
  unfold I6;cases hd:X.done with
  |true=>exact lgD hc ht hx h hd
  |false=>
   rw[cond_false];cases aV u f with
   |false=>exact lgT _ _ hfs
   |true=>
    obtain⟨y,hy,hg⟩:=Oj hx hky h hd;rw[cond_true,hy];simp only;cases he:az y.2 0 with
    |false=>exact lgT _ _ hfs
    |true=>exact VU hc ht hx hky hfs f N (u+1) _ ((hg (eqI_t.1 he)).fu u)
def Ϫ {c:List Ct}(hc:zB c)(hcv:CoV c){x:Mc}{fs:List Va}{rp:Va}{fuel:Int}(hx:∀v∈x.ls,FZ v)(hfs:∀v∈fs,FZ v)(hrp:FZ rp)(h:pr c x key fs rp fuel=true):∃P,ON (S0 c x key) P/\P (X0 x fs rp):=by
 obtain⟨t,S,h1,h2,h3,-⟩:=B1 hc hcv hx hfs hrp h;exact⟨_,Z3 h1 h3,h2⟩
def Jn:Nat->Nat->LN
 |0,v=>[v]
 |f+1,v=>bif Nat.blt v 128 then[v]else(v % 128+128)::Jn f (v / 128)
def fU (v:Nat):LN:=Jn 9 v
def N6:∀(f v:Nat),(Jn f v).length<=f+1
 |0,v=>Nat.le_refl _
 |f+1,v=>by
  unfold Jn;cases Nat.blt v 128
  ·exact Nat.succ_le_succ (N6 f _)
  ·exact Nat.succ_le_succ (Nat.zero_le _)
def ck (v:Nat):(fU v).length<=10:=N6 9 v
def zz:Int->Nat
 | .ofNat n=>2*n
 | .negSucc n=>2*n+1
def zzO (n:Nat):zz (Int.ofNat n)=2*n:=rfl
def zzN (n:Nat):zz (Int.negSucc n)=2*n+1:=rfl
def W2 {i:Int}(h1: -9223372036854775808<=i)(h2:i<9223372036854775808):zz i<18446744073709551616:=by
 cases i with
 |ofNat n=>rw[zzO];simp only[Int.ofNat_eq_natCast]at h2;omega
 |negSucc n=>rw[zzN];rw[Int.negSucc_eq]at h1;omega
def wrF (k:IntKind)(n:Int):ab k n=k.wrap n:=by
 letI:Letters:=⟨fun _=>0⟩
 exact gV k n
def wU8 (n:Nat):ab .u8 (n:Int)=((n % 256:Nat):Int):=by
 rw[wrF];simp only[IntKind.wrap,IntKind.signed,IntKind.bits,Bool.false_and,Bool.false_eq_true,if_false];omega
def WX {n:Nat}(h:n<256):ab .u8 (n:Int)=(n:Int):=by rw[wU8,Nat.mod_eq_of_lt h]
def mU (n:Int):ab .u64 n=n % 18446744073709551616:=by
 rw[wrF];simp only[IntKind.wrap,IntKind.signed,IntKind.bits,Bool.false_and,Bool.false_eq_true,if_false];rfl
def Rm (n:Int):ab .i64 n=if n % 18446744073709551616<9223372036854775808 then n % 18446744073709551616 else n % 18446744073709551616 - 18446744073709551616:=by
 rw[wrF];show(if(true&&decide (n % 18446744073709551616≥9223372036854775808))=true then _ else _)=_;by_cases h:n % 18446744073709551616<9223372036854775808
 ·rw[if_pos h,if_neg (by rw[Bool.true_and,lδ];omega)];rfl
 ·rw[if_neg h,if_pos (by rw[Bool.true_and,lδ];omega)];rfl
def aay:∀x<256,(BitVec.ofNat 8 x ||| 128#8).toNat=x % 128+128:=by decide
def ń:∀x<256,(BitVec.ofNat 8 x &&& 127#8).toNat=x % 128:=by decide
def aaY (v:Nat):ab .u8 ((BitVec.ofInt (IntKind.bits .u8) (ab .u8 (v:Int)) ||| BitVec.ofInt (IntKind.bits .u8) 128).toNat:Int)=((v % 128+128:Nat):Int):=by
 rw[wU8 v];show ab .u8 (((BitVec.ofNat 8 (v % 256)) ||| 128#8).toNat:Int)=_;rw[aay _ (Nat.mod_lt _ (by decide)),WX]
 ·congr 1;omega
 ·omega
def E_ {x:Nat}(h:x<256):ab .u8 ((BitVec.ofInt (IntKind.bits .u8) (x:Int) &&& BitVec.ofInt (IntKind.bits .u8) 127).toNat:Int)=((x % 128:Nat):Int):=by
 show ab .u8 (((BitVec.ofNat 8 x) &&& 127#8).toNat:Int)=_;rw[ń _ h,WX (by omega)]
def sh7 {v:Nat}:Int.fdiv (v:Int) (2 ^ min (Int.toNat 7) (IntKind.bits .u64))=((v / 128:Nat):Int):=by
 rw[Int.fdiv_eq_ediv_of_nonneg _ (by decide)];rfl
def ϣ {b k:Nat}(h:b<2 ^ k):b ||| a*2 ^ k=a*2 ^ k+b:=by
 rw[Nat.or_comm,Nat.mul_comm,<-Nat.two_pow_add_eq_or_of_lt h]
def abq {b:Nat}(ha:a<18446744073709551616)(hb:b<18446744073709551616):ab .u64 ((BitVec.ofInt (IntKind.bits .u64) (a:Int) ||| BitVec.ofInt (IntKind.bits .u64) (b:Int)).toNat:Int)=((a ||| b:Nat):Int):=by
 show ab .u64 (((BitVec.ofNat 64 a) ||| BitVec.ofNat 64 b).toNat:Int)=_;rw[BitVec.toNat_or,BitVec.toNat_ofNat,BitVec.toNat_ofNat,Nat.mod_eq_of_lt (by exact ha),Nat.mod_eq_of_lt (by exact hb),mU];have:a ||| b<2 ^ 64:=Nat.or_lt_two_pow ha hb;omega
def a_ (i:Int)(h1: -9223372036854775808<=i)(h2:i<9223372036854775808):ab .u64 ((BitVec.ofInt (IntKind.bits .u64) (ab .u64 (ab .u64 i*2 ^ min (Int.toNat 1) (IntKind.bits .u64))) ^^^ BitVec.ofInt (IntKind.bits .u64) (ab .u64 (Int.fdiv i (2 ^ min (Int.toNat 63) (IntKind.bits .i64))))).toNat:Int)=(zz i:Int):=by
 cases i with
 |ofNat n=>
  simp only[Int.ofNat_eq_natCast]at h2;have e1:ab .u64 (ab .u64 (Int.ofNat n)*2 ^ min (Int.toNat 1) (IntKind.bits .u64))=((2*n:Nat):Int):=by
   rw[mU,mU];show(((n:Int) % _)*2) % _=_;omega
  have e2:ab .u64 (Int.fdiv (Int.ofNat n) (2 ^ min (Int.toNat 63) (IntKind.bits .i64)))=0:=by
   rw[Int.fdiv_eq_ediv_of_nonneg _ (by decide),mU];show((n:Int) / 9223372036854775808) % _=_;omega
  rw[e1,e2];show ab .u64 ((BitVec.ofNat 64 (2*n) ^^^ 0#64).toNat:Int)=_;rw[BitVec.xor_zero,BitVec.toNat_ofNat,mU];rw[zzO];omega
 |negSucc n=>
  rw[Int.negSucc_eq]at h1;have e1:ab .u64 (ab .u64 (Int.negSucc n)*2 ^ min (Int.toNat 1) (IntKind.bits .u64))=((18446744073709551616 - 2*(n+1):Nat):Int):=by
   rw[mU,mU,Int.negSucc_eq];show((-((n:Int)+1) % _)*2) % _=_;omega
  have e2:ab .u64 (Int.fdiv (Int.negSucc n) (2 ^ min (Int.toNat 63) (IntKind.bits .i64)))=((18446744073709551615:Nat):Int):=by
   rw[Int.fdiv_eq_ediv_of_nonneg _ (by decide),mU,Int.negSucc_eq];show(-((n:Int)+1) / 9223372036854775808) % _=_;omega
  rw[e1,e2];show ab .u64 ((BitVec.ofNat 64 (18446744073709551616 - 2*(n+1)) ^^^ BitVec.ofNat 64 18446744073709551615).toNat:Int)=_;rw[show BitVec.ofNat 64 18446744073709551615=BitVec.allOnes 64 from rfl,BitVec.xor_allOnes,BitVec.toNat_not,BitVec.toNat_ofNat,mU];rw[zzN];omega
def Ow (i:Int):zz i / 2=(match i with| .ofNat n=>n| .negSucc n=>n):=by
 cases i
 ·rw[zzO];dsimp only;omega
 ·rw[zzN];dsimp only;omega
def ϻ (i:Int)(h1: -9223372036854775808<=i)(h2:i<9223372036854775808):ab .i64 ((BitVec.ofInt (IntKind.bits .i64) (ab .i64 (Int.fdiv (zz i:Int) (2 ^ min (Int.toNat 1) (IntKind.bits .u64)))) ^^^ BitVec.ofInt (IntKind.bits .i64) (ab .i64 (0 - ab .i64 (ab .u64 ((BitVec.ofInt (IntKind.bits .u64) (zz i:Int) &&& BitVec.ofInt (IntKind.bits .u64) 1).toNat:Int))))).toNat:Int)=i:=by
 have hz:=W2 h1 h2;have e1:Int.fdiv (zz i:Int) (2 ^ min (Int.toNat 1) (IntKind.bits .u64))=((zz i / 2:Nat):Int):=by
  rw[Int.fdiv_eq_ediv_of_nonneg _ (by decide)];rfl
 have e2:(BitVec.ofInt (IntKind.bits .u64) (zz i:Int) &&& BitVec.ofInt (IntKind.bits .u64) 1).toNat=zz i % 2:=by
  show(BitVec.ofNat 64 (zz i) &&& 1#64).toNat=_;rw[BitVec.toNat_and,BitVec.toNat_ofNat,Nat.mod_eq_of_lt (by exact hz)];exact Nat.and_one_is_mod _
 rw[e1,e2];have e3:ab .i64 ((zz i / 2:Nat):Int)=((zz i / 2:Nat):Int):=by rw[Rm,if_pos (by omega)];omega
 rw[e3,show ab .u64 ((zz i % 2:Nat):Int)=((zz i % 2:Nat):Int) by rw[mU];omega,show ab .i64 ((zz i % 2:Nat):Int)=((zz i % 2:Nat):Int) by rw[Rm,if_pos (by omega)];omega];cases i with
 |ofNat n=>
  have h0:zz (Int.ofNat n) / 2=n:=Ow _;have h3:zz (Int.ofNat n) % 2=0:=by rw[zzO];omega
  simp only[Int.ofNat_eq_natCast]at h2;rw[h0,h3,show ab .i64 (0 - ((0:Nat):Int))=0 by rw[Rm];rfl];show ab .i64 ((BitVec.ofNat 64 n ^^^ 0#64).toNat:Int)=_;rw[BitVec.xor_zero,BitVec.toNat_ofNat,Nat.mod_eq_of_lt (by omega),Rm,if_pos (by omega)];show _=(n:Int);omega
 |negSucc n=>
  have h0:zz (Int.negSucc n) / 2=n:=Ow _;have h3:zz (Int.negSucc n) % 2=1:=by rw[zzN];omega
  rw[Int.negSucc_eq]at h1;rw[h0,h3,show ab .i64 (0 - ((1:Nat):Int))= -1 by rw[Rm];rfl];show ab .i64 ((BitVec.ofNat 64 n ^^^ BitVec.allOnes 64).toNat:Int)=_;rw[BitVec.xor_allOnes,BitVec.toNat_not,BitVec.toNat_ofNat,Nat.mod_eq_of_lt (by omega),Rm,Int.negSucc_eq,if_neg (by omega)];omega
end
end Go.Ab
