import Derived.Test.YtbgddkffhndjcaaGreatDoorKg0
import Derived.Test.YtbgddkffhndjcaaGreatDoorOg1
import Derived.Test.YtbgddkffhndjcaaGreatDoorOg2
set_option linter.all false
namespace Go.Ab
open Go
set_option maxRecDepth 100000
noncomputable section
structure Iv (s:PS):Prop where
 sz:s.sz=true
 len:s.tk.length<=6000
 nd:s.nd.length<=s.ps
 wf:∀x∈s.nd,gU s.nd.length x.kids/\x.kids.length<10000
structure Ad (s t:PS):Prop where
 tk:t.tk=s.tk
 en:t.en=s.en
 ps:s.ps<=t.ps
 ok:t.ok=true->s.ok=true
 nd:s.nd.length<=t.nd.length
 de:t.nd.length+s.ps<=s.nd.length+t.ps
def Ad.refl (s:PS):Ad s s:=⟨rfl,rfl,Nat.le_refl _,id,Nat.le_refl _,Nat.le_refl _⟩
def Ad.trans {a b c:PS}(h:Ad a b)(g:Ad b c):Ad a c:=⟨g.tk.trans h.tk,g.en.trans h.en,mσ h.ps g.ps,fun k=>h.ok (g.ok k),mσ h.nd g.nd,by have:=h.de;have:=g.de;omega⟩
def Iv.le {s:PS}(h:Iv s):s.ps<=s.tk.length:=(vw h.sz).1
def Tt {α:Type}(s0 s:PS)(p:PM α)(Q:α->PS->Prop):Prop:=∃a t,p s=some (a,t)/\Iv t/\Ad s0 t/\Q a t
def Tt.bnd {α β:Type}{s0 s:PS}{p:PM α}{f:α->PM β}{Q:α->PS->Prop}{R:β->PS->Prop}(h:Tt s0 s p Q)(g:∀a t,Iv t->Ad s0 t->Q a t->Tt s0 t (f a) R):Tt s0 s (p.bnd f) R:=by
 obtain⟨a,t,h1,h2,h3,h4⟩:=h;obtain⟨b,u,g1,g2,g3,g4⟩:=g a t h2 h3 h4;exact⟨b,u,by simp only[PM.bnd,h1,g1],g2,g3,g4⟩
variable {α:Type} {s0:PS} {p:PM α}
def Tt.of {s:PS}{Q R:α->PS->Prop}(a:Ad s0 s)(h:Tt s s p Q)(g:∀a t,Ad s t->Q a t->R a t):Tt s0 s p R:=by
 obtain⟨x,t,h1,h2,h3,h4⟩:=h;exact⟨x,t,h1,h2,a.trans h3,g x t h3 h4⟩
def Tt.imp {s:PS}{Q R:α->PS->Prop}(h:Tt s0 s p Q)(g:∀a t,Iv t->Ad s0 t->Q a t->R a t):Tt s0 s p R:=by
 obtain⟨x,t,h1,h2,h3,h4⟩:=h;exact⟨x,t,h1,h2,h3,g x t h2 h3 h4⟩
def Tt.ret {α:Type}{s0 s:PS}{a:α}{Q:α->PS->Prop}(i:Iv s)(h:Ad s0 s)(q:Q a s):Tt s0 s (PM.ret a) Q:=⟨a,s,rfl,i,h,q⟩
def Tt.cnd {α:Type}{s0 s:PS}{c:PS->Bool}{p q:PM α}{Q:α->PS->Prop}(i:Iv s)(h:c s=true->Tt s0 s p Q)(g:c s=false->Tt s0 s q Q):Tt s0 s (cnd c p q) Q:=by
 unfold Tt Go.Ab.cnd;rw[i.sz,cond_true];cases hc:c s with
 |true=>exact h hc
 |false=>exact g hc
def Tt.cok {α:Type}{s0 s:PS}{p q:PM α}{Q:α->PS->Prop}(h:s.ok=true->Tt s0 s p Q)(g:s.ok=false->Tt s0 s q Q):Tt s0 s (cok p q) Q:=by
 unfold Tt Go.Ab.cok;cases hc:s.ok with
 |true=>exact h hc
 |false=>exact g hc
def Tt.fnO {α:Type}{s0 s:PS}{l:List LN}{p:PM α}{f:LN->PM α}{Q:α->PS->Prop}(i:Iv s)(h:Tt s0 s p Q)(g:∀o,s.is o=true->Tt s0 s (f o) Q):Tt s0 s (fnO l p f) Q:=by
 unfold Tt Go.Ab.fnO;rw[i.sz,cond_true];cases hc:l.find? s.is with
 |none=>exact h
 |some o=>exact g o (by grind)
def eh (s:PS){e:Int}(he:e≠0):(s.fail e).ok=false:=by
 unfold PS.fail;cases h:s.ok with
 |false=>exact h
 |true=>exact Ps he
def mL (s:PS)(e:Int):(s.fail e).tk=s.tk/\(s.fail e).en=s.en/\(s.fail e).ps=s.ps/\(s.fail e).nd=s.nd/\(s.fail e).ne=s.ne/\(s.fail e).tt=s.tt:=by
 unfold PS.fail;grind
def Iv.fail {s:PS}(h:Iv s)(e:Int):Iv (s.fail e):=by
 obtain⟨h1,h2,h3,h4,-,-⟩:=mL s e;exact⟨by have:=h.sz;unfold PS.sz at this ⊢;grind,by rw[h1];exact h.len,by rw[h3,h4];exact h.nd,by rw[h4];exact h.wf⟩
def gj (s:PS){e:Int}(he:e≠0):Ad s (s.fail e):=by
 obtain⟨h1,h2,h3,h4,-,-⟩:=mL s e;exact⟨h1,h2,by omega,fun k=>(by rw[eh s he]at k;cases k),by simp_all,by simp_all⟩
def GX {s:PS}{x:LN}(h:s.is x=true):s.ok=true:=by
 cases hk:s.ok with
 |true=>rfl
 |false=>
  unfold PS.is PS.peek at h;rw[hk]at h;cases h
def Iv.up {s:PS}(h:Iv s)(hp:s.ps<s.tk.length):Iv s.up:=by
 refine⟨?_,h.len,by have:=h.nd;show s.nd.length<=s.ps+1;omega,h.wf⟩
 have:=h.sz;unfold PS.sz at this ⊢
 simp at this ⊢
 exact⟨by show s.ps+1<=s.tk.length;omega,this.2⟩
def ue (s:PS):Ad s s.up:=⟨rfl,rfl,Nat.le_succ _,id,Nat.le_refl _,by show s.nd.length+s.ps<=s.nd.length+(s.ps+1);omega⟩
def Iv.ne {s:PS}(h:Iv s)(k:Int):Iv {s with ne:=k}:=⟨h.sz,h.len,h.nd,h.wf⟩
def aap {s t:PS}(h:Ad s t)(k:Int):Ad s {t with ne:=k}:=⟨h.tk,h.en,h.ps,h.ok,h.nd,h.de⟩
structure Ug (s t:PS):Prop where
 inv:Iv t
 ad:Ad s t
 st:t.ok=true->t.ps=s.ps+1
 nd:t.nd=s.nd
structure Lf (s t:PS):Prop where
 ad:Ad s t
 st:t.ok=true->t.ps=s.ps+1
 nd:t.nd=s.nd
def Ñ {s:PS}(h:Iv s)(hp:s.ps<s.tk.length):Ug s s.up:=⟨h.up hp,ue s,fun _=>rfl,rfl⟩
def GS {s:PS}(h:Iv s){e:Int}(he:e≠0):Ug s (s.fail e):=⟨h.fail e,gj s he,fun k=>(by rw[eh s he]at k;cases k),(mL s e).2.2.2.1⟩
def GQ {s:PS}(h:Iv s)(x:LN):Ug s (s.exp x):=by
 unfold PS.exp;cases hx:s.is x with
 |true=>exact Ñ h (eG h.sz hx)
 |false=>exact GS h (by decide)
def Ug.ne {s t:PS}(h:Ug s t)(k:Int):Ug s {t with ne:=k}:=⟨h.inv.ne k,aap h.ad k,h.st,h.nd⟩
def ϳ {s:PS}(h:Iv s)(x:LN):Ug s (s.open x):=by
 unfold PS.open PS.opn1;refine Ug.ne ?_ _;cases hb:(s.is x&&eqI s.ne 24)with
 |false=>exact GQ h x
 |true=>
  have g:=GQ (h.fail 5) x;have hf:=gj s (e:=5) (by decide);exact⟨g.inv,hf.trans g.ad,fun k=>(by have:=g.ad.ok k;rw[eh s (by decide)]at this;grind),g.nd.trans (mL s 5).2.2.2.1⟩
def Ð {s:PS}(h:Iv s)(x:LN):Ug s (s.close x):=Ug.ne (GQ h x) _
def ϴ {s:PS}(h:Iv s){k:Int}(hk:k≠0):Ug s (s.take k).2:=by
 unfold PS.take;cases hx:eqI (s.peek 0).k k with
 |true=>
  rw[bO,lδ]at hx;exact Ñ h (mQ h.sz 0 (by omega))
 |false=>exact GS h (by decide)
def Su:∀(l:List LN) (i:Int) {s:PS},Iv s->Ug s (dn l i s).2
 |[],i,s,h=>GS h (by decide)
 |x::r,i,s,h=>by
  unfold dn;cases hx:s.is x with
  |true=>exact Ñ h (eG h.sz hx)
  |false=>exact Su r (i+1) h
def Tt.lf {α:Type}{s0 s:PS}{g:PS->α×PS}(i:Iv s)(a:Ad s0 s)(h:Ug s (g s).2):Tt s0 s (lf g) (fun _ t=>Lf s t):=by
 refine⟨(g s).1,(g s).2,?_,h.inv,a.trans h.ad,⟨h.ad,h.st,h.nd⟩⟩;unfold Go.Ab.lf;rw[i.sz,cond_true]
def Tt.up {s0 s:PS}(i:Iv s)(a:Ad s0 s)(h:s.ps<s.tk.length):Tt s0 s pUp (fun _ t=>Lf s t/\t.ps=s.ps+1):=by
 refine⟨(),s.up,?_,i.up h,a.trans (ue s),⟨ue s,fun _=>rfl,rfl⟩,rfl⟩
 unfold pUp Go.Ab.lf;rw[i.sz,cond_true]
def Tt.exp {s:PS}(i:Iv s)(a:Ad s0 s)(x:LN):Tt s0 s (gE x) (fun _ t=>Lf s t):=Tt.lf i a (GQ i x)
def Tt.opn {s:PS}(i:Iv s)(a:Ad s0 s)(x:LN):Tt s0 s (nL x) (fun _ t=>Lf s t):=Tt.lf i a (ϳ i x)
def Tt.cls {s:PS}(i:Iv s)(a:Ad s0 s)(x:LN):Tt s0 s (jI x) (fun _ t=>Lf s t):=Tt.lf i a (Ð i x)
def Tt.take {s:PS}(i:Iv s)(a:Ad s0 s){k:Int}(hk:k≠0):Tt s0 s (jk k) (fun _ t=>Lf s t):=Tt.lf i a (ϴ i hk)
def Tt.kind {s:PS}(i:Iv s)(a:Ad s0 s):Tt s0 s pKind (fun _ t=>Lf s t):=Tt.lf i a (Su kindL 1 i)
def Tt.fail {s0 s:PS}(i:Iv s)(a:Ad s0 s){e:Int}(he:e≠0):Tt s0 s (B5 e) (fun _ t=>Ad s t/\t.ok=false):=by
 refine⟨(),s.fail e,?_,i.fail e,a.trans (gj s he),gj s he,eh s he⟩;unfold B5 Go.Ab.lf;rw[i.sz,cond_true]
def Tt.nam {s:PS}(i:Iv s)(a:Ad s0 s):Tt s0 s pName (fun _ t=>Lf s t):=
 (Tt.take i a (by decide)).bnd fun k t i a h=>Tt.ret i a h
def Tt.pek {s:PS}(i:Iv s)(a:Ad s0 s):Tt s0 s pPeek (fun x t=>x=s.peek 0/\t=s):=by
 refine⟨s.peek 0,s,?_,i,a,rfl,rfl⟩;unfold pPeek Go.Ab.lf;rw[i.sz,cond_true]
def Tt.int {s:PS}(i:Iv s)(a:Ad s0 s):Tt s0 s pInt (fun _ t=>Ad s t/\(t.ok=true->s.ps<t.ps)):=by
 refine Tt.cnd i (fun hc=>?_) (fun hc=>?_)
 ·refine(Tt.up i a (eG i.sz hc)).bnd fun _ t i1 a1 h1=>?_
  refine(Tt.take i1 a1 (by decide)).bnd fun k u i2 a2 h2=>Tt.ret i2 a2 ⟨h1.1.ad.trans h2.ad,fun k=>?_⟩
  have:=h2.ad.ps;omega
 ·exact(Tt.take i a (by decide)).bnd fun k u i2 a2 h2=>Tt.ret i2 a2 ⟨h2.ad,fun k=>by have:=h2.st k;omega⟩
def Ix (a:Int)(t:PS):Prop:=t.ok=true->0<=a/\a<(t.nd.length:Int)
def Ix.mono {a:Int}{s t:PS}(h:Ix a s)(g:Ad s t):Ix a t:=fun k=>by have:=h (g.ok k);have:=g.nd;omega
def Tt.add {s0 s:PS}{x:No}(i0:Iv s0)(i:Iv s)(a:Ad s0 s)(hsl:s.ok=true->s.nd.length+s0.ps+1<=s0.nd.length+s.ps)(hk:s.ok=true->gU s.nd.length x.kids)(hl:x.kids.length<10000):
  Tt s0 s (eb x) (fun b t=>Ix b t/\t.ps=s.ps/\t.ok=s.ok/\(t.ok=true->s.nd.length<t.nd.length)):=by
 have h1:=i.nd;have h2:=i.le;have h3:=i.len;unfold Tt eb;rw[qδ (show s.nd.length<1000000 by omega),qδ (show x.kids.length<1000000 by omega),Bool.and_self,cond_true];unfold PS.add;cases hs:s.ok with
 |false=>exact⟨0,s,rfl,i,a,⟨fun k=>(by simp_all),rfl,hs,fun k=>(by simp_all)⟩⟩
 |true=>
  have hsl:=hsl hs;have hk:=hk hs;have hle:(s.nd++[x]).length=s.nd.length+1:=by simp
  refine⟨(s.nd.length:Int),{s with nd:=s.nd++[x]},rfl,⟨i.sz,i.len,?_,?_⟩,⟨a.tk,a.en,a.ps,a.ok,?_,?_⟩,fun k=>?_,rfl,hs,fun k=>?_⟩
  ·show(s.nd++[x]).length<=s.ps;have:=i0.nd;omega
  ·intro y hy;rw[hle];rcases mγ.1 hy with hy|hy
   ·exact⟨fun k hk=>by have:=(i.wf y hy).1 k hk;omega,(i.wf y hy).2⟩
   ·simp at hy;subst hy;exact⟨fun k hk'=>by have:=hk k hk';omega,hl⟩
  ·rw[hle];have:=a.nd;omega
  all_goals grind
def PS.rem (s:PS):Nat:=s.tk.length - s.ps
def Ad.rem {s t:PS}(h:Ad s t):t.rem<=s.rem:=by have:=h.ps;unfold PS.rem;rw[h.tk];omega
def Ad.rem1 {s t:PS}(h:Ad s t)(i:Iv t)(g:s.ps<t.ps):t.rem+1<=s.rem:=by have:=i.le;unfold PS.rem;rw[h.tk]at*;omega
def Tot {α:Type}(b:Nat)(p:PM α)(Q:α->PS->Prop):Prop:=∀s,Iv s->s.rem<=b->Tt s s p (fun a t=>Q a t/\(t.ok=true->s.ps<t.ps))
abbrev gf (b:Nat)(p:PM Int):Prop:=Tot b p Ix
def Tot.le {b c:Nat}{Q:α->PS->Prop}(h:Tot b p Q)(hc:c<=b):Tot c p Q:=fun s i hr=>h s i (by omega)
def Tt.snoc {α:Type}{s0 s:PS}{p:PM α}{l:List α}{Q:α->PS->Prop}(h:Tt s0 s p Q)(hl:l.length<1000000):Tt s0 s (snoc p l) (fun l' t=>∃x,l'=l++[x]/\Q x t):=by
 obtain⟨x,t,h1,h2,h3,h4⟩:=h;refine⟨l++[x],t,?_,h2,h3,x,rfl,h4⟩;unfold Go.Ab.snoc;simp only[PM.bnd,h1,qδ hl,cond_true]
def Rw {α:Type}(Q:α->PS->Prop)(l:List α)(t:PS):Prop:=l.length<=t.ps+1/\∀x∈l,Q x t
def Z6 {α:Type}{b:Nat}{begins:PS->Bool}{p:PM α}{most:Nat}{Q:α->PS->Prop}(hQ:∀x s t,Q x s->Ad s t->Q x t)(hp:Tot b p Q):∀(q n:Nat) (l:List α) (s0 s:PS),Iv s->Ad s0 s->s.rem+1<=q->s.rem<=b->l.length<=s.ps->(∀x∈l,Q x s)->
  Tt s0 s (sN begins (snoc p) most q n l) (Rw Q)
 |0,n,l,s0,s,i,a,h1,_,_,_=>by omega
 |q+1,n,l,s0,s,i,a,h1,h2,h3,h4=>by
  have h6:=i.le;have h7:=i.len;unfold sN;refine Tt.cok (fun hk=>?_) (fun hk=>Tt.ret i a ⟨by omega,h4⟩);have hg:Iv (bif !begins s then s.fail 13 else bif Nat.beq n most then s.fail 5 else s)/\Ad s (bif !begins s then s.fail 13 else bif Nat.beq n most then s.fail 5 else s)/\(bif !begins s then s.fail 13 else bif Nat.beq n most then s.fail 5 else s).ps=s.ps:=by
   cases begins s with
   |false=>exact⟨i.fail 13,gj s (by decide),(mL s 13).2.2.1⟩
   |true=>
    cases Nat.beq n most with
    |true=>exact⟨i.fail 5,gj s (by decide),(mL s 5).2.2.1⟩
    |false=>exact⟨i,Ad.refl s,rfl⟩
  have hlf:Tt s0 s (lf fun s=>((),bif !begins s then s.fail 13 else bif Nat.beq n most then s.fail 5 else s)) (fun _ t=>t=(bif !begins s then s.fail 13 else bif Nat.beq n most then s.fail 5 else s)):=by
   refine⟨(),_,?_,hg.1,a.trans hg.2.1,rfl⟩;unfold lf;rw[i.sz,cond_true]
  refine hlf.bnd fun _ s1 i1 a1 e1=>?_
  obtain⟨g1,g2,g3⟩:=hg;rw[<-e1]at g1 g2 g3;have hr1:=g2.rem;refine(Tt.snoc (Tt.of a1 (hp s1 i1 (by omega)) fun x t ha hx=>And.intro hx ha) (by omega)).bnd fun l' s2 i2 a2 h5=>?_
  obtain⟨x,rfl,⟨hx,hps⟩,ha⟩:=h5;have hq2:∀y∈l++[x],Q y s2:=fun y hy=>by
   rcases mγ.1 hy with hy|hy
   ·exact hQ y _ _ (h4 y hy) (g2.trans ha)
   ·simp only[List.mem_singleton]at hy;subst hy;exact hx
  have hpsa:=ha.ps;refine Tt.cnd i2 (fun hc=>?_) (fun hc=>Tt.ret i2 a2 ⟨by rw[lα,List.length_singleton];omega,hq2⟩);have hok:=GX hc;have hps:=hps hok;refine(Tt.up i2 a2 (eG i2.sz hc)).bnd fun _ s3 i3 a3 h6=>?_
  have hr3:=h6.1.ad.rem1 i3 (by omega);have hr2:=ha.rem;exact Z6 hQ hp q (n+1) (l++[x]) s0 s3 i3 a3 (by omega) (by omega) (by rw[lα,List.length_singleton];omega) (fun y hy=>hQ y _ _ (hq2 y hy) h6.1.ad)
variable {q:Nat}
def zn {b:Nat}{begins:PS->Bool}{most:Nat}{Q:α->PS->Prop}(hQ:∀x s t,Q x s->Ad s t->Q x t)(hp:Tot b p Q){s:PS}(i:Iv s)(a:Ad s0 s)(hq:s.rem+1<=q)(hb:s.rem<=b):
  Tt s0 s (EC begins (snoc p) most q []) (Rw Q):=by
 unfold EC;exact Tt.cnd i (fun _=>Tt.ret i a ⟨by simp,by simp⟩) fun _=>Z6 hQ hp q 0 [] s0 s i a hq hb (by simp) (by simp)
def L3 {b:Nat}{ex:PM Int}{ops:List LN}(he:gf b ex):∀(q:Nat) (x:Int) (s0 s:PS),Iv s0->Iv s->Ad s0 s->Ix x s->s.rem+1<=q->s.rem<=b->(s.ok=true->s0.ps<s.ps)->
  Tt s0 s (gY ex ops q x) (fun a t=>Ix a t/\(t.ok=true->s0.ps<t.ps))
 |0,x,s0,s,i0,i,a,hx,h1,_,_=>by omega
 |q+1,x,s0,s,i0,i,a,hx,h1,h2,h3=>by
  unfold gY;refine Tt.fnO i (Tt.ret i a ⟨hx,h3⟩) fun o ho=>?_
  refine(Tt.up i a (eG i.sz ho)).bnd fun _ s1 i1 a1 h4=>?_
  have hr1:=h4.1.ad.rem1 i1 (by omega);have hn1:s1.nd.length=s.nd.length:=by rw[h4.1.nd]
  refine(Tt.of a1 (he s1 i1 (by omega)) fun y t ha hy=>And.intro hy ha).bnd fun y s2 i2 a2 h5=>?_
  obtain⟨⟨hy,hps⟩,ha⟩:=h5;have hde:=ha.de;have hde0:=a.de;have hx2:=(hx.mono h4.1.ad).mono ha;have hps2:=ha.ps;have hr2:=ha.rem;have a0ps:=a.ps;refine(Tt.add i0 i2 a2 (fun hk=>?_) (fun hk=>?_) (by simp)).bnd fun z s3 i3 a3 h6=>?_
  ·omega
  ·intro k hk';simp only[mα,List.not_mem_nil,or_false]at hk';rcases hk' with rfl|rfl
   ·exact hx2 hk
   ·exact hy hk
  ·have hr3:s3.rem=s2.rem:=by unfold PS.rem;rw[h6.2.1,a3.tk,a2.tk]
   exact L3 he q z s0 s3 i0 i3 a3 h6.1 (by omega) (by omega) (fun hk=>by rw[h6.2.1];omega)
def rq {b:Nat}{ex:PM Int}(ops:List LN)(he:gf b ex)(hq:b+1<=q):gf b (f7 ex ops q):=by
 intro s i hr;unfold f7;refine(he s i hr).bnd fun x t i1 a1 h=>?_
 have:=a1.rem;exact L3 he q x s t i i1 a1 h.1 (by omega) (by omega) h.2
def Č {b:Nat}{sum:PM Int}(he:gf b sum):gf b (DB sum):=by
 intro s i hr;unfold DB;refine(he s i hr).bnd fun x s1 i1 a1 h=>?_
 have hr1:=a1.rem;refine Tt.fnO i1 (Tt.ret i1 a1 h) fun o ho=>?_
 refine(Tt.up i1 a1 (eG i1.sz ho)).bnd fun _ s2 i2 a2 h4=>?_
 have hr2:=h4.1.ad.rem;have hn1:s2.nd.length=s1.nd.length:=by rw[h4.1.nd]
 refine(Tt.of a2 (he s2 i2 (by omega)) fun y t ha hy=>And.intro hy ha).bnd fun y s3 i3 a3 h5=>?_
 obtain⟨⟨hy,hps⟩,ha⟩:=h5;have hde:=ha.de;have hde0:=a1.de;have hx2:=(h.1.mono h4.1.ad).mono ha;have hps3:=a3.ps;have e1:=a1.ps;refine(Tt.add i i3 a3 (fun hk=>by omega) (fun hk=>?_) (by simp)).imp fun z t _ _ h6=>⟨h6.1,fun hk=>by rw[h6.2.1];rw[h6.2.2.1]at hk;have:=hps hk;omega⟩
 intro k hk';simp only[mα,List.not_mem_nil,or_false]at hk';rcases hk' with rfl|rfl
 ·exact hx2 hk
 ·exact hy hk
def Rw.le {α:Type}{Q:α->PS->Prop}{l:List α}{t:PS}(h:Rw Q l t)(i:Iv t):l.length<=6001:=by have:=h.1;have:=i.le;have:=i.len;omega
def w8 {b:Nat}{ex:PM Int}(he:gf b ex)(hq:b+1<=q){s:PS}(i:Iv s)(a:Ad s0 s)(hr:s.rem<=b+1)(hr':s.ok=true->s.rem<=b+1):Tt s0 s (sa ex q) (fun l t=>Ad s t/\(t.ok=true->s.ps<t.ps)/\l.length<=6001/\∀x∈l,Ix x t):=by
 unfold sa;refine(Tt.opn i a [40]).bnd fun _ s1 i1 a1 h1=>?_
 cases hk:s1.ok with
 |true=>
  have hr1:=h1.ad.rem1 i1 (by have:=h1.st hk;omega);refine(Tt.of a1 (zn (b:=b) (Q:=Ix) (s0:=s1) (fun x s t h g=>Ix.mono h g) he i1 (Ad.refl s1) (by omega) (by omega)) fun l t ha hl=>And.intro hl ha).bnd fun l s2 i2 a2 h2=>?_
  refine(Tt.cls i2 a2 [41]).bnd fun _ s3 i3 a3 h3=>?_
  refine Tt.ret i3 a3 ⟨h1.ad.trans (h2.2.trans h3.ad),fun hk3=>?_,h2.1.le i2,fun x hx=>(h2.1.2 x hx).mono h3.ad⟩
  have:=h1.st hk;have:=h2.2.ps;have:=h3.ad.ps;omega
 |false=>
  have hn:∀x,s1.is x=false:=fun x=>by
   cases hx:s1.is x with
   |false=>rfl
   |true=>rw[GX hx]at hk;cases hk
  have e1:∀q',0<q'->EC PS.begins (snoc ex) 16 q' [] s1=some ([],s1):=fun q' hq'=>by
   obtain⟨q',rfl⟩:∃k,q'=k+1:=⟨q' - 1,by omega⟩
   unfold EC cnd sN cok PM.ret;simp only[i1.sz,hn,hk,cond_true,cond_false]
  have hT:Tt s0 s1 (EC PS.begins (snoc ex) 16 q []) (fun l t=>l=[]/\t=s1):=⟨[],s1,e1 q (by omega),i1,a1,rfl,rfl⟩;refine hT.bnd fun l s2 i2 a2 h2=>?_
  obtain⟨rfl,rfl⟩:=h2;refine(Tt.cls i2 a2 [41]).bnd fun _ s3 i3 a3 h3=>?_
  exact Tt.ret i3 a3 ⟨h1.ad.trans h3.ad,fun hk3=>(by rw[h3.ad.ok hk3]at hk;cases hk),by simp,by simp⟩
def S7 {b:Nat}{fac:PM Int}(he:gf b fac)(o:LN){s:PS}(i:Iv s)(hr:s.rem<=b+1):Tt s s (pUn o fac) (fun a t=>Ix a t/\(t.ok=true->s.ps<t.ps)):=by
 unfold pUn;refine(Tt.opn i (Ad.refl s) o).bnd fun _ s1 i1 a1 h1=>?_
 have hx:Tt s s1 (cok fac (.ret 0)) (fun x t=>Ix x t/\Ad s1 t):=by
  refine Tt.cok (fun hk=>?_) (fun hk=>Tt.ret i1 a1 ⟨fun k=>(by rw[hk]at k;cases k),Ad.refl s1⟩);have hr1:=h1.ad.rem1 i1 (by have:=h1.st hk;omega);exact Tt.of a1 (he s1 i1 (by omega)) fun x t ha hx=>⟨hx.1,ha⟩
 refine hx.bnd fun x s2 i2 a2 h2=>?_
 have hd:Tt s s2 pDec (fun _ t=>t={s2 with ne:=ae .i64 (s2.ne - 1)}):=⟨(),_,rfl,i2.ne _,aap a2 _,rfl⟩;refine hd.bnd fun _ s3 i3 a3 h3=>?_
 subst h3;have hde:=h2.2.de;have hde1:=a1.de;have hps:=h2.2.ps;refine(Tt.add i i3 a3 (fun hk=>?_) (fun hk=>?_) (by simp)).imp fun z t _ _ h6=>⟨h6.1,fun hk=>?_⟩
 ·have:=h1.st (h2.2.ok hk);have hn1:s1.nd.length=s.nd.length:=by rw[h1.nd]
  show s2.nd.length+s.ps+1<=s.nd.length+s2.ps;omega
 ·intro k hk';simp only[mα,List.not_mem_nil,or_false]at hk';subst hk';exact h2.1 hk
 ·rw[h6.2.1];rw[h6.2.2.1]at hk;have:=h1.st (h2.2.ok hk);show s.ps<s2.ps;omega
variable {x:No}
def Tt.addE {s:PS}(i0:Iv s0)(i:Iv s)(a:Ad s0 s)(hsl:s.ok=true->s.nd.length+s0.ps+1<=s0.nd.length+s.ps)(hk:s.ok=true->gU s.nd.length x.kids)(hl:x.kids.length<10000):
  Tt s0 s (eb x) (fun b t=>Ix b t/\(t.ok=true->s0.ps<t.ps)):=
 (Tt.add i0 i a hsl hk hl).imp fun z t _ _ h6=>⟨h6.1,fun hk=>by rw[h6.2.2.1]at hk;have:=hsl hk;have:=a.nd;rw[h6.2.1];omega⟩
def č {b:Nat}{fac pr:PM Int}(hf:gf b fac)(hp:gf (b+1) pr):gf (b+1) (y3 fac pr):=by
 intro s i hr;unfold y3;exact Tt.cnd i (fun _=>S7 hf _ i hr) fun _=>Tt.cnd i (fun _=>S7 hf _ i hr) fun _=>hp s i hr
def nok {s:PS}(hk:s.ok=false)(x:LN):s.is x=false:=by
 cases hx:s.is x with
 |false=>rfl
 |true=>rw[GX hx]at hk;cases hk
def Wj {b:Nat}{ex:PM Int}(he:gf b ex)(hq:b+1<=q):gf (b+1) (fD ex q):=by
 intro s i hr;unfold fD;have a0:=Ad.refl s;have kz:∀{k:Int},k≠0->eqI (s.peek 0).k k=true->s.ps<s.tk.length:=fun hk h=>by
  rw[bO,lδ]at h;exact mQ i.sz 0 (by rw[h];exact hk)
 have lit:∀(x:No),x.kids=[]->∀(h:s.ps<s.tk.length),Tt s s (pUp.bnd fun _=>eb x) (fun a t=>Ix a t/\(t.ok=true->s.ps<t.ps)):=fun x hx h=>by
  refine(Tt.up i a0 h).bnd fun _ s1 i1 a1 h1=>?_
  refine Tt.addE i i1 a1 (fun _=>?_) (fun _ k hk=>?_) (by rw[hx];simp)
  ·have:=h1.2;rw[h1.1.nd];omega
  ·rw[hx]at hk;cases hk
 refine Tt.cnd i (fun hc=>?_) fun hc=>?_
 ·rw[lγ]at hc;refine(Tt.pek i a0).bnd fun x s1 i1 a1 h1=>?_
  obtain⟨rfl,rfl⟩:=h1;exact lit _ rfl (kz (by decide) hc.1)
 refine Tt.cnd i (fun hc=>?_) fun hc=>?_
 ·have hp:s.ps<s.tk.length:=by
   rw[mκ,mκ]at hc;rcases hc with h|h|h
   ·exact kz (by decide) h
   ·exact eG i.sz h
   ·exact eG i.sz h
  refine(Tt.pek i a0).bnd fun x s1 i1 a1 h1=>?_
  obtain⟨rfl,rfl⟩:=h1;refine(Tt.up i1 a1 hp).bnd fun _ s2 i2 a2 h2=>?_
  have hr2:=h2.1.ad.rem1 i2 (by have:=h2.2;omega);refine(w8 he hq i2 a2 (by omega) (fun _=>by omega)).bnd fun l s3 i3 a3 h3=>?_
  have hde:=h3.1.de;refine Tt.addE i1 i3 a3 (fun _=>?_) (fun hk k hk'=>h3.2.2.2 k hk' hk) (by have:=h3.2.2.1;simp only[];omega);have:=h2.2;have hn:s2.nd.length=s1.nd.length:=by rw[h2.1.nd]
  omega
 refine Tt.cnd i (fun hc=>?_) fun hc=>?_
 ·refine(Tt.pek i a0).bnd fun x s1 i1 a1 h1=>?_
  obtain⟨rfl,rfl⟩:=h1;exact lit _ rfl (kz (by decide) hc)
 refine Tt.cnd i (fun hc=>?_) fun hc=>?_
 ·have hcst:Tt s s (jc fun _=>none) (fun v t=>t=s.up/\s.ps<s.tk.length):=by
   have hp:s.ps<s.tk.length:=by
    rw[mκ,mκ]at hc;rcases hc with h|h|h
    ·exact kz (by decide) h
    ·exact eG i.sz h
    ·exact eG i.sz h
   have L:∀g:PS->Va,Tt s s (lf fun s=>(g s,s.up)) (fun v t=>t=s.up/\s.ps<s.tk.length):=fun g=>by
    refine⟨g s,s.up,?_,i.up hp,ue s,rfl,hp⟩;unfold lf;rw[i.sz,cond_true]
   unfold jc;refine Tt.cnd i (fun h1=>L _) fun h1=>Tt.cnd i (fun h2=>L _) fun h2=>Tt.cnd i (fun h3=>L _) fun h3=>?_
   rw[h1,h2,h3]at hc;cases hc
  refine hcst.bnd fun v s1 i1 a1 h1=>?_
  obtain⟨rfl,hp⟩:=h1;refine Tt.addE i i1 a1 (fun _=>?_) (fun _ k hk=>by cases hk) (by simp);show s.nd.length+s.ps+1<=s.nd.length+(s.ps+1);omega
 refine Tt.cnd i (fun hc=>lit _ rfl (eG i.sz hc)) fun hc=>?_
 refine Tt.cnd i (fun hc=>?_) fun hc=>?_
 ·refine(Tt.opn i a0 _).bnd fun _ s1 i1 a1 h1=>?_
  have hx:Tt s s1 (cok ex (.ret 0)) (fun x t=>Ix x t/\Ad s1 t):=by
   refine Tt.cok (fun hk=>?_) (fun hk=>Tt.ret i1 a1 ⟨fun k=>(by rw[hk]at k;cases k),Ad.refl s1⟩);have hr1:=h1.ad.rem1 i1 (by have:=h1.st hk;omega);exact Tt.of a1 (he s1 i1 (by omega)) fun x t ha hx=>⟨hx.1,ha⟩
  refine hx.bnd fun x s2 i2 a2 h2=>?_
  refine(Tt.cls i2 a2 _).bnd fun _ s3 i3 a3 h3=>?_
  refine Tt.ret i3 a3 ⟨h2.1.mono h3.ad,fun hk=>?_⟩
  have:=h1.st (h2.2.ok (h3.ad.ok hk));have:=h2.2.ps;have:=h3.ad.ps;omega
 ·refine(Tt.fail i a0 (by decide)).bnd fun _ s1 i1 a1 h1=>?_
  exact Tt.ret i1 a1 ⟨fun k=>(by rw[h1.2]at k;cases k),fun k=>(by rw[h1.2]at k;cases k)⟩
def GD {q:Nat}:∀(b:Nat),b+1<=q->∀lvl,lvl<=6->∀f,7*b+(7 - lvl)<=f->gf b (fu q f lvl)
 |b,hq=>by
  -- the innermost first
  have lo:∀f,7*b+1<=f->gf b (fu q f 6):=by
   intro f hf;obtain⟨f,rfl⟩:∃k,f=k+1:=⟨f - 1,by omega⟩
   show gf b (fD (fu q f 0) q);cases b with
   |zero=>
    intro s i hr;have hps:¬s.ps<s.tk.length:=by unfold PS.rem at hr;omega
    have n0:∀x,s.is x=false:=fun x=>by
     cases hx:s.is x with
     |false=>rfl
     |true=>exact absurd (eG i.sz hx) hps
    have n1:s.peek 0=W1:=by
     unfold PS.peek;rw[lξ (by omega)];cases s.ok<;>rfl
    have e:fD (fu q f 0) q s=((B5 13).bnd fun _=>PM.ret 0) s:=by
     unfold fD cnd;simp only[i.sz,cond_true,n0,n1];rfl
    unfold Tt;rw[e];refine(Tt.fail i (Ad.refl s) (by decide)).bnd fun _ s1 i1 a1 h1=>?_
    exact Tt.ret i1 a1 ⟨fun k=>(by rw[h1.2]at k;cases k),fun k=>(by rw[h1.2]at k;cases k)⟩
   |succ b=>exact Wj (GD b (by omega) 0 (by omega) f (by omega)) (by omega)
  have l5:∀f,7*b+2<=f->gf b (fu q f 5):=by
   intro f hf;obtain⟨f,rfl⟩:∃k,f=k+1:=⟨f - 1,by omega⟩
   show gf b (y3 (fu q f 5) (fu q f 6));cases b with
   |zero=>
    intro s i hr;have hps:¬s.ps<s.tk.length:=by unfold PS.rem at hr;omega
    have n0:∀x,s.is x=false:=fun x=>by
     cases hx:s.is x with
     |false=>rfl
     |true=>exact absurd (eG i.sz hx) hps
    unfold y3;exact Tt.cnd i (fun h=>by rw[n0]at h;cases h) fun _=>Tt.cnd i (fun h=>by rw[n0]at h;cases h) fun _=>lo f (by omega) s i hr
   |succ b=>exact č (GD b (by omega) 5 (by omega) f (by omega)) (lo f (by omega))
  have l4:∀f,7*b+3<=f->gf b (fu q f 4):=by
   intro f hf;obtain⟨f,rfl⟩:∃k,f=k+1:=⟨f - 1,by omega⟩
   exact rq _ (l5 f (by omega)) hq
  have l3:∀f,7*b+4<=f->gf b (fu q f 3):=by
   intro f hf;obtain⟨f,rfl⟩:∃k,f=k+1:=⟨f - 1,by omega⟩
   exact rq _ (l4 f (by omega)) hq
  have l2:∀f,7*b+5<=f->gf b (fu q f 2):=by
   intro f hf;obtain⟨f,rfl⟩:∃k,f=k+1:=⟨f - 1,by omega⟩
   exact Č (l3 f (by omega))
  have l1:∀f,7*b+6<=f->gf b (fu q f 1):=by
   intro f hf;obtain⟨f,rfl⟩:∃k,f=k+1:=⟨f - 1,by omega⟩
   exact rq _ (l2 f (by omega)) hq
  have l0:∀f,7*b+7<=f->gf b (fu q f 0):=by
   intro f hf;obtain⟨f,rfl⟩:∃k,f=k+1:=⟨f - 1,by omega⟩
   exact rq _ (l1 f (by omega)) hq
  intro lvl hl f hf;match lvl,hl,hf with
  |0,_,hf=>exact l0 f (by omega)
  |1,_,hf=>exact l1 f (by omega)
  |2,_,hf=>exact l2 f (by omega)
  |3,_,hf=>exact l3 f (by omega)
  |4,_,hf=>exact l4 f (by omega)
  |5,_,hf=>exact l5 f (by omega)
  |6,_,hf=>exact lo f (by omega)
def Cs (s t:PS):Prop:=t.ok=true->s.ps<t.ps
def Cs.then {a b c:PS}(h:Cs a b)(g:Ad b c):Cs a c:=fun k=>by have:=h (g.ok k);have:=g.ps;omega
def Lf.cs {s t:PS}(h:Lf s t):Cs s t:=fun k=>by have:=h.st k;omega
def Tot.at {b:Nat}{Q:α->PS->Prop}(h:Tot b p Q){s:PS}(i:Iv s)(a:Ad s0 s)(hr:s.rem<=b):Tt s0 s p (fun x t=>Q x t/\Cs s t/\Ad s t):=
 Tt.of a (h s i hr) fun x t ha hx=>⟨hx.1,hx.2,ha⟩
def Wh {b:Nat}{ex:PM Int}(he:gf b ex)(hq:b+1<=q){s:PS}(i:Iv s)(a:Ad s0 s)(hr:s.rem<=b):Tt s s (pD ex q) (fun x t=>Ix x t/\Cs s t):=by
 refine(Tt.exp i (Ad.refl s) _).bnd fun _ s1 i1 a1 h1=>?_
 refine(Tt.nam i1 a1).bnd fun n s2 i2 a2 h2=>?_
 refine(Tt.opn i2 a2 _).bnd fun _ s3 i3 a3 h3=>?_
 refine(he.at i3 a3 (by have:=a3.rem;omega)).bnd fun key s4 i4 a4 h4=>?_
 refine(Tt.cls i4 a4 _).bnd fun _ s5 i5 a5 h5=>?_
 refine(Tt.exp i5 a5 _).bnd fun _ s6 i6 a6 h6=>?_
 refine(Tt.nam i6 a6).bnd fun nm s7 i7 a7 h7=>?_
 refine(w8 he hq i7 a7 (by have:=a7.rem;omega) (fun _=>by have:=a7.rem;omega)).bnd fun l s8 i8 a8 h8=>?_
 have g:=h8.1;have d1:s1.nd.length=s.nd.length:=by rw[h1.nd]
 have d2:s2.nd.length=s1.nd.length:=by rw[h2.nd]
 have d3:s3.nd.length=s2.nd.length:=by rw[h3.nd]
 have d4:=h4.2.2.de;have d5:s5.nd.length=s4.nd.length:=by rw[h5.nd]
 have d6:s6.nd.length=s5.nd.length:=by rw[h6.nd]
 have d7:s7.nd.length=s6.nd.length:=by rw[h7.nd]
 have d8:=h8.1.de;refine Tt.addE i i8 a8 (fun hk=>?_) (fun hk=>?_) (by grind)
 ·have k7:=g.ok hk;have k6:=h7.ad.ok k7;have k5:=h6.ad.ok k6;have k4:=h5.ad.ok k5;have k3:=h4.2.2.ok k4;have k2:=h3.ad.ok k3;have k1:=h2.ad.ok k2;have:=h1.st k1;have:=h2.st k2;have:=h3.st k3;have:=h5.st k5;have:=h6.st k6;have:=h7.st k7;omega
 ·intro k hk';rcases mα.1 hk' with rfl|hk'
  ·exact(((h4.1.mono h5.ad).mono h6.ad).mono h7.ad).mono g hk
  ·exact h8.2.2.2 k hk' hk
def B6 {b:Nat}{ex:PM Int}(he:gf b ex)(hq:b+1<=q){s:PS}(i:Iv s)(a:Ad s0 s)(hr:s.rem<=b):Tt s0 s (kU ex q) (fun x t=>Ix x t/\Cs s t/\Ad s t):=by
 refine Tt.of a (Q:=fun x t=>Ix x t/\Cs s t) ?_ (fun x t ha hx=>⟨hx.1,hx.2,ha⟩);refine(Tt.exp i (Ad.refl s) _).bnd fun _ s1 i1 a1 h1=>?_
 refine Tt.cnd i1 (fun hc=>?_) (fun hc=>?_)
 ·exact Tt.of a1 (Wh he hq i1 a1 (by have:=a1.rem;omega)) fun x t ha hx=>⟨hx.1,h1.cs.then ha⟩
 ·exact Tt.of a1 (he s1 i1 (by have:=a1.rem;omega)) fun x t ha hx=>⟨hx.1,h1.cs.then ha⟩
def E2 {b:Nat}{ex:PM Int}(he:gf b ex):∀(n:Nat) (l:LI) (s0 s:PS),Iv s->Ad s0 s->s.rem<=b->l.length+n<100->(∀x∈l,Ix x s)->Tt s0 s (jj ex n l) (fun l' t=>Ad s t/\l'.length<100/\∀x∈l',Ix x t)
 |0,l,s0,s,i,a,hr,hl,h=>Tt.ret i a ⟨Ad.refl s,by omega,h⟩
 |n+1,l,s0,s,i,a,hr,hl,h=>by
  unfold jj;have step:∀s1,Iv s1->Ad s0 s1->Ad s s1->Tt s0 s1 ((snoc ex l).bnd (jj ex n)) (fun l' t=>Ad s t/\l'.length<100/\∀x∈l',Ix x t):=by
   intro s1 i1 a1 g1;refine(Tt.snoc (he.at i1 a1 (by have:=g1.rem;omega)) (by omega)).bnd fun l1 s2 i2 a2 h2=>?_
   obtain⟨x,rfl,hx,-,ha⟩:=h2;refine(E2 he n (l++[x]) s0 s2 i2 a2 (by have:=g1.rem;have:=ha.rem;omega) (by grind) fun y hy=>?_).imp fun l' t _ _ h3=>⟨(g1.trans ha).trans h3.1,h3.2⟩
   rcases mγ.1 hy with hy|hy
   ·exact((h y hy).mono g1).mono ha
   all_goals simp_all
  cases l.isEmpty with
  |true=>exact step s i a (Ad.refl s)
  |false=>exact(Tt.exp i a _).bnd fun _ s1 i1 a1 h1=>step s1 i1 a1 h1.ad
def Ď {b:Nat}{ex:PM Int}(he:gf b ex)(n:Nat)(hn:n<100){s:PS}(i:Iv s)(a:Ad s0 s)(hr:s.rem<=b):Tt s0 s (tf ex n) (fun l t=>Ad s t/\l.length<100/\∀x∈l,Ix x t):=by
 refine(Tt.opn i a _).bnd fun _ s1 i1 a1 h1=>?_
 refine(E2 he n [] s0 s1 i1 a1 (by have:=h1.ad.rem;omega) (by grind) (by simp)).bnd fun l s2 i2 a2 h2=>?_
 refine(Tt.cls i2 a2 _).bnd fun _ s3 i3 a3 h3=>?_
 exact Tt.ret i3 a3 ⟨h1.ad.trans (h2.1.trans h3.ad),h2.2.1,fun x hx=>(h2.2.2 x hx).mono h3.ad⟩
def B4 {s:PS}(i0:Iv s0)(i:Iv s)(a:Ad s0 s)(hk:s.ok=true->gU s.nd.length x.kids)(hl:x.kids.length<10000):Tt s0 s (gL x) (fun b t=>Ix b t/\Cs s0 t):=by
 refine(Tt.exp i a _).bnd fun _ s1 i1 a1 h1=>?_
 have d1:s1.nd.length=s.nd.length:=by rw[h1.nd]
 have d2:=a.de;refine Tt.addE i0 i1 a1 (fun k=>by have:=h1.st k;omega) (fun k=>?_) hl;rw[d1];exact hk (h1.ad.ok k)
abbrev ady (b:Nat)(p:PM Int):Prop:=gf b p
def E3 {b:Nat}{ex bl:PM Int}(he:gf b ex)(hb:ady b bl)(op:Int){s:PS}(i0:Iv s0)(i:Iv s)(a:Ad s0 s)(hr:s.rem<=b):Tt s0 s (pE op ex bl) (fun x t=>Ix x t/\Cs s0 t):=by
 refine(Tt.opn i a _).bnd fun _ s1 i1 a1 h1=>?_
 refine(he.at i1 a1 (by have:=h1.ad.rem;omega)).bnd fun c s2 i2 a2 h2=>?_
 refine(Tt.cls i2 a2 _).bnd fun _ s3 i3 a3 h3=>?_
 refine(hb.at i3 a3 (by have:=h1.ad.rem;have:=h2.2.2.rem;have:=h3.ad.rem;omega)).bnd fun b s4 i4 a4 h4=>?_
 have d0:=a.de;have d1:s1.nd.length=s.nd.length:=by rw[h1.nd]
 have d2:=h2.2.2.de;have d3:s3.nd.length=s2.nd.length:=by rw[h3.nd]
 have d4:=h4.2.2.de;have c4:=(h2.1.mono h3.ad).mono h4.2.2;have sl:∀s5,Ad s4 s5->s5.nd.length+s4.ps<=s4.nd.length+s5.ps->s5.ok=true->s5.nd.length+s0.ps+1<=s0.nd.length+s5.ps:=by
  intro s5 g hd hk;have k3:=h4.2.2.ok (g.ok hk);have k2:=h3.ad.ok k3;have k1:=h2.2.2.ok k2;have:=h1.st k1;have:=h3.st k3;omega
 have two:∀s5,Iv s5->Ad s0 s5->Ad s4 s5->Tt s0 s5 (eb ⟨op,[],vz,[c,b]⟩) (fun x t=>Ix x t/\Cs s0 t):=by
  intro s5 i5 a5 g;refine Tt.addE i0 i5 a5 (fun hk=>sl s5 g g.de hk) (fun hk k hk'=>?_) (by simp);simp at hk';rcases hk' with rfl|rfl
  ·exact(c4.mono g) hk
  ·exact(h4.1.mono g) hk
 cases eqI op 11 with
 |false=>exact two s4 i4 a4 (Ad.refl s4)
 |true=>
  refine Tt.cnd i4 (fun hc=>?_) (fun hc=>two s4 i4 a4 (Ad.refl s4));refine(Tt.up i4 a4 (eG i4.sz hc)).bnd fun _ s5 i5 a5 h5=>?_
  refine(hb.at i5 a5 (by have:=h1.ad.rem;have:=h2.2.2.rem;have:=h3.ad.rem;have:=h4.2.2.rem;have:=h5.1.ad.rem;omega)).bnd fun e s6 i6 a6 h6=>?_
  refine Tt.addE i0 i6 a6 (fun hk=>sl s6 (h5.1.ad.trans h6.2.2) (h5.1.ad.trans h6.2.2).de hk) (fun hk k hk'=>?_) (by simp);simp at hk';rcases hk' with rfl|rfl|rfl
  ·exact((c4.mono h5.1.ad).mono h6.2.2) hk
  ·exact((h4.1.mono h5.1.ad).mono h6.2.2) hk
  ·exact h6.1 hk
def E4 {b:Nat}{ex bl:PM Int}(he:gf b ex)(hb:ady b bl)(hq:b+1<=q):gf (b+1) (f8 ex bl q):=by
 intro s i hr;have a:=Ad.refl s;have kz:∀{k:Int},k≠0->eqI (s.peek 0).k k=true->s.ps<s.tk.length:=fun hk h=>by
  rw[bO,lδ]at h;exact mQ i.sz 0 (by omega)
 -- behind a word
 have word:∀{x:LN} {p:PM Int},s.is x=true->(∀s1,Iv s1->Ad s s1->s1.rem<=b->s1.nd.length=s.nd.length->s1.ps=s.ps+1->Tt s s1 p (fun x t=>Ix x t/\Cs s t))->Tt s s (pUp.bnd fun _=>p) (fun a t=>Ix a t/\(t.ok=true->s.ps<t.ps)):=by
  intro x p hx hp;refine(Tt.up i a (eG i.sz hx)).bnd fun _ s1 i1 a1 h1=>?_
  exact hp s1 i1 a1 (by have:=h1.1.ad.rem1 i1 (by omega);omega) (by rw[h1.1.nd]) h1.2
 have one:∀(o:Int) (n:LN) (v:Va) (x:Int) (s1:PS),Iv s1->Ad s s1->Ix x s1->Tt s s1 (gL ⟨o,n,v,[x]⟩) (fun x t=>Ix x t/\Cs s t):=fun o n v x s1 i1 a1 hx=>
  B4 i i1 a1 (fun hk k hk'=>by simp at hk';subst hk';exact hx hk) (by simp)
 have non:∀(o:Int) (n:LN) (v:Va) (s1:PS),Iv s1->Ad s s1->Tt s s1 (gL ⟨o,n,v,[]⟩) (fun x t=>Ix x t/\Cs s t):=fun o n v s1 i1 a1=>
  B4 i i1 a1 (fun hk k hk'=>by cases hk') (by simp)
 have ops:∀(o:Int) (n:Nat),n<100->∀s1,Iv s1->Ad s s1->s1.rem<=b->Tt s s1 ((tf ex n).bnd fun l=>gL ⟨o,[],vz,l⟩) (fun x t=>Ix x t/\Cs s t):=fun o n hn s1 i1 a1 hr1=>
  (Ď he n hn i1 a1 hr1).bnd fun l s2 i2 a2 h2=>B4 i i2 a2 (fun hk k hk'=>h2.2.2 k hk' hk) (by grind)
 refine Tt.cnd i (fun hc=>?_) fun hc=>?_
 ·refine word hc fun s1 i1 a1 hr1 _ _=>?_
  refine(Tt.nam i1 a1).bnd fun n s2 i2 a2 h2=>?_
  refine(Tt.exp i2 a2 _).bnd fun _ s3 i3 a3 h3=>?_
  refine(Tt.kind i3 a3).bnd fun k s4 i4 a4 h4=>?_
  refine(B6 he hq i4 a4 (by have:=h2.ad.rem;have:=h3.ad.rem;have:=h4.ad.rem;omega)).bnd fun x s5 i5 a5 h5=>?_
  simp_all
 refine Tt.cnd i (fun hc=>?_) fun hc=>?_
 ·have hps:=kz (by decide) hc;have hnm:Tt s s pName (fun n t=>t=s.up):=by
   refine⟨(s.peek 0).s,s.up,?_,i.up hps,ue s,rfl⟩;unfold pName jk PM.bnd lf PS.take PM.ret;simp only[i.sz,hc,cond_true]
  refine hnm.bnd fun n s1 i1 a1 h1=>?_
  subst h1;refine(B6 he hq i1 a1 (by have:=(ue s).rem1 i1 (by show s.ps<s.ps+1;omega);omega)).bnd fun x s5 i5 a5 h5=>?_
  exact one _ _ _ x s5 i5 a5 h5.1
 refine Tt.cnd i (fun hc=>?_) fun hc=>?_
 ·-- a call:it begins with a word,so its inner parts have a token less
  have hcall:Tt s s (pD ex q) (fun x t=>Ix x t/\Cs s t):=by
   have hup:Tt s s (gE [99,97,108,108]) (fun _ t=>t=s.up):=by
    refine⟨(),s.up,?_,i.up (eG i.sz hc),ue s,rfl⟩;unfold gE lf PS.exp;simp only[i.sz,hc,cond_true]
   have hr1:=(ue s).rem1 (i.up (eG i.sz hc)) (by show s.ps<s.ps+1;omega);refine hup.bnd fun _ s1 i1 a1 h1=>?_
   subst h1;refine(Tt.nam i1 a1).bnd fun n s2 i2 a2 h2=>?_
   refine(Tt.opn i2 a2 _).bnd fun _ s3 i3 a3 h3=>?_
   refine(he.at i3 a3 (by have:=h2.ad.rem;have:=h3.ad.rem;omega)).bnd fun key s4 i4 a4 h4=>?_
   refine(Tt.cls i4 a4 _).bnd fun _ s5 i5 a5 h5=>?_
   refine(Tt.exp i5 a5 _).bnd fun _ s6 i6 a6 h6=>?_
   refine(Tt.nam i6 a6).bnd fun nm s7 i7 a7 h7=>?_
   have hr7:s7.rem<=b:=by have:=h2.ad.rem;have:=h3.ad.rem;have:=h4.2.2.rem;have:=h5.ad.rem;have:=h6.ad.rem;have:=h7.ad.rem;omega
   refine(w8 he hq i7 a7 (by omega) (fun _=>by omega)).bnd fun l s8 i8 a8 h8=>?_
   have g:=h8.1;have d0:s.up.ps=s.ps+1:=rfl;have d1:s.up.nd.length=s.nd.length:=rfl;have d2:s2.nd.length=s.up.nd.length:=by rw[h2.nd]
   have d3:s3.nd.length=s2.nd.length:=by rw[h3.nd]
   have d4:=h4.2.2.de;have d5:s5.nd.length=s4.nd.length:=by rw[h5.nd]
   have d6:s6.nd.length=s5.nd.length:=by rw[h6.nd]
   have d7:s7.nd.length=s6.nd.length:=by rw[h7.nd]
   have d8:=h8.1.de;have p2:=h2.ad.ps;have p3:=h3.ad.ps;have p5:=h5.ad.ps;have p6:=h6.ad.ps;have p7:=h7.ad.ps;refine Tt.addE i i8 a8 (fun hk=>by omega) (fun hk=>?_) (by grind);intro k hk';rcases mα.1 hk' with rfl|hk'
   ·exact(((h4.1.mono h5.ad).mono h6.ad).mono h7.ad).mono g hk
   ·exact h8.2.2.2 k hk' hk
  exact hcall.bnd fun x s5 i5 a5 h5=>one _ _ _ x s5 i5 a5 h5.1
 refine Tt.cnd i (fun hc=>word hc fun s1 i1 a1 hr1 _ _=>E3 he hb 11 i i1 a1 hr1) fun hc=>?_
 refine Tt.cnd i (fun hc=>word hc fun s1 i1 a1 hr1 _ _=>E3 he hb 12 i i1 a1 hr1) fun hc=>?_
 refine Tt.cnd i (fun hc=>word hc fun s1 i1 a1 hr1 _ _=>Tt.cnd i1 (fun _=>non _ _ _ s1 i1 a1) fun _=>(he.at i1 a1 hr1).bnd fun x s2 i2 a2 h2=>one _ _ _ x s2 i2 a2 h2.1) fun hc=>?_
 refine Tt.cnd i (fun hc=>word hc fun s1 i1 a1 hr1 _ _=>non _ _ _ s1 i1 a1) fun hc=>?_
 refine Tt.cnd i (fun hc=>word hc fun s1 i1 a1 hr1 _ _=>ops _ 2 (by decide) s1 i1 a1 hr1) fun hc=>?_
 refine Tt.cnd i (fun hc=>word hc fun s1 i1 a1 hr1 _ _=>ops _ 3 (by decide) s1 i1 a1 hr1) fun hc=>?_
 refine Tt.cnd i (fun hc=>word hc fun s1 i1 a1 hr1 _ _=>ops _ 1 (by decide) s1 i1 a1 hr1) fun hc=>?_
 refine(Tt.fail i a (by decide)).bnd fun _ s1 i1 a1 h1=>?_
 exact Tt.ret i1 a1 ⟨fun k=>(by simp_all),fun k=>(by simp_all)⟩
def Em {b:Nat}{st:PM Int}(hs:gf b st):∀(q:Nat) (l:LI) (s0 s:PS),Iv s->Ad s0 s->s.rem+2<=q->s.rem<=b->l.length<=s.ps->(∀x∈l,Ix x s)->
  Tt s0 s (lK st q l) (fun l' t=>l'.length<=t.ps+1/\(∀x∈l',Ix x t)/\Ad s t)
 |0,l,s0,s,i,a,h1,_,_,_=>by omega
 |q+1,l,s0,s,i,a,h1,h2,h3,h4=>by
  have h6:=i.le;have h7:=i.len;refine Tt.cok (fun hk=>?_) (fun hk=>Tt.ret i a ⟨by omega,h4,Ad.refl s⟩);refine Tt.cnd i (fun hc=>Tt.ret i a ⟨by omega,h4,Ad.refl s⟩) fun hc=>?_
  refine(Tt.snoc (hs.at i a h2) (by omega)).bnd fun l1 s1 i1 a1 h5=>?_
  obtain⟨x,rfl,hx,hcs,ha⟩:=h5;have hq:∀y∈l++[x],Ix y s1:=fun y hy=>by
   rcases mγ.1 hy with hy|hy
   ·exact(h4 y hy).mono ha
   all_goals simp_all
  have hps:=ha.ps;have hle:(l++[x]).length=l.length+1:=by simp
  cases hk1:s1.ok with
  |true=>
   have h8:=hcs hk1;have h9:=ha.rem1 i1 h8;exact(Em hs q (l++[x]) s0 s1 i1 a1 (by omega) (by omega) (by omega) hq).imp fun l' t _ _ h=>⟨h.1,h.2.1,ha.trans h.2.2⟩
  |false=>
   obtain⟨q,rfl⟩:∃k,q=k+1:=⟨q - 1,by omega⟩
   exact Tt.cok (fun h=>by simp_all) fun _=>Tt.ret i1 a1 ⟨by omega,hq,ha⟩
def abo (lim:PM Unit):Prop:=∀s0 s,Iv s->Ad s0 s->0<s.nd.length->Tt s0 s lim (fun _ t=>Ad s t/\t.ps=s.ps/\t.nd=s.nd)
def ê:abo (.ret ()):=fun s0 s i a h=>Tt.ret i a ⟨Ad.refl s,rfl,rfl⟩
def é:abo td:=by
 intro s0 s i a h;have h1:=i.nd;have h2:=i.le;have h3:=i.len;have hb:(decide (s.nd.length<10000)&&decide (0<s.nd.length)&&s.nd.all (wM s.nd.length))=true:=by
  rw[lγ,lγ,lδ,lδ,lσ];refine⟨⟨by omega,h⟩,fun x hx=>?_⟩
  have:=i.wf x hx;unfold wM;rw[lγ,lδ,lσ];refine⟨this.2,fun k hk=>?_⟩
  have:=this.1 k hk;rw[lγ,cn,cZ,lδ,lδ];omega
 have hf:=mL s 5;unfold Tt td;rw[hb,cond_true];refine⟨(),_,rfl,?_⟩;cases aO 1500 (ae .i64 (s.tt+(s.nd.length:Int)))with
 |true=>exact⟨i.fail 5,a.trans (gj s (by decide)),gj s (by decide),hf.2.2.1,hf.2.2.2.1⟩
 |false=>
  cases aO 24 (cN s.nd)with
  |true=>exact⟨i.fail 5,a.trans (gj s (by decide)),gj s (by decide),hf.2.2.1,hf.2.2.2.1⟩
  |false=>exact⟨i,a,Ad.refl s,rfl,rfl⟩
def B3 {b:Nat}{lim:PM Unit}{st:PM Int}(hl:abo lim)(hs:gf b st)(hq:b+2<=q):gf (b+1) (gD lim st q):=by
 intro s i hr;refine(Tt.opn i (Ad.refl s) _).bnd fun _ s1 i1 a1 h1=>?_
 have hblk:Tt s s1 (lK st q []) (fun l' t=>l'.length<=t.ps+1/\(∀x∈l',Ix x t)/\Ad s1 t):=by
  cases hk:s1.ok with
  |true=>
   have hr1:=h1.ad.rem1 i1 (by have:=h1.st hk;omega);exact Em hs q [] s s1 i1 a1 (by omega) (by omega) (by simp) (by simp)
  |false=>
   obtain⟨q,rfl⟩:∃k,q=k+1:=⟨q - 1,by omega⟩
   exact Tt.cok (fun h=>by simp_all) fun _=>Tt.ret i1 a1 ⟨by simp,by simp,Ad.refl s1⟩
 refine hblk.bnd fun l s2 i2 a2 h2=>?_
 refine Tt.cok (fun hk=>?_) (fun hk=>Tt.ret i2 a2 ⟨fun k=>(by simp_all),fun k=>(by simp_all)⟩);have d1:s1.nd.length=s.nd.length:=by rw[h1.nd]
 have d2:=h2.2.2.de;have p1:=h1.st (h2.2.2.ok hk);have p2:=h2.2.2.ps;refine(Tt.add i i2 a2 (fun _=>by omega) (fun hk k hk'=>h2.2.1 k hk' hk) (by have:=i2.le;have:=i2.len;grind)).bnd fun x s3 i3 a3 h3=>?_
 refine(hl s s3 i3 a3 (by grind)).bnd fun _ s4 i4 a4 h4=>?_
 refine(Tt.cls i4 a4 _).bnd fun _ s5 i5 a5 h5=>?_
 refine Tt.ret i5 a5 ⟨(h3.1.mono h4.1).mono h5.ad,fun hk=>?_⟩
 have:=h5.ad.ps;omega
def RJ {q:Nat}:∀(b:Nat),b+3<=q->∀f,7*b+8<=f->gf b (Ek q f)
 |0,hq,f,hf=>by
  obtain⟨f,rfl⟩:∃k,f=k+1:=⟨f - 1,by omega⟩
  intro s i hr;have hps:¬s.ps<s.tk.length:=by unfold PS.rem at hr;omega
  unfold Ek gD;refine(Tt.opn i (Ad.refl s) _).bnd fun _ s1 i1 a1 h1=>?_
  have hk:s1.ok=false:=by
   cases hk:s1.ok with
   |false=>rfl
   |true=>have:=h1.st hk;have h2:=i1.le;rw[a1.tk]at h2;omega
  have hblk:Tt s s1 (lK (f8 (fu q f 0) (Ek q f) q) q []) (fun l t=>t.ok=false):=by
   obtain⟨q,rfl⟩:∃k,q=k+1:=⟨q - 1,by omega⟩
   exact Tt.cok (fun h=>by simp_all) fun _=>Tt.ret i1 a1 hk
  refine hblk.bnd fun l s2 i2 a2 h2=>?_
  exact Tt.cok (fun hk=>by simp_all) (fun hk=>Tt.ret i2 a2 ⟨fun k=>(by simp_all),fun k=>(by simp_all)⟩)
 |b+1,hq,f,hf=>by
  obtain⟨f,rfl⟩:∃k,f=k+1:=⟨f - 1,by omega⟩
  exact B3 ê ((E4 (GD b (by omega) 0 (by omega) f (by omega)) (RJ b (by omega) f (by omega)) (by omega)).le (Nat.le_succ b)) (by omega)
structure Ao (s t:PS):Prop where
 tk:t.tk=s.tk
 en:t.en=s.en
 ps:s.ps<=t.ps
 ok:t.ok=true->s.ok=true
def Ao.refl (s:PS):Ao s s:=⟨rfl,rfl,Nat.le_refl _,id⟩
def Ao.trans {a b c:PS}(h:Ao a b)(g:Ao b c):Ao a c:=⟨g.tk.trans h.tk,g.en.trans h.en,mσ h.ps g.ps,fun k=>h.ok (g.ok k)⟩
def Ad.o {s t:PS}(h:Ad s t):Ao s t:=⟨h.tk,h.en,h.ps,h.ok⟩
def Ao.rem {s t:PS}(h:Ao s t):t.rem<=s.rem:=by have:=h.ps;unfold PS.rem;rw[h.tk];omega
def Ao.rem1 {s t:PS}(h:Ao s t)(i:Iv t)(g:s.ps<t.ps):t.rem+1<=s.rem:=by have:=i.le;unfold PS.rem;rw[h.tk]at*;omega
def To {α:Type}(s0 s:PS)(p:PM α)(Q:α->PS->Prop):Prop:=∃a t,p s=some (a,t)/\Iv t/\Ao s0 t/\Q a t
def To.bnd {α β:Type}{s0 s:PS}{p:PM α}{f:α->PM β}{Q:α->PS->Prop}{R:β->PS->Prop}(h:To s0 s p Q)(g:∀a t,Iv t->Ao s0 t->Q a t->To s0 t (f a) R):To s0 s (p.bnd f) R:=by
 obtain⟨a,t,h1,h2,h3,h4⟩:=h;obtain⟨b,u,g1,g2,g3,g4⟩:=g a t h2 h3 h4;exact⟨b,u,by simp only[PM.bnd,h1,g1],g2,g3,g4⟩
def Tt.o {α:Type}{s0 s:PS}{p:PM α}{Q:α->PS->Prop}(h:Tt s s p Q)(a:Ao s0 s):To s0 s p (fun x t=>Q x t/\Ao s t):=by
 obtain⟨x,t,h1,h2,h3,h4⟩:=h;exact⟨x,t,h1,h2,a.trans h3.o,h4,h3.o⟩
def To.of {s:PS}{Q R:α->PS->Prop}(a:Ao s0 s)(h:To s s p Q)(g:∀x t,Ao s t->Q x t->R x t):To s0 s p R:=by
 obtain⟨x,t,h1,h2,h3,h4⟩:=h;exact⟨x,t,h1,h2,a.trans h3,g x t h3 h4⟩
def To.ret {α:Type}{s0 s:PS}{a:α}{Q:α->PS->Prop}(i:Iv s)(h:Ao s0 s)(q:Q a s):To s0 s (PM.ret a) Q:=⟨a,s,rfl,i,h,q⟩
def To.cnd {α:Type}{s0 s:PS}{c:PS->Bool}{p q:PM α}{Q:α->PS->Prop}(i:Iv s)(h:c s=true->To s0 s p Q)(g:c s=false->To s0 s q Q):To s0 s (cnd c p q) Q:=by
 unfold To Go.Ab.cnd;rw[i.sz,cond_true];cases hc:c s with
 |true=>exact h hc
 |false=>exact g hc
def To.cok {α:Type}{s0 s:PS}{p q:PM α}{Q:α->PS->Prop}(h:s.ok=true->To s0 s p Q)(g:s.ok=false->To s0 s q Q):To s0 s (cok p q) Q:=by
 unfold To Go.Ab.cok;cases hc:s.ok with
 |true=>exact h hc
 |false=>exact g hc
def To.snoc {α:Type}{s0 s:PS}{p:PM α}{l:List α}{Q:α->PS->Prop}(h:To s0 s p Q)(hl:l.length<1000000):To s0 s (snoc p l) (fun l' t=>∃x,l'=l++[x]/\Q x t):=by
 obtain⟨x,t,h1,h2,h3,h4⟩:=h;refine⟨l++[x],t,?_,h2,h3,x,rfl,h4⟩;unfold Go.Ab.snoc;simp only[PM.bnd,h1,qδ hl,cond_true]
def ϻ (b:Nat):Tot b pInt (fun _ _=>True):=fun s i _=>(Tt.int i (Ad.refl s)).imp fun _ _ _ _ h=>⟨trivial,h.2⟩
def U_ (b:Nat):Tot b ((jk 4).bnd fun t=> .ret t.s) (fun _ _=>True):=fun s i _=>(Tt.take i (Ad.refl s) (by decide)).bnd fun k t i1 a1 h=>Tt.ret i1 a1 ⟨trivial,h.cs⟩
def F_ (b:Nat):Tot b kT (fun _ _=>True):=fun s i _=>by
 refine(Tt.nam i (Ad.refl s)).bnd fun n s1 i1 a1 h1=>?_
 refine(Tt.exp i1 a1 _).bnd fun _ s2 i2 a2 h2=>?_
 refine(Tt.kind i2 a2).bnd fun k s3 i3 a3 h3=>?_
 exact Tt.ret i3 a3 ⟨trivial,(h1.cs.then h2.ad).then h3.ad⟩
def Qm {s:PS}(i:Iv s)(hq:s.rem+1<=q):Tt s s (oX q) (fun _ t=>Cs s t):=by
 have a:=Ad.refl s;have L:∀(g:PS->Va),s.ps<s.tk.length->Tt s s (lf fun s=>(g s,s.up)) (fun v t=>Cs s t):=fun g hp=>by
  refine⟨g s,s.up,?_,i.up hp,ue s,fun _=>by show s.ps<s.ps+1;omega⟩
  unfold lf;rw[i.sz,cond_true]
 refine Tt.cnd i (fun h1=>L _ ?_) fun h1=>Tt.cnd i (fun h2=>L _ (eG i.sz h2)) fun h2=>Tt.cnd i (fun h3=>L _ (eG i.sz h3)) fun h3=>?_
 ·rw[bO,lδ]at h1;exact mQ i.sz 0 (by omega)
 refine Tt.cnd i (fun h4=>?_) fun h4=>Tt.cnd i (fun h5=>?_) fun h5=>?_
 ·refine(Tt.up i a (eG i.sz h4)).bnd fun _ s1 i1 a1 h1=>?_
  refine(Tt.exp i1 a1 _).bnd fun _ s2 i2 a2 h2=>?_
  refine(zn (Q:=fun _ _=>True) (fun _ _ _ _ _=>trivial) (ϻ s2.rem) i2 a2 (by have:=h1.1.ad.rem;have:=h2.ad.rem;omega) (Nat.le_refl _)).bnd fun l s3 i3 a3 h3=>?_
  refine(Tt.exp i3 a3 _).bnd fun _ s4 i4 a4 h4=>?_
  have hp2:=h2.ad.ps;exact Tt.ret i4 a4 fun hk=>by
   have:=h4.st hk;have h7:=a3.ps;omega
 ·refine(Tt.up i a (eG i.sz h5)).bnd fun _ s1 i1 a1 h1=>?_
  refine(Tt.exp i1 a1 _).bnd fun _ s2 i2 a2 h2=>?_
  refine(zn (Q:=fun _ _=>True) (fun _ _ _ _ _=>trivial) (U_ s2.rem) i2 a2 (by have:=h1.1.ad.rem;have:=h2.ad.rem;omega) (Nat.le_refl _)).bnd fun l s3 i3 a3 h3=>?_
  refine(Tt.exp i3 a3 _).bnd fun _ s4 i4 a4 h4=>?_
  exact Tt.ret i4 a4 fun hk=>by
   have:=h4.st hk;have:=a3.ps;omega
 ·exact(Tt.int i a).bnd fun n s1 i1 a1 h1=>Tt.ret i1 a1 h1.2
def Qn {s:PS}(i:Iv s)(hq:s.rem+1<=q):To s s (kR q) (fun _ t=>Cs s t):=by
 have o:=Ao.refl s;refine((Tt.exp i (Ad.refl s) _).o o).bnd fun _ s1 i1 o1 h1=>?_
 refine((Tt.nam i1 (Ad.refl s1)).o o1).bnd fun n s2 i2 o2 h2=>?_
 refine((Tt.exp i2 (Ad.refl s2) _).o o2).bnd fun _ s3 i3 o3 h3=>?_
 refine((Tt.kind i3 (Ad.refl s3)).o o3).bnd fun k s4 i4 o4 h4=>?_
 refine((Tt.exp i4 (Ad.refl s4) _).o o4).bnd fun _ s5 i5 o5 h5=>?_
 have hlf:To s s5 (lf fun s=>((),bif !cY k s then s.fail 13 else s)) (fun _ t=>Ao s5 t):=by
  have hg:Iv (bif !cY k s5 then s5.fail 13 else s5)/\Ad s5 (bif !cY k s5 then s5.fail 13 else s5):=by
   cases cY k s5 with
   |true=>exact⟨i5,Ad.refl _⟩
   |false=>exact⟨i5.fail 13,gj s5 (by decide)⟩
  refine⟨(),_,?_,hg.1,o5.trans hg.2.o,hg.2.o⟩;unfold lf;rw[i5.sz,cond_true]
 refine hlf.bnd fun _ s6 i6 o6 h6=>?_
 refine((Qm i6 (by have:=o6.rem;omega)).o o6).bnd fun v s7 i7 o7 h7=>?_
 refine((Tt.exp i7 (Ad.refl s7) _).o o7).bnd fun _ s8 i8 o8 h8=>?_
 refine To.ret i8 o8 fun hk=>?_
 have:=h8.1.st hk;have:=o7.ps;omega
variable {f:Nat}
def Wg {s:PS}(i:Iv s)(hq:s.rem+4<=q)(hf:7*s.rem+20<=f):To s s (sb f q) (fun _ _=>True):=by
 have i1:Iv {s with nd:=[],ne:=0}:=⟨i.sz,i.len,Nat.zero_le _,fun x hx=>by cases hx⟩
 obtain⟨a,u,h1,h2,h3,h4⟩:=B3 (b:=s.rem) (q:=q) é ((E4 (b:=s.rem) (q:=q) (GD (q:=q) s.rem (by omega) 0 (by omega) f (by omega)) (RJ (q:=q) s.rem (by omega) f (by omega)) (by omega)).le (Nat.le_succ s.rem)) (by omega) _ i1 (by show s.rem<=_;omega);refine⟨u.nd,{u with tt:=ae .i64 (u.tt+(u.nd.length:Int))},?_,⟨h2.sz,h2.len,h2.nd,h2.wf⟩,⟨h3.tk,h3.en,h3.ps,h3.ok⟩,trivial⟩;unfold sb;rw[h1]
def Wi {s:PS}(i:Iv s)(hq:s.rem+4<=q)(hf:7*s.rem+20<=f):To s s (sc f q) (fun _ t=>Cs s t):=by
 have o:=Ao.refl s;refine((Tt.exp i (Ad.refl s) _).o o).bnd fun _ s1 i1 o1 h1=>?_
 refine((Tt.nam i1 (Ad.refl s1)).o o1).bnd fun n s2 i2 o2 h2=>?_
 refine((Tt.exp i2 (Ad.refl s2) _).o o2).bnd fun _ s3 i3 o3 h3=>?_
 refine((zn (Q:=fun _ _=>True) (fun _ _ _ _ _=>trivial) (F_ s3.rem) i3 (Ad.refl s3) (by have:=o3.rem;omega) (Nat.le_refl _)).o o3).bnd fun l s4 i4 o4 h4=>?_
 refine((Tt.exp i4 (Ad.refl s4) _).o o4).bnd fun _ s5 i5 o5 h5=>?_
 have hk:To s s5 (cnd (fun s=>s.is [58]) (pUp.bnd fun _=>pKind) (.ret 0)) (fun _ t=>Ao s5 t):=by
  refine To.cnd i5 (fun hc=>?_) (fun hc=>To.ret i5 o5 (Ao.refl _));refine((Tt.up i5 (Ad.refl s5) (eG i5.sz hc)).o o5).bnd fun _ s6 i6 o6 h6=>?_
  exact To.of o6 ((Tt.kind i6 (Ad.refl s6)).o (Ao.refl s6)) fun x t ha hx=>h6.2.trans ha
 refine hk.bnd fun k s6 i6 o6 h6=>?_
 refine(To.of o6 (Wg (f:=f) i6 (by have:=o6.rem;omega) (by have:=o6.rem;omega)) fun x t ha hx=>ha).bnd fun ns s7 i7 o7 h7=>?_
 refine To.ret i7 o7 fun hk=>?_
 have:=h1.1.st (((h2.2.trans h3.2).trans (h4.2.trans h5.2)).ok ((h6.trans h7).ok hk));have:=((h2.2.trans h3.2).trans (h4.2.trans h5.2)).ps;have:=(h6.trans h7).ps;omega
def BG {α:Type}{b most:Nat}{w:LN}{p:PM α}(hp:∀s,Iv s->s.rem<=b->To s s p (fun _ t=>Cs s t)):∀(q:Nat) (l:List α) (s0 s:PS),Iv s->Ao s0 s->s.rem+2<=q->s.rem<=b->l.length<=s.ps->To s0 s (hH w most p q l) (fun _ t=>Ao s t)
 |0,l,s0,s,i,a,h1,_,_=>by omega
 |q+1,l,s0,s,i,o,h1,h2,h3=>by
  have h6:=i.le;have h7:=i.len;refine To.cnd i (fun hc=>?_) (fun hc=>To.ret i o (Ao.refl s));have hg:Iv (bif Nat.beq l.length most then s.fail 5 else s)/\Ad s (bif Nat.beq l.length most then s.fail 5 else s):=by
   cases Nat.beq l.length most with
   |false=>exact⟨i,Ad.refl _⟩
   |true=>exact⟨i.fail 5,gj s (by decide)⟩
  have hlf:To s0 s (lf fun s=>((),bif Nat.beq l.length most then s.fail 5 else s)) (fun _ t=>Ao s t):=by
   refine⟨(),_,?_,hg.1,o.trans hg.2.o,hg.2.o⟩;unfold lf;rw[i.sz,cond_true]
  refine hlf.bnd fun _ s1 i1 o1 g1=>?_
  refine(To.snoc (To.of o1 (hp s1 i1 (by have:=g1.rem;omega)) fun x t ha hx=>And.intro hx ha) (by omega)).bnd fun l1 s2 i2 o2 h5=>?_
  obtain⟨x,rfl,hcs,ha⟩:=h5;have hp1:=g1.ps;have hle:(l++[x]).length=l.length+1:=by simp
  cases hk:s2.ok with
  |true=>
   have h8:=hcs hk;have h9:=ha.rem1 i2 h8;have h10:=g1.rem;obtain⟨y,t,e1,e2,e3,e4⟩:=BG hp q (l++[x]) s0 s2 i2 o2 (by omega) (by omega) (by omega);exact⟨y,t,e1,e2,e3,(g1.trans ha).trans e4⟩
  |false=>
   obtain⟨q,rfl⟩:∃k,q=k+1:=⟨q - 1,by omega⟩
   exact To.cnd i2 (fun h=>by rw[nok hk]at h;cases h) fun _=>To.ret i2 o2 (g1.trans ha)
def B2 {s:PS}(i:Iv s)(hq:s.rem+4<=q)(hf:7*s.rem+20<=f):To s s (oW f q) (fun _ t=>Cs s t):=by
 have o:=Ao.refl s;refine((Tt.exp i (Ad.refl s) _).o o).bnd fun _ s1 i1 o1 h1=>?_
 refine((Tt.nam i1 (Ad.refl s1)).o o1).bnd fun n s2 i2 o2 h2=>?_
 refine((Tt.exp i2 (Ad.refl s2) _).o o2).bnd fun _ s3 i3 o3 h3=>?_
 refine(BG (b:=s3.rem) (fun s i hr=>Qn i (by have:=o3.rem;omega)) q [] s s3 i3 o3 (by have:=o3.rem;omega) (Nat.le_refl _) (by simp)).bnd fun fs s4 i4 o4 h4=>?_
 refine(BG (b:=s4.rem) (fun s i hr=>Wi i (by have:=o4.rem;omega) (by have:=o4.rem;omega)) q [] s s4 i4 o4 (by have:=o4.rem;omega) (Nat.le_refl _) (by simp)).bnd fun ms s5 i5 o5 h5=>?_
 refine((Tt.exp i5 (Ad.refl s5) _).o o5).bnd fun _ s6 i6 o6 h6=>?_
 refine To.ret i6 o6 fun hk=>?_
 have:=h6.1.st hk;have:=o5.ps;omega
def Fy {n f q b:Nat}(hn:b<=6000)(hq:b+4<=q)(hf:7*b+20<=f):∀(m:Nat) (l:List Ac) (s0 s:PS),Iv s->Ao s0 s->s.rem+2<=m->s.rem<=b->l.length<=s.ps->To s0 s (gS n f q m l) (fun _ _=>True)
 |0,l,s0,s,i,a,h1,_,_=>by omega
 |m+1,l,s0,s,i,o,h1,h2,h3=>by
  have h6:=i.le;have h7:=i.len;refine To.cok (fun hk0=>?_) (fun _=>To.ret i o trivial);refine To.cnd i (fun hc=>?_) (fun hc=>To.ret i o trivial);have hg:Iv (bif s.is [97,99,116,111,114]&&Nat.beq l.length 8 then s.fail 5 else s)/\Ad s (bif s.is [97,99,116,111,114]&&Nat.beq l.length 8 then s.fail 5 else s):=by
   cases s.is [97,99,116,111,114]&&Nat.beq l.length 8 with
   |false=>exact⟨i,Ad.refl _⟩
   |true=>exact⟨i.fail 5,gj s (by decide)⟩
  have hlf:To s0 s (lf fun s=>((),bif s.is [97,99,116,111,114]&&Nat.beq l.length 8 then s.fail 5 else s)) (fun _ t=>Ao s t):=by
   refine⟨(),_,?_,hg.1,o.trans hg.2.o,hg.2.o⟩;unfold lf;rw[i.sz,cond_true]
  refine hlf.bnd fun _ s1 i1 o1 g1=>?_
  refine(To.snoc (To.of o1 (B2 (f:=f) (q:=q) i1 (by have:=g1.rem;omega) (by have:=g1.rem;omega)) fun x t ha hx=>And.intro hx ha) (by omega)).bnd fun l1 s2 i2 o2 h5=>?_
  obtain⟨x,rfl,hcs,ha⟩:=h5;have hp1:=g1.ps;have hle:(l++[x]).length=l.length+1:=by simp
  cases hk:s2.ok with
  |true=>
   have h8:=hcs hk;have h9:=ha.rem1 i2 h8;have h10:=g1.rem;exact Fy hn hq hf m (l++[x]) s0 s2 i2 o2 (by omega) (by omega) (by omega)
  |false=>
   obtain⟨m,rfl⟩:∃k,m=k+1:=⟨m - 1,by omega⟩
   exact To.cok (fun h=>by simp_all) fun _=>To.ret i2 o2 trivial
def Wl (tk:List Tk)(en:Int)(hl:tk.length<=6000)(hb:Eb tk)(hf:7*tk.length+20<=f)(hq:tk.length+4<=q):∃r,nf tk en f q=some r:=by
 have i:Iv ⟨tk,0,en,0,0,0,0,[]⟩:=by
  refine⟨?_,hl,Nat.le_refl _,fun x hx=>by cases hx⟩
  unfold PS.sz;simp only[lγ,lδ,lσ];exact⟨Nat.zero_le _,by omega,fun t ht c hc=>hb t ht c hc⟩
 obtain⟨l,t,h1,h2,h3,h4⟩:=Fy (n:=tk.length) (f:=f) (q:=q) (b:=tk.length) hl hq hf q [] _ _ i (Ao.refl _) (by show tk.length - 0+2<=q;omega) (by show tk.length - 0<=_;omega) (by simp);unfold nf;simp_all
structure wn (n:Nat)(s s':PS):Prop where
 tk:s'.tk=s.tk.take n
 ln:n<=s.tk.length
 ps:s'.ps=s.ps
 aT:s'.aT=s.aT
 er:s'.er=s.er
 ne:s'.ne=s.ne
 tt:s'.tt=s.tt
 nd:s'.nd=s.nd
 lt:s.ok=true->s.ps<n
structure vZ (s:PS):Prop where
 ps:s.tk.length<=s.ps
 er:s.er=0\/s.er=13/\s.aT=s.en
def aed (s:PS):s.ok=true↔s.er=0:=by unfold PS.ok;rw[bO,lδ]
def Ă (s:PS):s.ok=false↔s.er≠0:=by unfold PS.ok;rw[bO,lρ]
def wn.ok {n:Nat}{s s':PS}(h:wn n s s'):s'.ok=s.ok:=by unfold PS.ok;rw[h.er]
variable {s':PS}
def wn.at {n:Nat}{s:PS}(h:wn n s s')(i:Nat)(hi:s.ps+i<n):s'.tk[s'.ps+i]?=s.tk[s.ps+i]?:=by
 rw[h.tk,h.ps,List.getElem?_take,if_pos hi]
def wn.peek {n:Nat}{s s':PS}(h:wn n s s'):s'.peek 0=s.peek 0:=by
 unfold PS.peek;rw[h.ok];cases hk:s.ok with
 |false=>rfl
 |true=>rw[h.at 0 (h.lt hk)]
def wn.is {n:Nat}{s s':PS}(h:wn n s s')(x:LN):s'.is x=s.is x:=by unfold PS.is;rw[h.peek]
def wn.fail {n:Nat}{s s':PS}(h:wn n s s'){e:Int}(he:e≠0):wn n (s.fail e) (s'.fail e):=by
 have hf:=eh s he;unfold PS.fail at hf ⊢
 rw[h.ok];cases hk:s.ok with
 |false=>exact h
 |true=>
  have h0:=h.at 0 (h.lt hk);have hl:s.ps<s.tk.length:=mχ (h.lt hk) h.ln;have e1:s'.tk[s'.ps]?=some s.tk[s.ps]:=by simp_all
  refine⟨h.tk,h.ln,h.ps,?_,rfl,h.ne,h.tt,h.nd,fun k=>?_⟩
  all_goals simp_all
def wn.up {n:Nat}{s s':PS}(h:wn n s s')(hk:s.ok=true):wn n s.up s'.up\/vZ s'.up:=by
 by_cases hn:s.ps+1<n
 ·exact .inl ⟨h.tk,h.ln,by show s'.ps+1=s.ps+1;rw[h.ps],h.aT,h.er,h.ne,h.tt,h.nd,fun _=>hn⟩
 ·refine .inr ⟨?_,.inl ?_⟩
  ·show s'.tk.length<=s'.ps+1;rw[h.tk,mδ,h.ps];omega
  ·show s'.er=0;rw[h.er];exact(aed s).1 hk
def wn.setNe {n:Nat}{s:PS}(h:wn n s s')(k:Int):wn n {s with ne:=k} {s' with ne:=k}:=⟨h.tk,h.ln,h.ps,h.aT,h.er,rfl,h.tt,h.nd,h.lt⟩
def vZ.setNe {s:PS}(h:vZ s)(k:Int):vZ {s with ne:=k}:=⟨h.ps,h.er⟩
def vZ.peek {s:PS}(h:vZ s)(i:Nat):s.peek i=W1:=by
 unfold PS.peek;rw[lξ (by have:=h.ps;omega)];simp
def vZ.is {s:PS}(h:vZ s)(x:LN):s.is x=false:=by unfold PS.is;rw[h.peek];rfl
def vZ.fail {s:PS}(h:vZ s):vZ (s.fail 13):=by
 unfold PS.fail;cases hk:s.ok with
 |false=>exact h
 |true=>exact⟨h.ps,.inr ⟨rfl,by show(match s.tk[s.ps]? with|some t=>t.a|none=>s.en)=s.en;rw[lξ h.ps]⟩⟩
def vZ.exp {s:PS}(h:vZ s)(x:LN):vZ (s.exp x)/\(s.exp x).ok=false:=by unfold PS.exp;rw[h.is];exact⟨h.fail,eh s (by decide)⟩
def vZ.open {s:PS}(h:vZ s)(x:LN):vZ (s.open x):=by unfold PS.open PS.opn1;rw[h.is];exact(h.exp x).1.setNe _
def vZ.close {s:PS}(h:vZ s)(x:LN):vZ (s.close x):=(h.exp x).1.setNe _
structure mj {α:Type}(p:PM α):Prop where
 rel:∀{n:Nat} {s s' t t':PS} {a a':α},wn n s s'->p s=some (a,t)->p s'=some (a',t')->(a'=a/\wn n t t')\/vZ t'
 exh:∀{s t:PS} {a:α},vZ s->p s=some (a,t)->vZ t
def mj.bnd {α β:Type}{p:PM α}{f:α->PM β}(hp:mj p)(hf:∀a,mj (f a)):mj (p.bnd f) where
 rel h e e':=by
  obtain⟨b,u,h1,h2⟩:=aa e;obtain⟨b',u',h1',h2'⟩:=aa e';rcases hp.rel h h1 h1' with⟨rfl,g⟩|g
  ·exact(hf _).rel g h2 h2'
  ·exact .inr ((hf _).exh g h2')
 exh h e:=by
  obtain⟨b,u,h1,h2⟩:=aa e;exact(hf _).exh (hp.exh h h1) h2
def mj.ret {α:Type}(a:α):mj (PM.ret a) where
 rel h e e':=by
  obtain⟨rfl,rfl⟩:=au e;obtain⟨rfl,rfl⟩:=au e';simp_all
 exh h e:=by
  obtain⟨rfl,rfl⟩:=au e;exact h
def mj.none:mj (fun _=>(none:Option (α×PS))):=⟨fun _ e=>(by cases e),fun _ e=>(by cases e)⟩
def mj.lf {g:PS->α×PS}(h1:∀{n s s'},wn n s s'->((g s').1=(g s).1/\wn n (g s).2 (g s').2)\/vZ (g s').2)(h2:∀{s},vZ s->vZ (g s).2):mj (lf g) where
 rel h e e':=by
  obtain⟨-,e⟩:=bb e;obtain⟨-,e'⟩:=bb e';grind
 exh h e:=by
  obtain⟨-,e⟩:=bb e;grind
variable {q:PM α}
def mj.cnd {c:PS->Bool}(hc:∀{n s s'},wn n s s'->c s'=c s)(hp:mj p)(hq:mj q):mj (cnd c p q) where
 rel h e e':=by
  obtain⟨-,e⟩:=aD e;obtain⟨-,e'⟩:=aD e';have:=hc h;rcases e with⟨k,e⟩|⟨k,e⟩<;>rcases e' with⟨k',e'⟩|⟨k',e'⟩
  ·exact hp.rel h e e'
  ·simp_all
  ·simp_all
  ·exact hq.rel h e e'
 exh h e:=by
  obtain⟨-,e⟩:=aD e;rcases e with⟨k,e⟩|⟨k,e⟩
  ·exact hp.exh h e
  ·exact hq.exh h e
def mj.cok (hp:mj p)(hq:mj q):mj (cok p q) where
 rel h e e':=by
  have:=h.ok;rcases bT e with⟨k,e⟩|⟨k,e⟩<;>rcases bT e' with⟨k',e'⟩|⟨k',e'⟩
  ·exact hp.rel h e e'
  ·simp_all
  ·simp_all
  ·exact hq.rel h e e'
 exh h e:=by
  rcases bT e with⟨k,e⟩|⟨k,e⟩
  ·exact hp.exh h e
  ·exact hq.exh h e
def wn.isF {n:Nat}{s:PS}(h:wn n s s'):s'.is=s.is:=funext fun x=>h.is x
def mj.fnO {l:List LN}{f:LN->PM α}(hp:mj p)(hf:∀o,mj (f o)):mj (fnO l p f) where
 rel h e e':=by
  obtain⟨-,e⟩:=ei e;obtain⟨-,e'⟩:=ei e';rw[h.isF]at e';rcases e with⟨k,e⟩|⟨o,k,e⟩<;>rcases e' with⟨k',e'⟩|⟨o',k',e'⟩
  ·exact hp.rel h e e'
  ·simp_all
  ·simp_all
  ·rw[k]at k';cases k';exact(hf o).rel h e e'
 exh h e:=by
  obtain⟨-,e⟩:=ei e;rcases e with⟨k,e⟩|⟨o,k,e⟩
  ·exact hp.exh h e
  ·exact(hf o).exh h e
def wn.exp {n:Nat}{s s':PS}(h:wn n s s')(x:LN):wn n (s.exp x) (s'.exp x)\/vZ (s'.exp x):=by
 unfold PS.exp;rw[h.is];cases hx:s.is x with
 |false=>exact .inl (h.fail (by decide))
 |true=>exact h.up (GX hx)

def dPg (l:List Ac)(K:bL->R):jO (.agg [.slice 3 (l.map Ac.e)]) K=K ⟨l.map Ac.e⟩:=rfl
def Cy (src:LN)(hb:By src)(hl:src.length<=6000){q:Nat}(hf:7*src.length+20<=f)(hq:src.length+4<=q):∃r,jQ src f q=some r:=by
 unfold jQ;obtain⟨h1,h2⟩:=TG src hb;cases !eqI (jf src).2.2 0 with
 |true=>exact⟨_,rfl⟩
 |false=>exact Wl _ _ (by omega) h1 (by omega) (by omega)
abbrev Bn:TypeId->Nat:=fun _=>1048576
def flatT (P:Program)(t:TypeId):Bool:=
 match P.underlying t with
 |some (.slice _)=>false
 |some (.struct _)=>false
 |_=>true
def call0_ok (L:Letters)(N:Nat):gA prog0 globs0 (Ω N):=ux (P:=prog0) (G:=globs0) VY (lay0.okM L mvG) N
def aaT:prog0.underlying 9=some .string:=by kernel_rfl
def adO {n:Nat}{x:Da}(h:rR prog0 (eK prog0 Bn (n+1)) 9 x):∃s,x= .str s/\By s:=by
 unfold rR wJ at h;rw[aaT]at h;simp only[eK,aaT]at h;obtain⟨s,e,_,hb⟩:=h;simp only[mη,and_true]at e;exact⟨s,e,hb⟩
def œ {n:Nat}:Ω (n+1) 7 [] []=some (pB true,[]):=by kernel_rfl
def Sep (c0:Nat)(u:LN):Prop:=c0=10\/(c0=32/\47∉u)
variable {c0:Nat}
def Sep.sub {u v:LN}(h:Sep c0 u)(hs:∀x∈v,x∈u):Sep c0 v:=h.elim .inl fun h=> .inr ⟨h.1,fun hv=>h.2 (hs _ hv)⟩
def Ck {p:Int->Bool}{c0:Nat}(hp:p (c0:Int)=false)(r:LN):∀s:LN,dV p (s++c0::r)=dV p s
 |[]=>by
  unfold dV;simp_all
 |c::s=>by
  have ih:=Ck hp r s;unfold dV at ih ⊢
  rw[List.cons_append,List.takeWhile_cons,List.takeWhile_cons];grind
def CB {s:LN}{n:Nat}(h:n<=s.length)(t:LN):(s++t).take n=s.take n:=by grind
def aeV (h:c0=10\/c0=32):zb (c0:Int)=false:=by rcases h with rfl|rfl<;>rfl
def adS (h:c0=10\/c0=32):dX (c0:Int)=false:=by rcases h with rfl|rfl<;>rfl
def WW (h:c0=10\/c0=32)(r:LN)(c:Nat)(s:LN):cD ((c::s)++c0::r)=cD (c::s):=by
 unfold cD;rw[Ck (aeV h)];rfl
def ă (h:c0=10\/c0=32)(r:LN)(c:Nat)(s:LN):BU ((c::s)++c0::r)=BU (c::s):=by
 unfold BU;rw[Ck (adS h),CB (Cl _ _)];rfl
def vS (t:LN):∀(n:Nat) (s out:LN) (i:Nat),s.length<=n->(txtS s out i).2.2=0->txtS (s++t) out i=txtS s out i
 |n,[],out,i,hn,h=>by cases h
 |0,c::s,out,i,hn,h=>by grind
 |n+1,c::s,out,i,hn,h=>by
  simp at hn;rw[List.cons_append];unfold txtS at h ⊢
  cases h1:w9 (c:Int)with
  |true=>
   rw[h1,cond_true]at h;exact vS t n s _ _ (by omega) h
  |false=>
   rw[h1,cond_false]at h;cases h2:Nat.beq c 34 with
   |true=>rfl
   |false=>
    rw[h2,cond_false]at h;cases h3:Nat.beq c 92 with
    |false=>rfl
    |true=>
     rw[h3,cond_true]at h;match s,hn,h with
     |[],_,h=>cases h
     |d::s1,hn,h=>
      simp at h ⊢
      simp at hn;cases h4:(Nat.beq d 34||Nat.beq d 92)with
      |true=>
       rw[h4,cond_true]at h;exact vS t n s1 _ _ (by omega) h
      |false=>
       rw[h4,cond_false]at h;match s1,hn,h with
       |[],_,h=>cases h
       |[a],_,h=>cases h
       |a::b::s2,hn,h=>
        simp at h ⊢
        simp at hn;cases h5:(Nat.beq d 120&&(aS 0 (f6 a)&&aS 0 (f6 b)))with
        |false=>rfl
        |true=>
         rw[h5,cond_true]at h;exact vS t n s2 _ _ (by omega) h
def ħ (h:c0=10\/c0=32)(r:LN)(c:Nat):∀(s:LN),pf ((c::s)++c0::r)=pf (c::s)
 |d::s=>rfl
 |[]=>by
  unfold pf;have h1:twoS.any (kA (c::c0::r))=false:=by
   have e:∀a b:Nat,b≠c0->kA (c::c0::r) [a,b]=false:=fun a b hb=>by
    unfold kA;rw[ec,lρ];grind
   simp only[twoS,List.any_nil];grind
  have h2:twoS.any (kA [c])=false:=by
   have e:∀a b:Nat,kA [c] [a,b]=false:=fun a b=>by
    unfold kA;rw[ec,lρ];simp
   simp only[twoS,List.any_cons,e];rfl
  grind
def rx (c:Nat)(r:LN):dD (c::r)=bif aO 0 (cD (c::r):Int)then
   (bif aO 32 (cD (c::r):Int)then rH 5 else bif Lz ((c::r).take (cD (c::r)))then(⟨2,(c::r).take (cD (c::r)),0,0⟩,(cD (c::r):Int),0)else(⟨1,(c::r).take (cD (c::r)),0,0⟩,(cD (c::r):Int),0))
  else bif dX c then BU (c::r)else bif Nat.beq c 34 then txtS r [] 1 else
   bif eqI (pf (c::r)) 0 then rH 13 else(⟨5,(c::r).take (pf (c::r)),0,0⟩,(pf (c::r):Int),0):=rfl
def ı (h:c0=10\/c0=32)(r:LN)(c:Nat)(s:LN)(ho:(dD (c::s)).2.2=0):dD ((c::s)++c0::r)=dD (c::s):=by
 have hw:=WW h r c s;have hn:=ă h r c s;have hs:=ħ h r c s;have tw:=CB (IC (c::s)) (c0::r);have ts:=CB (QP (c::s)) (c0::r);simp at hw hn hs tw ts ⊢
 rw[rx]at ho;rw[rx,rx,hw,hn,hs,tw,ts];cases h1:aO 0 (cD (c::s):Int)with
 |true=>rfl
 |false=>
  rw[h1,cond_false]at ho;cases h2:dX (c:Int)with
  |true=>rfl
  |false=>
   rw[h2,cond_false]at ho;cases h3:Nat.beq c 34 with
   |false=>rfl
   |true=>
    rw[h3,cond_true]at ho;exact vS (c0::r) s.length s [] 1 (Nat.le_refl _) ho
def tkU (q:Nat)(u:LN)(i:Nat)(acc:List Tk):List Tk×Int×Int:=Ft q (u.drop (n8 false u)) (i+n8 false u) acc
def į (q:Nat)(c:Nat)(r:LN)(i:Nat)(acc:List Tk):Ft (q+1) (c::r) i acc=bif !eqI (dD (c::r)).2.2 0 then([],(i:Int),(dD (c::r)).2.2)else
  tkU q ((c::r).drop (dD (c::r)).2.1.toNat) (i+(dD (c::r)).2.1.toNat) (acc++[{(dD (c::r)).1 with a:=(i:Int)}]):=by
 unfold tkU;rw[mξ];show(bif _ then _ else Ft q _ _ _)=_;grind
def st (t:Tk):Tk:={t with a:=0}
structure wm (e:Nat)(s s':PS):Prop where
 ok:s.ok=true
 ok':s'.ok=true
 ps:s'.ps=s.ps+1
 le:s.ps<=e
 tk:∀i,s.ps<=i->i<e->(s'.tk[i+1]?).map st=(s.tk[i]?).map st
 e1:(s.tk[e]?).map st=some ⟨5,[59],0,0⟩
 e2:(s'.tk[e+1]?).map st=some ⟨5,[41],0,0⟩
 ne:s'.ne=ae .i64 (s.ne+1)
 tt:s'.tt=s.tt
 nd:s'.nd=s.nd
structure rC {α:Type}(e:Nat)(p p':PM α):Prop where
 rel:∀{s s' t t':PS} {a a':α},wm e s s'->p s=some (a,t)->p' s'=some (a',t')->(a'=a/\wm e t t')\/t.ok=false\/t'.er=5
 keep:∀{s t:PS} {a:α},s.ok=false->p s=some (a,t)->t.er=s.er
 keep':∀{s t:PS} {a:α},s.ok=false->p' s=some (a,t)->t.er=s.er
def P5 {s t:PS}(h:s.ok=false)(e:t.er=s.er):t.ok=false:=by
 rw[Ă]at h ⊢
 rw[e];exact h
def er5 {s t:PS}(h:s.er=5):s.ok=false:=by rw[Ă,h];decide
def rC.bnd {α β:Type}{e:Nat}{p p':PM α}{f f':α->PM β}(hp:rC e p p')(hf:∀a,rC e (f a) (f' a)):rC e (p.bnd f) (p'.bnd f') where
 rel h e1 e2:=by
  obtain⟨b,u,h1,h2⟩:=aa e1;obtain⟨b',u',h1',h2'⟩:=aa e2;rcases hp.rel h h1 h1' with⟨rfl,g⟩|g|g
  ·exact(hf _).rel g h2 h2'
  ·exact .inr (.inl (P5 g ((hf _).keep g h2)))
  ·exact .inr (.inr (((hf b').keep' (er5 (t:=u') g) h2').trans g))
 keep h e1:=by
  obtain⟨b,u,h1,h2⟩:=aa e1;have:=hp.keep h h1;exact((hf _).keep (P5 h this) h2).trans this
 keep' h e1:=by
  obtain⟨b,u,h1,h2⟩:=aa e1;have:=hp.keep' h h1;exact((hf b).keep' (P5 h this) h2).trans this
def rC.ret {α:Type}{e:Nat}(a:α):rC e (PM.ret a) (PM.ret a) where
 rel h e1 e2:=by
  obtain⟨rfl,rfl⟩:=au e1;obtain⟨rfl,rfl⟩:=au e2;exact .inl ⟨rfl,h⟩
 keep h e1:=by
  obtain⟨rfl,rfl⟩:=au e1;rfl
 keep' h e1:=by
  obtain⟨rfl,rfl⟩:=au e1;rfl
def rC.cok {e:Nat}{p' q':PM α}(hp:rC e p p')(hq:rC e q q'):rC e (cok p q) (cok p' q') where
 rel h e1 e2:=by
  rcases bT e1 with⟨k,e1⟩|⟨k,e1⟩
  ·rcases bT e2 with⟨k',e2⟩|⟨k',e2⟩
   ·exact hp.rel h e1 e2
   ·rw[h.ok']at k';cases k'
  ·rw[h.ok]at k;cases k
 keep h e1:=by
  rcases bT e1 with⟨k,e1⟩|⟨k,e1⟩
  ·rw[h]at k;cases k
  ·exact hq.keep h e1
 keep' h e1:=by
  rcases bT e1 with⟨k,e1⟩|⟨k,e1⟩
  ·rw[h]at k;cases k
  ·exact hq.keep' h e1
def rC.cnd {e:Nat}{c c':PS->Bool}{p' q':PM α}(hc:∀{s s'},wm e s s'->c' s'=c s)(hp:rC e p p')(hq:rC e q q'):rC e (cnd c p q) (cnd c' p' q') where
 rel h e1 e2:=by
  obtain⟨-,e1⟩:=aD e1;obtain⟨-,e2⟩:=aD e2;rw[hc h]at e2;rcases e1 with⟨k,e1⟩|⟨k,e1⟩<;>rcases e2 with⟨k',e2⟩|⟨k',e2⟩
  ·exact hp.rel h e1 e2
  ·rw[k]at k';cases k'
  ·rw[k]at k';cases k'
  ·exact hq.rel h e1 e2
 keep h e1:=by
  obtain⟨-,e1⟩:=aD e1;rcases e1 with⟨k,e1⟩|⟨k,e1⟩
  ·exact hp.keep h e1
  ·exact hq.keep h e1
 keep' h e1:=by
  obtain⟨-,e1⟩:=aD e1;rcases e1 with⟨k,e1⟩|⟨k,e1⟩
  ·exact hp.keep' h e1
  ·exact hq.keep' h e1
def Wq (t:Tk):bc (st t)=bc t:=rfl
def mc (s:PS)(hk:s.ok=true)(i:Nat):st (s.peek i)=match (s.tk[s.ps+i]?).map st with|some t=>bif bc t then t else W1|none=>W1:=by
 unfold PS.peek;rw[hk,cond_true];cases s.tk[s.ps+i]? with
 |none=>rfl
 |some t=>
  simp only[Option.map_some,Wq];cases bc t<;>rfl
def wm.pk {e:Nat}{s:PS}(h:wm e s s')(i:Nat)(hi:s.ps+i<e):st (s'.peek i)=st (s.peek i):=by
 rw[mc s h.ok,mc s' h.ok',h.ps,show s.ps+1+i=(s.ps+i)+1 by omega,h.tk _ (by omega) hi]
def wm.pe {e:Nat}{s:PS}(h:wm e s s')(i:Nat)(hi:s.ps+i=e):st (s.peek i)=⟨5,[59],0,0⟩/\st (s'.peek i)=⟨5,[41],0,0⟩:=by
 rw[mc s h.ok,mc s' h.ok',h.ps,show s.ps+1+i=(s.ps+i)+1 by omega,hi,h.e1,h.e2];exact⟨by kernel_rfl,by kernel_rfl⟩
def za {t u:Tk}(h:st t=st u):t.k=u.k/\t.s=u.s/\t.n=u.n:=by
 unfold st at h;simp only[Tk.mk.injEq,and_true]at h;exact h
def wm.see {e:Nat}{s:PS}(h:wm e s s'){β:Type}(g:Int->LN->β)(hg:g 5 [59]=g 5 [41]):g (s'.peek 0).k (s'.peek 0).s=g (s.peek 0).k (s.peek 0).s:=by
 rcases lυ s.ps e with hl|hl
 ·obtain⟨e1,e2,_⟩:=za (h.pk 0 hl);rw[e1,e2]
 ·obtain⟨e1,e2⟩:=h.pe 0 (by have:=h.le;omega);have a1:(s.peek 0).k=5/\(s.peek 0).s=[59]/\_:=za (u:=⟨5,[59],0,0⟩) e1;have a2:(s'.peek 0).k=5/\(s'.peek 0).s=[41]/\_:=za (u:=⟨5,[41],0,0⟩) e2;rw[a1.1,a1.2.1,a2.1,a2.2.1,hg]
def Wd (x:LN):Prop:=x≠[59]/\x≠[41]
def wm.is {e:Nat}{s s':PS}(h:wm e s s'){x:LN}(hx:Wd x):s'.is x=s.is x:=
 h.see (fun k w=>(eqI k 2||eqI k 5)&&bv w x) (by
  simp only[ec];rw[mρ (fun e=>hx.1 e.symm),mρ (fun e=>hx.2 e.symm)])
def wm.kd {e:Nat}{s:PS}(h:wm e s s')(k:Int):eqI (s'.peek 0).k k=eqI (s.peek 0).k k:=h.see (fun x _=>eqI x k) rfl
def wm.begins {e:Nat}{s s':PS}(h:wm e s s'):s'.begins=s.begins:=
 h.see (fun k w=>(eqI k 1||(eqI k 3||eqI k 4))||((eqI k 2||eqI k 5)&&beginL.any (bv w))) (by decide)
def wm.appl {e:Nat}{s s':PS}(h:wm e s s')(hl:s.ps<e):s'.appl=s.appl:=by
 unfold PS.appl;rcases lυ (s.ps+1) e with hl1|hl1
 ·obtain⟨e1,e2,_⟩:=za (h.pk 1 hl1);rw[e1,e2]
 ·obtain⟨e1,e2⟩:=h.pe 1 (by omega);have a1:(s.peek 1).k=5/\(s.peek 1).s=[59]/\_:=za (u:=⟨5,[59],0,0⟩) e1;have a2:(s'.peek 1).k=5/\(s'.peek 1).s=[41]/\_:=za (u:=⟨5,[41],0,0⟩) e2;rw[a1.1,a1.2.1,a2.1,a2.2.1];decide
def wm.lt {e:Nat}{s:PS}(h:wm e s s'){x:LN}(hx:x≠[59])(k:s.is x=true):s.ps<e:=by
 rcases lυ s.ps e with hl|hl
 ·exact hl
 ·exfalso;obtain⟨e1,_⟩:=h.pe 0 (by have:=h.le;omega);obtain⟨a1,a2,_⟩:=za (u:=⟨5,[59],0,0⟩) e1;unfold PS.is at k;rw[a1,a2,lγ,ec,lδ]at k;exact hx k.2.symm
def wm.up {e:Nat}{s s':PS}(h:wm e s s')(hl:s.ps<e):wm e s.up s'.up:=
 ⟨h.ok,h.ok',by show s'.ps+1=s.ps+1+1;rw[h.ps],hl,fun i h1 h2=>h.tk i (mσ (Nat.le_succ _) h1) h2,h.e1,h.e2,h.ne,h.tt,h.nd⟩
section
variable {e:Nat}
def rC.lf {α:Type}{g g':PS->α×PS}(h1:∀{s s'},wm e s s'->((g' s').1=(g s).1/\wm e (g s).2 (g' s').2)\/(g s).2.ok=false\/(g' s').2.er=5)(k1:∀{s:PS},s.ok=false->(g s).2.er=s.er)(k2:∀{s:PS},s.ok=false->(g' s).2.er=s.er):rC e (Go.Ab.lf g) (Go.Ab.lf g') where
 rel h e1 e2:=by
  obtain⟨-,e1⟩:=bb e1;obtain⟨-,e2⟩:=bb e2;have:=h1 h;rw[e1,e2]at this;exact this
 keep h e1:=by
  obtain⟨-,e1⟩:=bb e1;have:=k1 h;rw[e1]at this;exact this
 keep' h e1:=by
  obtain⟨-,e1⟩:=bb e1;have:=k2 h;rw[e1]at this;exact this
def wm.exp {s s':PS}(h:wm e s s'){x:LN}(hx:x≠[59]):wm e (s.exp x) (s'.exp x)\/(s.exp x).ok=false:=by
 unfold PS.exp;cases k:s.is x with
 |false=>exact .inr (eh s (by decide))
 |true=>
  have hl:=h.lt hx k;have:s'.is x=true:=by
   obtain⟨a1,a2,_⟩:=za (h.pk 0 hl);unfold PS.is at k ⊢
   rw[a1,a2];exact k
  rw[this];exact .inl (h.up hl)


end
structure Nx (s:PS)(R:List Tk):Prop where
 ok:s.ok=true
 tk:s.tk.map st=(s.tk.map st).take s.ps++R
 ps:s.ps<=s.tk.length
def Nx.at {s:PS}{R:List Tk}(h:Nx s R)(i:Nat):(s.tk[s.ps+i]?).map st=R[i]?:=by
 rw[<-mζ,h.tk,lτ (by rw[mδ,lζ];omega),mδ,lζ,Nat.min_eq_left h.ps];congr 1;omega
def Nx.pk {s:PS}{t:Tk}{R:List Tk}(h:Nx s (t::R))(hp:bc t=true):st (s.peek 0)=t:=by
 rw[mc s h.ok,h.at 0];simp only[List.getElem?_cons_zero,hp,cond_true]
def Nx.pk1 {s:PS}{t u:Tk}{R:List Tk}(h:Nx s (t::u::R))(hp:bc u=true):st (s.peek 1)=u:=by
 rw[mc s h.ok,h.at 1];simp only[List.getElem?_cons_succ,List.getElem?_cons_zero,hp,cond_true]
def Nx.up {s:PS}{t:Tk}{R:List Tk}(h:Nx s (t::R)):Nx s.up R:=by
 have hl:s.ps<s.tk.length:=by
  have:=congrArg List.length h.tk;have:=h.ps;simp[lα,mδ]at*
  omega
 refine⟨h.ok,?_,hl⟩;show s.tk.map st=(s.tk.map st).take (s.ps+1)++R;have e:=h.at 0;rw[Nat.add_zero,List.getElem?_cons_zero,<-mζ]at e;rw[List.take_add_one,e];simp only[Option.toList_some,lε,List.cons_append,List.nil_append];exact h.tk
def eB (t:Tk)(x:LN):Bool:=bc t&&((eqI t.k 2||eqI t.k 5)&&bv t.s x)
def Nx.is {s:PS}{t:Tk}{R:List Tk}(h:Nx s (t::R))(hp:bc t=true)(x:LN):s.is x=eB t x:=by
 obtain⟨a1,a2,_⟩:=za (t:=s.peek 0) (u:=t) (by rw[h.pk hp];have:=h.pk hp;rw[<-this];rfl);unfold PS.is eB;rw[a1,a2,hp,Bool.true_and]
def Nx.k {s:PS}{t:Tk}{R:List Tk}(h:Nx s (t::R))(hp:bc t=true):(s.peek 0).k=t.k/\(s.peek 0).s=t.s/\(s.peek 0).n=t.n:=za (by rw[h.pk hp];have:=h.pk hp;rw[<-this];rfl)
def Nx.exp {s s':PS}{t:Tk}{R:List Tk}{x:LN}{u:Unit}(h:Nx s (t::R))(hi:eB t x=true)(e:gE x s=some (u,s')):s'=s.up/\Nx s.up R:=by
 obtain⟨-,e⟩:=bb e;injection e with _ e;have hp:bc t=true:=by unfold eB at hi;rw[lγ]at hi;exact hi.1
 unfold PS.exp at e;rw[h.is hp,hi,cond_true]at e;exact⟨e.symm,h.up⟩
def Nx.name {s:PS}{t:Tk}{R:List Tk}{n:LN}(h:Nx s (t::R))(hp:bc t=true)(hk:t.k=1)(e:pName s=some (n,s')):n=t.s/\s'=s.up/\Nx s.up R:=by
 obtain⟨y,u,h1,e⟩:=aa e;obtain⟨rfl,rfl⟩:=au e;obtain⟨-,h1⟩:=bb h1;unfold PS.take at h1;obtain⟨a1,a2,_⟩:=h.k hp;rw[a1,hk,show eqI (1:Int) 1=true from rfl,cond_true]at h1;injection h1 with h1 h2;exact⟨by rw[<-h1];exact a2,h2.symm,h.up⟩
def Nx.kind {s:PS}{R:List Tk}{k:Int}(h:Nx s (⟨2,[105,110,116],0,0⟩::R))(e:pKind s=some (k,s')):k=1/\s'=s.up/\Nx s.up R:=by
 obtain⟨-,e⟩:=bb e;have hi:=h.is (by kernel_rfl) [105,110,116];unfold kindL dn at e;rw[hi,show eB ⟨2,[105,110,116],0,0⟩ [105,110,116]=true by kernel_rfl,cond_true]at e;injection e with e1 e2;exact⟨e1.symm,e2.symm,h.up⟩
def Nx.body {s:PS}{R:List Tk}(h:Nx s R)(nd:List No)(ne:Int):Nx {s with nd:=nd,ne:=ne} R:=⟨h.ok,h.tk,h.ps⟩
def ą {s:PS}{R:List Tk}{i:Int}(h:Nx s R)(e:eb x s=some (i,s')):i=(s.nd.length:Int)/\s'={s with nd:=s.nd++[x]}/\Nx s' R:=by
 obtain⟨-,-,e⟩:=q7 e;unfold PS.add at e;rw[h.ok]at e;injection e with e1 e2;subst e1 e2;exact⟨rfl,rfl,⟨h.ok,h.tk,h.ps⟩⟩
def acV {s:PS}{R:List Tk}{i:Int}(h:Nx s (⟨5,[59],0,0⟩::R))(e:gL x s=some (i,s')):i=(s.nd.length:Int)/\s'={s.up with nd:=s.nd++[x]}/\Nx s' R:=by
 obtain⟨_,s1,e1,e⟩:=aa e;obtain⟨rfl,h⟩:=h.exp (by kernel_rfl) e1;exact ą h e
def n_ (nd:List No)(tt:Int):Bool:=aO 1500 (ae .i64 (tt+(nd.length:Int)))||aO 24 (cN nd)
def acW {s:PS}(e:td s=some ((),s')):s'=bif n_ s.nd s.tt then s.fail 5 else s:=by
 unfold td at e;cases hb:(decide (s.nd.length<10000)&&decide (0<s.nd.length)&&s.nd.all (wM s.nd.length))with
 |false=>rw[hb]at e;cases e
 |true=>
  rw[hb,cond_true]at e;injection e with e;injection e with _ e;subst e;unfold n_;cases aO 1500 (ae .i64 (s.tt+(s.nd.length:Int)))<;>cases aO 24 (cN s.nd)<;>rfl
def aee:List LN:=[[124,124],[38,38],[61,61],[33,61],[60],[60,61],[62],[62,61],[43],[45],[42],[47],[37]]
def Quiet (s:PS):Prop:=∀o∈aee,s.is o=false
def Quiet.find {s:PS}(h:Quiet s){l:List LN}(hl:∀o∈l,o∈aee):l.find? s.is=none:=List.find?_eq_none.2 fun o ho=>by rw[h o (hl o ho)];decide
def Nx.move {s t:PS}{A R:List Tk}(h:Nx s (A++R))(htk:t.tk=s.tk)(hps:t.ps=s.ps+A.length)(hok:t.ok=true):Nx t R:=by
 have hl:=h.ps;have hd:(s.tk.map st).drop s.ps=A++R:=by
  have e:=h.tk;have e2:=(List.take_append_drop s.ps (s.tk.map st)).trans e;exact List.append_cancel_left e2
 have hlen:A.length+R.length+s.ps=s.tk.length:=by
  have:=congrArg List.length hd;rw[lχ,lζ,lα]at this;omega
 refine⟨hok,?_,by rw[htk,hps];omega⟩
 rw[htk,hps,List.take_add,hd,List.take_left,lε];exact h.tk
def Nx.isA {s:PS}{t:Tk}{R:List Tk}(h:Nx s (t::R))(x:LN):s.is x=eB t x:=by
 cases hp:bc t with
 |true=>exact h.is hp x
 |false=>
  have e:=mc s h.ok 0;rw[h.at 0]at e;simp only[List.getElem?_cons_zero,hp,cond_false]at e;obtain⟨a1,a2,_⟩:=za (t:=s.peek 0) (u:=W1) e;unfold PS.is eB;rw[a1,hp,Bool.false_and];rfl
def NoL (v:Va):Prop:=v.I=[]/\v.L=[]
def Nv (s:PS):Prop:=∀x∈s.nd,NoL x.v
structure Pr {α:Type}(Q:α->Prop)(p:PM α):Prop where
 h:∀{s t:PS} {a:α},Nv s->p s=some (a,t)->Nv t/\Q a
def Pr.bnd {α β:Type}{p:PM α}{f:α->PM β}{Q:α->Prop}{S:β->Prop}(hp:Pr Q p)(hf:∀a,Q a->Pr S (f a)):Pr S (p.bnd f):=⟨fun h e=>by
 obtain⟨b,u,h1,h2⟩:=aa e;obtain⟨k1,k2⟩:=hp.h h h1;exact(hf b k2).h k1 h2⟩
def Pr.ret {α:Type}{Q:α->Prop}{a:α}(h:Q a):Pr Q (PM.ret a):=⟨fun hn e=>by
 obtain⟨rfl,rfl⟩:=au e;exact⟨hn,h⟩⟩
def Pr.none {Q:α->Prop}:Pr Q (fun _=>(none:Option (α×PS))):=⟨fun _ e=>by cases e⟩
def Pr.lf {α:Type}{Q:α->Prop}{g:PS->α×PS}(h:∀s,(g s).2.nd=s.nd/\Q (g s).1):Pr Q (Go.Ab.lf g):=⟨fun {s t a} hn e=>by
 obtain⟨-,e⟩:=bb e;have:=h s;rw[e]at this;exact⟨fun x hx=>hn x (this.1▸hx),this.2⟩⟩
def Pr.cnd {α:Type}{Q:α->Prop}{c:PS->Bool}{p q:PM α}(hp:Pr Q p)(hq:Pr Q q):Pr Q (Go.Ab.cnd c p q):=⟨fun hn e=>by
 obtain⟨-,e⟩:=aD e;rcases e with⟨-,e⟩|⟨-,e⟩
 ·exact hp.h hn e
 ·exact hq.h hn e⟩
def Pr.cok {α:Type}{Q:α->Prop}{p q:PM α}(hp:Pr Q p)(hq:Pr Q q):Pr Q (Go.Ab.cok p q):=⟨fun hn e=>by
 rcases bT e with⟨-,e⟩|⟨-,e⟩
 ·exact hp.h hn e
 ·exact hq.h hn e⟩
def Pr.fnO {α:Type}{Q:α->Prop}{l:List LN}{p:PM α}{f:LN->PM α}(hp:Pr Q p)(hf:∀o,Pr Q (f o)):Pr Q (Go.Ab.fnO l p f):=⟨fun hn e=>by
 obtain⟨-,e⟩:=ei e;rcases e with⟨-,e⟩|⟨o,-,e⟩
 ·exact hp.h hn e
 ·exact(hf o).h hn e⟩
def iw (xs:List α)(L:Nat->Int->R)(out:R)(hs:∀q i (h:i<xs.length),L (q+1) (i:Int)=L q ((i+1:Nat):Int))(he:∀q,L (q+1) (xs.length:Int)=out){q:Nat}(hq:xs.length<q):L q 0=out:=by
 have e:=cd xs L (fun _=>false) (fun _=>out) out (fun q i h=>by simp_all) he hq;grind
def nD (a:Int):eqI a a=true:=eqT rfl
def K8 (s:LN):bv s s=true:=by rw[ec];simp
def SzV (b:Nat)(v:Va):Prop:=v.I.length<=b/\v.L.length<=b
def SzN (b:Nat)(n:No):Prop:=SzV b n.v/\n.kids.length<=b
def SzM (b:Nat)(m:Me):Prop:=m.params.length<=b/\m.nodes.length<=b/\∀n∈m.nodes,SzN b n
def SzT (b:Nat)(t:Ac):Prop:=t.fields.length<=b/\t.methods.length<=b/\(∀f∈t.fields,SzV b f.init)/\∀m∈t.methods,SzM b m
def SzP (b:Nat)(p:List Ac):Prop:=p.length<=b/\∀t∈p,SzT b t
variable {m:Nat}
def Xx (l:LI)(hm:l.length+2<=m)(hl:l.length<bX):Ω m 93 [pL 1 (l.map iE),pL 1 (l.map iE)] []=some (pB true,[]):=by
 replace hm:=aH hm;obtain⟨m,rfl,hm⟩:=hm;apply J3 m (l.map iE) (l.map iE);unfold Ai;rw[nD,Bool.not_true,aG,lζ];refine iw l (fun q i=>itL (fT _ m _ _) q (l.map iE,l.map iE,(l.length:Int),i)) _ (fun q i hi=>?_) (fun q=>?_) (by omega)
 ·rw[aM];simp only[fT,fd (show((i:Int)<(l.length:Int)) by omega),az,bg,cS,bI hi,bH,dI,nD,Bool.not_true,aG,wS (show i<bX by omega)]
 ·rw[aM];simp only[fT,dJ,aG]
def Xy (l:List LN)(hm:l.length+2<=m)(hl:l.length<bX):Ω m 94 [pL 1 (l.map .str),pL 1 (l.map .str)] []=some (pB true,[]):=by
 replace hm:=aH hm;obtain⟨m,rfl,hm⟩:=hm;apply J4 m (l.map .str) (l.map .str);unfold Aj;rw[nD,Bool.not_true,aG,lζ];refine iw l (fun q i=>itL (fU _ m _ _) q (l.map .str,l.map .str,(l.length:Int),i)) _ (fun q i hi=>?_) (fun q=>?_) (by omega)
 ·rw[aM];simp only[fU,fd (show((i:Int)<(l.length:Int)) by omega),az,bg,cS,bI hi,bH,cV,K8,Bool.not_true,aG,wS (show i<bX by omega)]
 ·rw[aM];simp only[fU,dJ,aG]
def abe (l:LI)(hm:l.length+2<=m)(hl:l.length<bX):Ω m 31 [pL 1 (l.map iE),pL 1 (l.map iE)] []=some (pB true,[]):=by
 replace hm:=aH hm;obtain⟨m,rfl,hm⟩:=hm;apply X4 m (l.map iE) (l.map iE);unfold N4;rw[nD,Bool.not_true,aG,lζ];refine iw l (fun q i=>itL (kh _ m _ _) q (l.map iE,l.map iE,(l.length:Int),i)) _ (fun q i hi=>?_) (fun q=>?_) (by omega)
 ·rw[aM];simp only[kh,fd (show((i:Int)<(l.length:Int)) by omega),az,bg,cS,bI hi,bH,dI,nD,Bool.not_true,aG,wS (show i<bX by omega)]
 ·rw[aM];simp only[kh,dJ,aG]
def abh (l:List Pa)(hm:l.length+2<=m)(hl:l.length<bX):Ω m 34 [pL 2 (l.map Pa.e),pL 2 (l.map Pa.e)] []=some (pB true,[]):=by
 replace hm:=aH hm;obtain⟨m,rfl,hm⟩:=hm;apply abt m (l.map Pa.e) (l.map Pa.e);unfold XH;rw[nD,Bool.not_true,aG,lζ];refine iw l (fun q i=>itL (qk _ m _ _) q (l.map Pa.e,l.map Pa.e,(l.length:Int),i)) _ (fun q i hi=>?_) (fun q=>?_) (by omega)
 ·rw[aM];simp only[qk,fd (show((i:Int)<(l.length:Int)) by omega),az,bg,cS,bI hi,bH,dPa,nD,K8,wS (show i<bX by omega)]
 ·rw[aM];simp only[qk,dJ,aG]
def Xp {b:Nat}(v:Va)(h:SzV b v)(hm:b+3<=m)(hl:b<bX):Ω m 64 [.p v.e,.p v.e] []=some (pB true,[]):=by
 replace hm:=aH hm;obtain⟨m,rfl,hm⟩:=hm;apply JV m v.r v.r;unfold zS;simp only[nD,K8,az,show v.r.I=v.I.map iE from rfl,show v.r.L=v.L.map .str from rfl,evC_known (Xx (m:=m) v.I (by have:=h.1;omega) (by have:=h.1;omega)),evC_known (Xy (m:=m) v.L (by have:=h.2;omega) (by have:=h.2;omega)),aE,aj,ah]
def Q5 {b:Nat}(v:Va)(h:SzV b v)(hm:b+4<=m)(hl:b<bX):Ω m 30 [.p v.e,.p v.e] []=some (pB true,[]):=by
 replace hm:=aH hm;obtain⟨m,rfl,hm⟩:=hm;apply Rx m v.r v.r;unfold FM;have:=Xp (m:=m) v h (by omega) hl;simp only[Va.e]at this;simp only[evC_known this,aE,aj,ah]
def Xn {b:Nat}(n:No)(h:SzN b n)(hm:b+5<=m)(hl:b<bX):Ω m 29 [.p n.e,.p n.e] []=some (pB true,[]):=by
 replace hm:=aH hm;obtain⟨m,rfl,hm⟩:=hm;apply X8 m n.r n.r;unfold I8;have h1:=Q5 (m:=m) n.v h.1 (by omega) hl;have h2:=abe (m:=m) n.kids (by have:=h.2;omega) (by have:=h.2;omega);simp only[Va.e,Va.r,aB.e]at h1;simp only[No.r,nD,K8,az,evC_known h1,evC_known h2,aE,aj,ah,eg]
def abg {b:Nat}(l:List No)(h:∀n∈l,SzN b n)(hb:l.length<=b)(hm:b+6<=m)(hl:b<bX):Ω m 35 [pL 8 (l.map No.e),pL 8 (l.map No.e),.p (.fn 29 [])] []=some (pB true,[]):=by
 replace hm:=aH hm;obtain⟨m,rfl,hm⟩:=hm;apply abs m (l.map No.e) (l.map No.e);unfold XG;rw[nD,Bool.not_true,aG,lζ];refine iw l (fun q i=>itL (qj _ m _ _) q (l.map No.e,l.map No.e,(l.length:Int),i)) _ (fun q i hi=>?_) (fun q=>?_) (by omega)
 ·rw[aM];have e:=Xn (m:=m) l[i] (h _ (lπ hi)) (by omega) hl;simp only[No.e]at e;simp only[qj,fd (show((i:Int)<(l.length:Int)) by omega),az,bg,cS,bI hi,bH,Vb,evC_known e,aE,aj,eg,Bool.not_true,aG,wS (show i<bX by omega)]
 ·rw[aM];simp only[qj,dJ,aG]
def Xl {b:Nat}(f:Fe)(h:SzV b f.init)(hm:b+5<=m)(hl:b<bX):Ω m 32 [.p f.e,.p f.e] []=some (pB true,[]):=by
 replace hm:=aH hm;obtain⟨m,rfl,hm⟩:=hm;apply X6 m f.r f.r;unfold I6;have h1:=Q5 (m:=m) f.init h (by omega) hl;simp only[Va.e,Va.r,aB.e]at h1;simp only[Fe.r,nD,K8,az,evC_known h1,aE,aj,ah]
def abd {b:Nat}(l:List Fe)(h:∀f∈l,SzV b f.init)(hb:l.length<=b)(hm:b+6<=m)(hl:b<bX):Ω m 38 [pL 7 (l.map Fe.e),pL 7 (l.map Fe.e),.p (.fn 32 [])] []=some (pB true,[]):=by
 replace hm:=aH hm;obtain⟨m,rfl,hm⟩:=hm;apply abq m (l.map Fe.e) (l.map Fe.e);unfold XE;rw[nD,Bool.not_true,aG,lζ];refine iw l (fun q i=>itL (qh _ m _ _) q (l.map Fe.e,l.map Fe.e,(l.length:Int),i)) _ (fun q i hi=>?_) (fun q=>?_) (by omega)
 ·rw[aM];have e:=Xl (m:=m) l[i] (h _ (lπ hi)) (by omega) hl;simp only[Fe.e]at e;simp only[qh,fd (show((i:Int)<(l.length:Int)) by omega),az,bg,cS,bI hi,bH,dFe,evC_known e,aE,aj,eg,Bool.not_true,aG,wS (show i<bX by omega)]
 ·rw[aM];simp only[qh,dJ,aG]
abbrev hpN:List Ob:=[.box [.p (.fn 29 [])]]
abbrev hpT:List Ob:=[.box [.p (.fn 32 [])],.box [.fn 33 [.box 2 0]],.box [.p (.fn 29 [])]]
def Xm {b:Nat}(x:Me)(h:SzM b x)(hm:b+7<=m)(hl:b<bX):Ω m 33 [.p x.e,.p x.e,.box 0 0] hpN=some (pB true,hpN):=by
 replace hm:=aH hm;obtain⟨m,rfl,hm⟩:=hm;apply X7 m x.r x.r;unfold I7;have h1:=abh (m:=m) x.params (by have:=h.1;omega) (by have:=h.1;omega);have h2:=abg (m:=m) x.nodes h.2.2 h.2.1 (by omega) hl;simp only[Me.r,nD,K8,az,evC_known h1,evC_known h2,aE,aj,eg]
def abf {b:Nat}(l:List Me)(h:∀x∈l,SzM b x)(hb:l.length<=b)(hm:b+8<=m)(hl:b<bX):Ω m 39 [pL 4 (l.map Me.e),pL 4 (l.map Me.e),.fn 33 [.box 0 0]] hpN=some (pB true,hpN):=by
 replace hm:=aH hm;obtain⟨m,rfl,hm⟩:=hm;apply abr m (l.map Me.e) (l.map Me.e);unfold XF;rw[nD,Bool.not_true,aG,lζ];refine iw l (fun q i=>itL (qi _ m _ _) q (l.map Me.e,l.map Me.e,(l.length:Int),i)) _ (fun q i hi=>?_) (fun q=>?_) (by omega)
 ·rw[aM];have e:=Xm (m:=m) l[i] (h _ (lπ hi)) (by omega) hl;simp only[Me.e]at e;simp only[qi,fd (show((i:Int)<(l.length:Int)) by omega),az,bg,cS,bI hi,bH,dMe,evC_known e,aE,aj,eg,Bool.not_true,aG,wS (show i<bX by omega)]
 ·rw[aM];simp only[qi,dJ,aG]
def Xo {b:Nat}(x:Ac)(h:SzT b x)(hm:b+9<=m)(hl:b<bX):Ω m 37 [.p x.e,.p x.e,.box 0 0,.box 1 0] hpT=some (pB true,hpT):=by
 replace hm:=aH hm;obtain⟨m,rfl,hm⟩:=hm;apply X9 m x.r x.r;unfold I9;have h1:=abd (m:=m) x.fields h.2.2.1 h.1 (by omega) hl;have h2:=abf (m:=m) x.methods h.2.2.2 h.2.1 (by omega) hl;simp only[Ac.r,K8,az,evC_known h1,evC_known h2,aE,aj,eg]
def abj {b:Nat}(l:List Ac)(h:∀x∈l,SzT b x)(hb:l.length<=b)(hm:b+10<=m)(hl:b<bX):Ω m 36 [pL 3 (l.map Ac.e),pL 3 (l.map Ac.e),.fn 37 [.box 0 0,.box 1 0]] hpT=some (pB true,hpT):=by
 replace hm:=aH hm;obtain⟨m,rfl,hm⟩:=hm;apply abu m (l.map Ac.e) (l.map Ac.e);unfold XI;rw[nD,Bool.not_true,aG,lζ];refine iw l (fun q i=>itL (ql _ m _ _) q (l.map Ac.e,l.map Ac.e,(l.length:Int),i)) _ (fun q i hi=>?_) (fun q=>?_) (by omega)
 ·rw[aM];have e:=Xo (m:=m) l[i] (h _ (lπ hi)) (by omega) hl;simp only[Ac.e]at e;simp only[ql,fd (show((i:Int)<(l.length:Int)) by omega),az,bg,cS,bI hi,bH,dAc,evC_known e,aE,aj,eg,Bool.not_true,aG,wS (show i<bX by omega)]
 ·rw[aM];simp only[ql,dJ,aG]
def Ŝ {b:Nat}(l:List Ac)(h:SzP b l)(hm:b+11<=m)(hl:b<bX):Ω m 12 [.p (.agg [.slice 3 (l.map Ac.e)]),.p (.agg [.slice 3 (l.map Ac.e)])] []=some (pB true,[]):=by
 replace hm:=aH hm;obtain⟨m,rfl,hm⟩:=hm;apply Ŭ m ⟨l.map Ac.e⟩ ⟨l.map Ac.e⟩;unfold Rc;have h1:=abj (m:=m) l h.2 h.1 (by omega) hl;simp only[evC_known h1,aE,aj,eg]
def cm:Nat:=1000000000
def Wb (o:LN)(nd:List No):cG:=⟨o.length,nd.map No.e,o.map tv⟩
def cF (c:cG)(K:cG->R):bh c.hp K=K c:=rfl
def afd (c:PwC)(K:PwC->R):aaJ c.hp K=K c:=rfl
def Kq {n:Nat}(h:n<cm):cO n 1=true:=ef (by unfold cm at h;omega) (by omega)
def aaj (o s:LN)(nd:List No):cG.mk (List.length (o.map tv++s.map tv)) (nd.map No.e) (o.map tv++s.map tv)=Wb (o++s) nd:=by
 unfold Wb;simp
def kV (t:LN):Nat:=bif bv t [123]||(bv t [125]||bv t [59])then 10 else 32
def av:List LN->LN
 |[]=>[]
 |t::r=>t++kV t::av r
def aJ (a b:List LN):av (a++b)=av a++av b:=by
 induction a with
 |nil=>rfl
 |cons x r ih=>simp only[List.cons_append,av,ih,lε]
def Q2 (c:cG)(hm:1<=m):Ω m 89 [.box 0 0] c.hp=some (.tup [],c.hp):=by
 replace hm:=aH hm;obtain⟨m,rfl,hm⟩:=hm;exact Di m c _ rfl
def Xh (s o:LN)(nd:List No)(hm:2<=m)(hl:o.length+s.length<cm):Ω m 56 [.box 0 0,pS s] (Wb o nd).hp=some (.tup [pI s.length,.p .nilif],(Wb (o++s) nd).hp):=by
 replace hm:=aH hm;obtain⟨m,rfl,hm⟩:=hm;apply yL m (Wb o nd) s;unfold pm;simp only[evC_known (Q2 (m:=m) (Wb o nd) hm),cF];have h1:Nat.beq (Wb o nd).bu (Wb o nd).ou.length=true:=by unfold Wb;simp
 have h2:cO ((Wb o nd).ou.length+(s.map fun b=>Da.int .u8 (Int.ofNat b)).length) 1=true:=Kq (by unfold Wb;simp_all);rw[h1,az,h2,az];exact congrArg (fun c:cG=>some (D.tup [pI s.length,.p .nilif],c.hp)) (aaj o s nd)
def IR (b:Nat)(o:LN)(nd:List No)(hm:2<=m)(hl:o.length+1<cm):Ω m 57 [.box 0 0,.p (.int .u8 (b:Int))] (Wb o nd).hp=some (.p .nilif,(Wb (o++[b]) nd).hp):=by
 replace hm:=aH hm;obtain⟨m,rfl,hm⟩:=hm;apply FX m (Wb o nd) (b:Int);unfold tN;simp only[evC_known (Q2 (m:=m) (Wb o nd) hm),cF];have h1:Nat.beq (Wb o nd).bu (Wb o nd).ou.length=true:=by unfold Wb;simp
 have h2:cO ((Wb o nd).ou.length+[Da.int .u8 (b:Int)].length) 1=true:=Kq (by unfold Wb;simp_all);rw[h1,az,h2,az];exact congrArg (fun c:cG=>some (D.p .nilif,c.hp)) (aaj o [b] nd)
def Xg (s:LN)(nd:List No)(hm:2<=m)(hl:s.length<cm):Ω m 56 [.box 0 0,pS s] (zg.mk (nd.map No.e)).hp=some (.tup [pI s.length,.p .nilif],(Wb s nd).hp):=by
 replace hm:=aH hm;obtain⟨m,rfl,hm⟩:=hm;apply yJ m (zg.mk (nd.map No.e)) s;unfold pj;replace hm:=aH hm;obtain⟨m,rfl,hm⟩:=hm;have hc:Ω (m+1) 89 [.box 0 0] (zg.mk (nd.map No.e)).hp=some (.tup [],(PwC.mk (nd.map No.e)).hp):=Dh m _ _ rfl;have h2:cO (0+(s.map fun b=>Da.int .u8 (Int.ofNat b)).length) 1=true:=Kq (by simp_all);simp only[evC_known hc,aL,ah,afd,h2,az];have:cG.mk (List.length (s.map fun b=>Da.int .u8 (Int.ofNat b))) (nd.map No.e) (s.map fun b=>Da.int .u8 (Int.ofNat b))=Wb s nd:=by rw[lζ];rfl
 simp_all
def Cd {m:Nat}(ts:List LN)(nd:List No)(hm:2<=m)(hb:ts.length<bX)(k0:LD×Int×Int×Bool×Nat×LD×LD->R):∀(r:List LN) (q i:Nat) (o:LN),ts.drop i=r->r.length<q->i<=ts.length->o.length+(av r).length<cm->
  L_yputB_1 (cE lay0.tab m) m k0 q (ts.map .str,(ts.length:Int),(i:Int),(Wb o nd).bu,(Wb o nd).ns,(Wb o nd).ou)=k0 (ts.map .str,(ts.length:Int),(ts.length:Int),false,(Wb (o++av r) nd).bu,(Wb (o++av r) nd).ns,(Wb (o++av r) nd).ou)
 |[],q,i,o,hd,hq,hi,hl=>by
  cases q with
  |zero=>omega
  |succ q=>
   have hil:i=ts.length:=by
    grind
   subst hil;rw[AG];simp only[nq,dJ,aG,av,lν]
 |t::r,q,i,o,hd,hq,hi,hl=>by
  cases q with
  |zero=>omega
  |succ q=>
   have hlt:i<ts.length:=by
    grind
   rw[lι hlt]at hd;injection hd with ht hd;simp only[av,lα,List.length_cons]at hl;simp at hq;have ih:=Cd ts nd hm hb k0 r q (i+1) (o++t++[kV t]) hd (by omega) hlt (by grind);have hw:(cG.mk (Wb o nd).bu (Wb o nd).ns (Wb o nd).ou)=Wb o nd:=rfl;have e1:=evC_known (Xh (m:=m) t o nd hm (by omega));have hfin:o++t++[kV t]++av r=o++av (t::r):=by simp only[av,lε,List.cons_append,List.nil_append]
   rw[AG];simp only[nq,fd (show((i:Int)<(ts.length:Int)) by omega),bg,cS,bI hlt,bH,cV,ht,e1,aL,iR,aE,aW,nB,ah,cF,jo,wS (show i<bX by omega)];have kX:∀b:Nat,b=kV t->(cE lay0.tab m 57 [.box 0 0,.p (.int .u8 (b:Int))] (Wb (o++t) nd).hp fun d19 o20=>dk (.p .nilif) d19<|bh o20 fun u21=>L_yputB_1 (cE lay0.tab m) m k0 q (ts.map .str,(ts.length:Int),((i+1:Nat):Int),u21.bu,u21.ns,u21.ou))=k0 (ts.map .str,(ts.length:Int),(ts.length:Int),false,(Wb (o++av (t::r)) nd).bu,(Wb (o++av (t::r)) nd).ns,(Wb (o++av (t::r)) nd).ou):=fun b hbs=>by
    subst hbs;have e2:=evC_known (IR (m:=m) (kV t) (o++t) nd hm (by grind));simp only[e2,nB,cF];simp_all
   unfold kV at kX;cases a1:bv t [123]<;>cases a2:bv t [125]<;>cases a3:bv t [59]<;>simp only[az,aG]<;>first|simp_all|rfl
def gw (ts:List LN)(o:LN)(nd:List No)(hm:ts.length+3<=m)(hb:ts.length<bX)(hl:o.length+(av ts).length<cm):Ω m 22 [.box 0 0,pL 1 (ts.map .str)] (Wb o nd).hp=some (.tup [],(Wb (o++av ts) nd).hp):=by
 replace hm:=aH hm;obtain⟨m,rfl,hm⟩:=hm;apply Ŵ m (Wb o nd) (ts.map .str);unfold Rl;rw[lζ];exact Cd ts nd (by omega) hb _ ts m 0 o rfl (by omega) (Nat.zero_le _) hl
def aeh (n:Nat)(f:Nat->R):pl (n+1) f=f n:=rfl
def abb (s t u:LN)(nd:List No)(hm:6<=m)(hl:(av [s,t,u]).length<cm):Ω m 22 [.box 0 0,pL 1 [.str s,.str t,.str u]] (zg.mk (nd.map No.e)).hp=some (.tup [],(Wb (av [s,t,u]) nd).hp):=by
 replace hm:=aH hm;obtain⟨m,rfl,hm⟩:=hm;apply ų m (zg.mk (nd.map No.e)) s t u;unfold Rk;replace hm:=aH hm;obtain⟨m,rfl,hm⟩:=hm;rw[aeh];have hl':=hl;simp only[av,lα,List.length_cons,List.length_nil]at hl';have e1:=evC_known (Xg (m:=m+1) s nd (by omega) (by omega));simp only[e1,aL,iR,aE,aW,nB,ah,cF];have kX:∀b:Nat,b=kV s->(cE lay0.tab (m+1) 57 [.box 0 0,.p (.int .u8 (b:Int))] (Wb s nd).hp fun d19 o20=>dk (.p .nilif) d19<|bh o20 fun u21=>ib (cE lay0.tab (m+1)) (m+1) (fun(l50,i51,i52,b53,n54,l55,l56)=>some ((.tup []),(cG.mk n54 l55 l56).hp)) m ([Da.str s,Da.str t,Da.str u],↑(List.length [Da.str s,Da.str t,Da.str u]),1,u21.bu,u21.ns,u21.ou))=some (.tup [],(Wb (av [s,t,u]) nd).hp):=fun b hbs=>by
  subst hbs;have e2:=evC_known (IR (m:=m+1) (kV s) s nd (by omega) (by omega));simp only[e2,nB,cF];have e3:=Cd (m:=m+1) [s,t,u] nd (by omega) (by show 3<bX;decide) (fun(l50,i51,i52,b53,n54,l55,l56)=>some ((.tup []),(cG.mk n54 l55 l56).hp)) [t,u] m 1 (s++[kV s]) rfl (by grind) (by simp) (by simp only[av,lα,List.length_cons,List.length_nil];omega);refine e3.trans ?_;have:s++[kV s]++av [t,u]=av [s,t,u]:=by simp only[av,lε,List.cons_append,List.nil_append]
  rw[this]
 unfold kV at kX;cases a1:bv s [123]<;>cases a2:bv s [125]<;>cases a3:bv s [59]<;>simp only[az,aG]<;>first|simp_all|rfl
def ct (k:Int):LN:=kindL.getD (k.toNat - 1) []
def oc (k:Int)(hm:1<=m)(hk:1<=k/\k<=5):Ω m 23 [pI k] []=some (pS (ct k),[]):=by
 replace hm:=aH hm;obtain⟨m,rfl,hm⟩:=hm;have:k=1\/k=2\/k=3\/k=4\/k=5:=by omega
 rcases this with rfl|rfl|rfl|rfl|rfl<;>rfl
def afn (m:Nat)(n:Int):Ω (m+1) 90 [pI n] []=nQ [.int .i64 n]:=by rfl
def W6 (n:Int)(hm:1<=m)(h: -9223372036854775808<=n/\n<=9223372036854775807):Ω m 90 [pI n] []=some (pS (ew n),[]):=by
 replace hm:=aH hm;obtain⟨m,rfl,hm⟩:=hm;rw[afn];simp only[nQ,ji h.1,ji h.2,Bool.and_self,cond_true]
def iA (i:Int):List LN:=bif aO i 0 then[[45],ew (-i)]else[ew i]
def zL (i:Int)(o:LN)(nd:List No)(hm:5<=m)(h: -9223372036854775808<i/\i<=9223372036854775807)(hl:o.length+(av (iA i)).length<cm):Ω m 58 [.box 0 0,pI i] (Wb o nd).hp=some (.tup [],(Wb (o++av (iA i)) nd).hp):=by
 replace hm:=aH hm;obtain⟨m,rfl,hm⟩:=hm;apply JX m (Wb o nd) i;unfold xA;unfold iA at hl ⊢
 cases hi:aO i 0 with
 |true=>
  rw[hi,cond_true]at hl;simp only[av,lα,List.length_cons,List.length_nil]at hl;have e1:=evC_known (gw (m:=m) [[45]] o nd (by omega) (by decide) (by simp only[av,lα,List.length_cons,List.length_nil];omega));have hw:ae .i64 (0 - i)= -i:=by rw[Int.zero_sub];exact cz (by omega) (by omega)
  have e2:=evC_known (W6 (m:=m) (-i) (by omega) (by omega));have e3:=evC_known (gw (m:=m) [ew (-i)] (o++av [[45]]) nd (by omega) (by show 1<bX;decide) (by simp only[av,lα,List.length_cons,List.length_nil];omega));simp at e1 e3;simp only[e1,cF,hw,e2,jL,aE,fo,e3,lε];rfl
 |false=>
  rw[hi,cond_false]at hl;have e2:=evC_known (W6 (m:=m) i (by omega) (by omega));have e3:=evC_known (gw (m:=m) [ew i] o nd (by omega) (by show 1<bX;decide) hl);simp at e3;simp only[aG,e2,jL,aE,fo,ah,e3,aL,cF,cond_false]
def bU:Nat->List (List LN)->List LN
 |_,[]=>[]
 |0,w::r=>w++bU 1 r
 |i+1,w::r=>[44]::(w++bU (i+2) r)
def bp (ws:List (List LN)):List LN:=[40]::(bU 0 ws++[[41]])
def adN (c:Ru)(K:Ru->R):KT c.hp K=K c:=rfl
def afg (c:ŧ)(K:ŧ->R):ZH c.hp K=K c:=rfl
def afi (c:ō)(K:ō->R):ZJ c.hp K=K c:=rfl
def adM (c:IH)(K:IH->R):KS c.hp K=K c:=rfl
def aff (c:NP)(K:NP->R):R2 c.hp K=K c:=rfl
def afh (c:Ur)(K:Ur->R):R3 c.hp K=K c:=rfl
def Hh {m:Nat}(v:Va)(nd:List No)(ws:List (List LN))(hm:4<=m)(hb:ws.length<bX)
  (hel:∀(j:Nat) (h:j<ws.length) (o:LN),o.length+(av ws[j]).length<cm->Ω m 60 [pI (j:Int),.box 0 0,.box 3 0] [.box [.box 1 0],.box [.box 1 0,.arr 2 0 (Wb o nd).bu 1,pL 8 (Wb o nd).ns],.byt (Wb o nd).ou,v.r.b]=some (.tup [],(Ru.mk (Wb (o++av ws[j]) nd).bu (Wb (o++av ws[j]) nd).ns v.r.Kind v.r.N v.r.S v.r.I v.r.L (Wb (o++av ws[j]) nd).ou).hp))
  (k0:Int×Int×Bool×Nat×LD×aB×LD->R):∀(r:List (List LN)) (q i:Nat) (o:LN),ws.drop i=r->r.length<q->i<=ws.length->o.length+(av (bU i r)).length<cm->
  itL (jt (cE lay0.tab m) m k0) q ((ws.length:Int),(i:Int),(Wb o nd).bu,(Wb o nd).ns,v.r,(Wb o nd).ou)=k0 ((ws.length:Int),(ws.length:Int),false,(Wb (o++av (bU i r)) nd).bu,(Wb (o++av (bU i r)) nd).ns,v.r,(Wb (o++av (bU i r)) nd).ou)
 |[],q,i,o,hd,hq,hi,hl=>by
  cases q with
  |zero=>omega
  |succ q=>
   have hil:i=ws.length:=by
    grind
   subst hil;rw[aM];simp only[jt,dJ,aG,bU,av,lν]
 |w::r,q,i,o,hd,hq,hi,hl=>by
  cases q with
  |zero=>omega
  |succ q=>
   have hlt:i<ws.length:=by
    grind
   rw[lι hlt]at hd;injection hd with ht hd;simp at hq;have hel0:=hel;have hel:=hel i hlt;rw[ht]at hel;rw[aM];cases i with
   |zero=>
    simp only[bU,aJ,lα]at hl;have e1:=evC_known (hel o (by omega));have ih:=Hh v nd ws hm hb hel0 k0 r q 1 (o++av w) hd (by omega) hlt (by grind);simp only[jt,fd (show(((0:Nat):Int)<(ws.length:Int)) by omega),az,show aO 0 ((0:Nat):Int)=false from rfl,aG,wS (show 0<bX by decide),bU,aJ];refine(e1 _).trans ?_;simp only[aL,ah,adN];simp_all
   |succ i=>
    simp only[bU,av,aJ,lα,List.length_cons]at hl;have e0:=evC_known (gw (m:=m) [[44]] o nd (by omega) (by decide) (by simp only[av,lα,List.length_cons,List.length_nil];omega));have e1:=evC_known (hel (o++av [[44]]) (by simp only[av,lα,List.length_cons,List.length_nil];omega));have ih:=Hh v nd ws hm hb hel0 k0 r q (i+2) (o++av [[44]]++av w) hd (by omega) hlt (by simp only[av,lα,List.length_cons,List.length_nil];omega);simp at e0;have hw:(cG.mk (Wb o nd).bu (Wb o nd).ns (Wb o nd).ou)=Wb o nd:=rfl;simp only[jt,fd (show(((i+1:Nat):Int)<(ws.length:Int)) by omega),az,fd (show(0:Int)<((i+1:Nat):Int) by omega),wS (show i+1<bX by omega),e0,aL,ah,cF,bU,aJ];refine(e1 _).trans ?_;refine ih.trans ?_;simp only[av,aJ,lε,List.cons_append,List.nil_append]
def ŕ (v:Va)(nd:List No)(ws:List (List LN))(o:LN)(hm:ws.length+5<=m)(hb:ws.length<bX)(hl:o.length+(av (bp ws)).length<cm)(hel:∀(j:Nat) (h:j<ws.length) (o:LN),o.length+(av ws[j]).length<cm->Ω (m - 1) 60 [pI (j:Int),.box 0 0,.box 3 0] [.box [.box 1 0],.box [.box 1 0,.arr 2 0 (Wb o nd).bu 1,pL 8 (Wb o nd).ns],.byt (Wb o nd).ou,v.r.b]=some (.tup [],(Ru.mk (Wb (o++av ws[j]) nd).bu (Wb (o++av ws[j]) nd).ns v.r.Kind v.r.N v.r.S v.r.I v.r.L (Wb (o++av ws[j]) nd).ou).hp)):
  Ω m 25 [.box 0 0,pI (ws.length:Int),.fn 60 [.box 1 0,.box 2 0]] (IH.mk (Wb o nd).bu (Wb o nd).ns v.r.Kind v.r.N v.r.S v.r.I v.r.L (Wb o nd).ou).hp=some (.tup [],(IH.mk (Wb (o++av (bp ws)) nd).bu (Wb (o++av (bp ws)) nd).ns v.r.Kind v.r.N v.r.S v.r.I v.r.L (Wb (o++av (bp ws)) nd).ou).hp):=by
 replace hm:=aH hm;obtain⟨m,rfl,hm⟩:=hm;apply Yj m (IH.mk (Wb o nd).bu (Wb o nd).ns v.r.Kind v.r.N v.r.S v.r.I v.r.L (Wb o nd).ou) (ws.length:Int);unfold Jk;simp only[bp,av,aJ,lα,List.length_cons,List.length_nil]at hl;have e0:=evC_known (gw (m:=m) [[40]] o nd (by grind) (by decide) (by simp only[av,lα,List.length_cons,List.length_nil];omega));have e2:=evC_known (gw (m:=m) [[41]] (o++av [[40]]++av (bU 0 ws)) nd (by grind) (by decide) (by simp only[av,lα,List.length_cons,List.length_nil];omega));simp only[List.map_cons,List.map_nil]at e0 e2;have hw:∀o,(cG.mk (Wb o nd).bu (Wb o nd).ns (Wb o nd).ou)=Wb o nd:=fun _=>rfl
 simp only[e0,cF];refine(Hh v nd ws (by omega) hb hel _ ws m 0 (o++av [[40]]) rfl (by omega) (Nat.zero_le _) (by simp only[av,lα,List.length_cons,List.length_nil];omega)).trans ?_;simp only[e2,cF];have hfin:o++av [[40]]++av (bU 0 ws)++av [[41]]=o++av (bp ws):=by simp only[bp,av,aJ,lε,List.cons_append,List.nil_append]
 rw[hfin];try rfl
def Hk {m:Nat}(v:Va)(nd:List No)(ws:List (List LN))(hm:4<=m)(hb:ws.length<bX)
  (hel:∀(j:Nat) (h:j<ws.length) (o:LN),o.length+(av ws[j]).length<cm->Ω m 61 [pI (j:Int),.box 0 0,.box 3 0] [.box [.box 1 0],.box [.box 1 0,.arr 2 0 (Wb o nd).bu 1,pL 8 (Wb o nd).ns],.byt (Wb o nd).ou,v.r.b]=some (.tup [],(Ru.mk (Wb (o++av ws[j]) nd).bu (Wb (o++av ws[j]) nd).ns v.r.Kind v.r.N v.r.S v.r.I v.r.L (Wb (o++av ws[j]) nd).ou).hp))
  (k0:Int×Int×Bool×Nat×LD×aB×LD->R):∀(r:List (List LN)) (q i:Nat) (o:LN),ws.drop i=r->r.length<q->i<=ws.length->o.length+(av (bU i r)).length<cm->
  itL (jw (cE lay0.tab m) m k0) q ((ws.length:Int),(i:Int),(Wb o nd).bu,(Wb o nd).ns,v.r,(Wb o nd).ou)=k0 ((ws.length:Int),(ws.length:Int),false,(Wb (o++av (bU i r)) nd).bu,(Wb (o++av (bU i r)) nd).ns,v.r,(Wb (o++av (bU i r)) nd).ou)
 |[],q,i,o,hd,hq,hi,hl=>by
  cases q with
  |zero=>omega
  |succ q=>
   have hil:i=ws.length:=by
    grind
   subst hil;rw[aM];simp only[jw,dJ,aG,bU,av,lν]
 |w::r,q,i,o,hd,hq,hi,hl=>by
  cases q with
  |zero=>omega
  |succ q=>
   have hlt:i<ws.length:=by
    grind
   rw[lι hlt]at hd;injection hd with ht hd;simp at hq;have hel0:=hel;have hel:=hel i hlt;rw[ht]at hel;rw[aM];cases i with
   |zero=>
    simp only[bU,aJ,lα]at hl;have e1:=evC_known (hel o (by omega));have ih:=Hk v nd ws hm hb hel0 k0 r q 1 (o++av w) hd (by omega) hlt (by grind);simp only[jw,fd (show(((0:Nat):Int)<(ws.length:Int)) by omega),az,show aO 0 ((0:Nat):Int)=false from rfl,aG,wS (show 0<bX by decide),bU,aJ];refine(e1 _).trans ?_;simp only[aL,ah,adN];simp_all
   |succ i=>
    simp only[bU,av,aJ,lα,List.length_cons]at hl;have e0:=evC_known (gw (m:=m) [[44]] o nd (by omega) (by decide) (by simp only[av,lα,List.length_cons,List.length_nil];omega));have e1:=evC_known (hel (o++av [[44]]) (by simp only[av,lα,List.length_cons,List.length_nil];omega));have ih:=Hk v nd ws hm hb hel0 k0 r q (i+2) (o++av [[44]]++av w) hd (by omega) hlt (by simp only[av,lα,List.length_cons,List.length_nil];omega);simp at e0;have hw:(cG.mk (Wb o nd).bu (Wb o nd).ns (Wb o nd).ou)=Wb o nd:=rfl;simp only[jw,fd (show(((i+1:Nat):Int)<(ws.length:Int)) by omega),az,fd (show(0:Int)<((i+1:Nat):Int) by omega),wS (show i+1<bX by omega),e0,aL,ah,cF,bU,aJ];refine(e1 _).trans ?_;refine ih.trans ?_;simp only[av,aJ,lε,List.cons_append,List.nil_append]
def Ř (v:Va)(nd:List No)(ws:List (List LN))(o:LN)(hm:ws.length+5<=m)(hb:ws.length<bX)(hl:o.length+(av (bp ws)).length<cm)(hel:∀(j:Nat) (h:j<ws.length) (o:LN),o.length+(av ws[j]).length<cm->Ω (m - 1) 61 [pI (j:Int),.box 0 0,.box 3 0] [.box [.box 1 0],.box [.box 1 0,.arr 2 0 (Wb o nd).bu 1,pL 8 (Wb o nd).ns],.byt (Wb o nd).ou,v.r.b]=some (.tup [],(Ru.mk (Wb (o++av ws[j]) nd).bu (Wb (o++av ws[j]) nd).ns v.r.Kind v.r.N v.r.S v.r.I v.r.L (Wb (o++av ws[j]) nd).ou).hp)):
  Ω m 25 [.box 0 0,pI (ws.length:Int),.fn 61 [.box 1 0,.box 2 0]] (IH.mk (Wb o nd).bu (Wb o nd).ns v.r.Kind v.r.N v.r.S v.r.I v.r.L (Wb o nd).ou).hp=some (.tup [],(IH.mk (Wb (o++av (bp ws)) nd).bu (Wb (o++av (bp ws)) nd).ns v.r.Kind v.r.N v.r.S v.r.I v.r.L (Wb (o++av (bp ws)) nd).ou).hp):=by
 replace hm:=aH hm;obtain⟨m,rfl,hm⟩:=hm;apply Ym m (IH.mk (Wb o nd).bu (Wb o nd).ns v.r.Kind v.r.N v.r.S v.r.I v.r.L (Wb o nd).ou) (ws.length:Int);unfold Jn;simp only[bp,av,aJ,lα,List.length_cons,List.length_nil]at hl;have e0:=evC_known (gw (m:=m) [[40]] o nd (by grind) (by decide) (by simp only[av,lα,List.length_cons,List.length_nil];omega));have e2:=evC_known (gw (m:=m) [[41]] (o++av [[40]]++av (bU 0 ws)) nd (by grind) (by decide) (by simp only[av,lα,List.length_cons,List.length_nil];omega));simp only[List.map_cons,List.map_nil]at e0 e2;have hw:∀o,(cG.mk (Wb o nd).bu (Wb o nd).ns (Wb o nd).ou)=Wb o nd:=fun _=>rfl
 simp only[e0,cF];refine(Hk v nd ws (by omega) hb hel _ ws m 0 (o++av [[40]]) rfl (by omega) (Nat.zero_le _) (by simp only[av,lα,List.length_cons,List.length_nil];omega)).trans ?_;simp only[e2,cF];have hfin:o++av [[40]]++av (bU 0 ws)++av [[41]]=o++av (bp ws):=by simp only[bp,av,aJ,lε,List.cons_append,List.nil_append]
 rw[hfin];try rfl
def Hi {m:Nat}(ks:LD)(nd:List No)(ws:List (List LN))(hm:4<=m)(hb:ws.length<bX)
  (hel:∀(j:Nat) (h:j<ws.length) (o:LN),o.length+(av ws[j]).length<cm->Ω m 92 [pI (j:Int),.box 0 0,.box 3 0] (Ŧ.mk (Wb o nd).bu (Wb o nd).ns (Wb o nd).ou ks).hp=some (.tup [],(ŧ.mk (Wb (o++av ws[j]) nd).bu (Wb (o++av ws[j]) nd).ns ks (Wb (o++av ws[j]) nd).ou).hp))
  (k0:Int×Int×Bool×Nat×LD×LD×LD->R):∀(r:List (List LN)) (q i:Nat) (o:LN),ws.drop i=r->r.length<q->i<=ws.length->o.length+(av (bU i r)).length<cm->
  itL (ju (cE lay0.tab m) m k0) q ((ws.length:Int),(i:Int),(Wb o nd).bu,(Wb o nd).ns,ks,(Wb o nd).ou)=k0 ((ws.length:Int),(ws.length:Int),false,(Wb (o++av (bU i r)) nd).bu,(Wb (o++av (bU i r)) nd).ns,ks,(Wb (o++av (bU i r)) nd).ou)
 |[],q,i,o,hd,hq,hi,hl=>by
  cases q with
  |zero=>omega
  |succ q=>
   have hil:i=ws.length:=by
    grind
   subst hil;rw[aM];simp only[ju,dJ,aG,bU,av,lν]
 |w::r,q,i,o,hd,hq,hi,hl=>by
  cases q with
  |zero=>omega
  |succ q=>
   have hlt:i<ws.length:=by
    grind
   rw[lι hlt]at hd;injection hd with ht hd;simp at hq;have hel0:=hel;have hel:=hel i hlt;rw[ht]at hel;rw[aM];cases i with
   |zero=>
    simp only[bU,aJ,lα]at hl;have e1:=evC_known (hel o (by omega));have ih:=Hi ks nd ws hm hb hel0 k0 r q 1 (o++av w) hd (by omega) hlt (by grind);simp only[ju,fd (show(((0:Nat):Int)<(ws.length:Int)) by omega),az,show aO 0 ((0:Nat):Int)=false from rfl,aG,wS (show 0<bX by decide),bU,aJ];refine(e1 _).trans ?_;simp only[aL,ah,afg];simp_all
   |succ i=>
    simp only[bU,av,aJ,lα,List.length_cons]at hl;have e0:=evC_known (gw (m:=m) [[44]] o nd (by omega) (by decide) (by simp only[av,lα,List.length_cons,List.length_nil];omega));have e1:=evC_known (hel (o++av [[44]]) (by simp only[av,lα,List.length_cons,List.length_nil];omega));have ih:=Hi ks nd ws hm hb hel0 k0 r q (i+2) (o++av [[44]]++av w) hd (by omega) hlt (by simp only[av,lα,List.length_cons,List.length_nil];omega);simp at e0;have hw:(cG.mk (Wb o nd).bu (Wb o nd).ns (Wb o nd).ou)=Wb o nd:=rfl;simp only[ju,fd (show(((i+1:Nat):Int)<(ws.length:Int)) by omega),az,fd (show(0:Int)<((i+1:Nat):Int) by omega),wS (show i+1<bX by omega),e0,aL,ah,cF,bU,aJ];refine(e1 _).trans ?_;refine ih.trans ?_;simp only[av,aJ,lε,List.cons_append,List.nil_append]
def Ŗ (ks:LD)(nd:List No)(ws:List (List LN))(o:LN)(hm:ws.length+5<=m)(hb:ws.length<bX)(hl:o.length+(av (bp ws)).length<cm)(hel:∀(j:Nat) (h:j<ws.length) (o:LN),o.length+(av ws[j]).length<cm->Ω (m - 1) 92 [pI (j:Int),.box 0 0,.box 3 0] (Ŧ.mk (Wb o nd).bu (Wb o nd).ns (Wb o nd).ou ks).hp=some (.tup [],(ŧ.mk (Wb (o++av ws[j]) nd).bu (Wb (o++av ws[j]) nd).ns ks (Wb (o++av ws[j]) nd).ou).hp)):
  Ω m 25 [.box 0 0,pI (ws.length:Int),.fn 92 [.box 1 0,.box 2 0]] (NP.mk (Wb o nd).bu (Wb o nd).ns ks (Wb o nd).ou).hp=some (.tup [],(NP.mk (Wb (o++av (bp ws)) nd).bu (Wb (o++av (bp ws)) nd).ns ks (Wb (o++av (bp ws)) nd).ou).hp):=by
 replace hm:=aH hm;obtain⟨m,rfl,hm⟩:=hm;apply Yk m (NP.mk (Wb o nd).bu (Wb o nd).ns ks (Wb o nd).ou) (ws.length:Int);unfold Jl;simp only[bp,av,aJ,lα,List.length_cons,List.length_nil]at hl;have e0:=evC_known (gw (m:=m) [[40]] o nd (by grind) (by decide) (by simp only[av,lα,List.length_cons,List.length_nil];omega));have e2:=evC_known (gw (m:=m) [[41]] (o++av [[40]]++av (bU 0 ws)) nd (by grind) (by decide) (by simp only[av,lα,List.length_cons,List.length_nil];omega));simp only[List.map_cons,List.map_nil]at e0 e2;have hw:∀o,(cG.mk (Wb o nd).bu (Wb o nd).ns (Wb o nd).ou)=Wb o nd:=fun _=>rfl
 simp only[e0,cF];refine(Hi ks nd ws (by omega) hb hel _ ws m 0 (o++av [[40]]) rfl (by omega) (Nat.zero_le _) (by simp only[av,lα,List.length_cons,List.length_nil];omega)).trans ?_;simp only[e2,aL,ah,cF];have hfin:o++av [[40]]++av (bU 0 ws)++av [[41]]=o++av (bp ws):=by simp only[bp,av,aJ,lε,List.cons_append,List.nil_append]
 simp_all
def Hj {m:Nat}(x:Me)(nd:List No)(ws:List (List LN))(hm:4<=m)(hb:ws.length<bX)
  (hel:∀(j:Nat) (h:j<ws.length) (o:LN),o.length+(av ws[j]).length<cm->Ω m 26 [pI (j:Int),.box 0 0,.box 3 0] [.box [.box 1 0],.box [.box 1 0,.arr 2 0 (Wb o nd).bu 1,pL 8 (Wb o nd).ns],.byt (Wb o nd).ou,x.r.b]=some (.tup [],(ō.mk (Wb (o++av ws[j]) nd).bu (Wb (o++av ws[j]) nd).ns x.r.Name x.r.Params x.r.Result x.r.Nodes (Wb (o++av ws[j]) nd).ou).hp))
  (k0:Int×Int×Bool×Nat×LD×bf×LD->R):∀(r:List (List LN)) (q i:Nat) (o:LN),ws.drop i=r->r.length<q->i<=ws.length->o.length+(av (bU i r)).length<cm->
  itL (jv (cE lay0.tab m) m k0) q ((ws.length:Int),(i:Int),(Wb o nd).bu,(Wb o nd).ns,x.r,(Wb o nd).ou)=k0 ((ws.length:Int),(ws.length:Int),false,(Wb (o++av (bU i r)) nd).bu,(Wb (o++av (bU i r)) nd).ns,x.r,(Wb (o++av (bU i r)) nd).ou)
 |[],q,i,o,hd,hq,hi,hl=>by
  cases q with
  |zero=>omega
  |succ q=>
   have hil:i=ws.length:=by
    grind
   subst hil;rw[aM];simp only[jv,dJ,aG,bU,av,lν]
 |w::r,q,i,o,hd,hq,hi,hl=>by
  cases q with
  |zero=>omega
  |succ q=>
   have hlt:i<ws.length:=by
    grind
   rw[lι hlt]at hd;injection hd with ht hd;simp at hq;have hel0:=hel;have hel:=hel i hlt;rw[ht]at hel;rw[aM];cases i with
   |zero=>
    simp only[bU,aJ,lα]at hl;have e1:=evC_known (hel o (by omega));have ih:=Hj x nd ws hm hb hel0 k0 r q 1 (o++av w) hd (by omega) hlt (by grind);simp only[jv,fd (show(((0:Nat):Int)<(ws.length:Int)) by omega),az,show aO 0 ((0:Nat):Int)=false from rfl,aG,wS (show 0<bX by decide),bU,aJ];refine(e1 _).trans ?_;simp only[aL,ah,afi];simp_all
   |succ i=>
    simp only[bU,av,aJ,lα,List.length_cons]at hl;have e0:=evC_known (gw (m:=m) [[44]] o nd (by omega) (by decide) (by simp only[av,lα,List.length_cons,List.length_nil];omega));have e1:=evC_known (hel (o++av [[44]]) (by simp only[av,lα,List.length_cons,List.length_nil];omega));have ih:=Hj x nd ws hm hb hel0 k0 r q (i+2) (o++av [[44]]++av w) hd (by omega) hlt (by simp only[av,lα,List.length_cons,List.length_nil];omega);simp at e0;have hw:(cG.mk (Wb o nd).bu (Wb o nd).ns (Wb o nd).ou)=Wb o nd:=rfl;simp only[jv,fd (show(((i+1:Nat):Int)<(ws.length:Int)) by omega),az,fd (show(0:Int)<((i+1:Nat):Int) by omega),wS (show i+1<bX by omega),e0,aL,ah,cF,bU,aJ];refine(e1 _).trans ?_;refine ih.trans ?_;simp only[av,aJ,lε,List.cons_append,List.nil_append]
def ŗ (x:Me)(nd:List No)(ws:List (List LN))(o:LN)(hm:ws.length+5<=m)(hb:ws.length<bX)(hl:o.length+(av (bp ws)).length<cm)(hel:∀(j:Nat) (h:j<ws.length) (o:LN),o.length+(av ws[j]).length<cm->Ω (m - 1) 26 [pI (j:Int),.box 0 0,.box 3 0] [.box [.box 1 0],.box [.box 1 0,.arr 2 0 (Wb o nd).bu 1,pL 8 (Wb o nd).ns],.byt (Wb o nd).ou,x.r.b]=some (.tup [],(ō.mk (Wb (o++av ws[j]) nd).bu (Wb (o++av ws[j]) nd).ns x.r.Name x.r.Params x.r.Result x.r.Nodes (Wb (o++av ws[j]) nd).ou).hp)):
  Ω m 25 [.box 0 0,pI (ws.length:Int),.fn 26 [.box 1 0,.box 2 0]] (Ur.mk (Wb o nd).bu (Wb o nd).ns x.r.Name x.r.Params x.r.Result x.r.Nodes (Wb o nd).ou).hp=some (.tup [],(Ur.mk (Wb (o++av (bp ws)) nd).bu (Wb (o++av (bp ws)) nd).ns x.r.Name x.r.Params x.r.Result x.r.Nodes (Wb (o++av (bp ws)) nd).ou).hp):=by
 replace hm:=aH hm;obtain⟨m,rfl,hm⟩:=hm;apply Yl m (Ur.mk (Wb o nd).bu (Wb o nd).ns x.r.Name x.r.Params x.r.Result x.r.Nodes (Wb o nd).ou) (ws.length:Int);unfold Jm;simp only[bp,av,aJ,lα,List.length_cons,List.length_nil]at hl;have e0:=evC_known (gw (m:=m) [[40]] o nd (by grind) (by decide) (by simp only[av,lα,List.length_cons,List.length_nil];omega));have e2:=evC_known (gw (m:=m) [[41]] (o++av [[40]]++av (bU 0 ws)) nd (by grind) (by decide) (by simp only[av,lα,List.length_cons,List.length_nil];omega));simp only[List.map_cons,List.map_nil]at e0 e2;have hw:∀o,(cG.mk (Wb o nd).bu (Wb o nd).ns (Wb o nd).ou)=Wb o nd:=fun _=>rfl
 simp only[e0,cF];refine(Hj x nd ws (by omega) hb hel _ ws m 0 (o++av [[40]]) rfl (by omega) (Nat.zero_le _) (by simp only[av,lα,List.length_cons,List.length_nil];omega)).trans ?_;simp only[e2,cF];have hfin:o++av [[40]]++av (bU 0 ws)++av [[41]]=o++av (bp ws):=by simp only[bp,av,aJ,lε,List.cons_append,List.nil_append]
 rw[hfin];try rfl
end
end Go.Ab
