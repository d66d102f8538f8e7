import Derived.Test.YtbgddkffhndjcaaGreatDoorKg1
import Derived.Test.YtbgddkffhndjcaaGreatDoorOg3
import Derived.Test.YtbgddkffhndjcaaGreatDoorKg0
set_option linter.all false
section
namespace Go.Ab
open Go
set_option maxRecDepth 100000
noncomputable section
def PS.rem (s:PS):Nat:=s.tk.length - s.ps
theorem Ad.rem {s t:PS}(h:Ad s t):t.rem≤s.rem:=by have:=h.ps;unfold PS.rem;rw[h.tk];omega
theorem Ad.rem1 {s t:PS}(h:Ad s t)(i:Iv t)(g:s.ps<t.ps):t.rem+1≤s.rem:=by have:=i.le;unfold PS.rem;rw[h.tk]at*;omega
def Tot {α:Type}(b:Nat)(p:PM α)(Q:α→PS→Prop):Prop:=∀s,Iv s→s.rem≤b→Tt s s p (fun a t=>Q a t∧(t.ok=true→s.ps<t.ps))
abbrev eN (b:Nat)(p:PM Int):Prop:=Tot b p Ix
theorem Tot.le {α:Type}{b c:Nat}{p:PM α}{Q:α→PS→Prop}(h:Tot b p Q)(hc:c≤b):Tot c p Q:=fun s i hr=>h s i (by omega)
theorem Tt.snoc {α:Type}{s0 s:PS}{p:PM α}{l:List α}{Q:α→PS→Prop}(h:Tt s0 s p Q)(hl:l.length<1000000):Tt s0 s (snoc p l) (fun l' t=>∃x,l'=l++[x]∧Q x t):=by
 obtain⟨x,t,h1,h2,h3,h4⟩:=h;refine⟨l++[x],t,?_,h2,h3,x,rfl,h4⟩;unfold Go.Ab.snoc;simp only[PM.bnd,h1,mχ hl,cond_true]
def Rw {α:Type}(Q:α→PS→Prop)(l:List α)(t:PS):Prop:=l.length≤t.ps+1∧∀x∈l,Q x t
theorem Pn {α:Type}{b:Nat}{begins:PS→Bool}{p:PM α}{most:Nat}{Q:α→PS→Prop}(hQ:∀x s t,Q x s→Ad s t→Q x t)(hp:Tot b p Q):∀(q n:Nat) (l:List α) (s0 s:PS),Iv s→Ad s0 s→s.rem+1≤q→s.rem≤b→l.length≤s.ps→(∀x∈l,Q x s)→
  Tt s0 s (j9 begins (snoc p) most q n l) (Rw Q)
 |0,n,l,s0,s,i,a,h1,_,_,_=>by omega
 |q+1,n,l,s0,s,i,a,h1,h2,h3,h4=>by
  have h6:=i.le;have h7:=i.len;unfold j9;refine Tt.cok (fun hk=>?_) (fun hk=>Tt.ret i a ⟨by omega,h4⟩);have hg:Iv (bif !begins s then s.fail 13 else bif Nat.beq n most then s.fail 5 else s)∧Ad s (bif !begins s then s.fail 13 else bif Nat.beq n most then s.fail 5 else s)∧(bif !begins s then s.fail 13 else bif Nat.beq n most then s.fail 5 else s).ps=s.ps:=by
   cases begins s with
   |false=>exact⟨i.fail 13,eO s (by decide),(jO s 13).2.2.1⟩
   |true=>
    cases Nat.beq n most with
    |true=>exact⟨i.fail 5,eO s (by decide),(jO s 5).2.2.1⟩
    |false=>exact⟨i,Ad.refl s,rfl⟩
  have hlf:Tt s0 s (lf fun s=>((),bif !begins s then s.fail 13 else bif Nat.beq n most then s.fail 5 else s)) (fun _ t=>t=(bif !begins s then s.fail 13 else bif Nat.beq n most then s.fail 5 else s)):=by
   refine⟨(),_,?_,hg.1,a.trans hg.2.1,rfl⟩;unfold lf;rw[i.sz,cond_true]
  refine hlf.bnd fun _ s1 i1 a1 e1=>?_
  obtain⟨g1,g2,g3⟩:=hg;rw[←e1]at g1 g2 g3;have hr1:=g2.rem;refine(Tt.snoc (Tt.of a1 (hp s1 i1 (by omega)) fun x t ha hx=>And.intro hx ha) (by omega)).bnd fun l' s2 i2 a2 h5=>?_
  obtain⟨x,rfl,⟨hx,hps⟩,ha⟩:=h5;have hq2:∀y∈l++[x],Q y s2:=fun y hy=>by
   rcases mδ.1 hy with hy|hy
   ·exact hQ y _ _ (h4 y hy) (g2.trans ha)
   ·simp only[List.mem_singleton]at hy;subst hy;exact hx
  have hpsa:=ha.ps;refine Tt.cnd i2 (fun hc=>?_) (fun hc=>Tt.ret i2 a2 ⟨by rw[lπ,List.length_singleton];omega,hq2⟩);have hok:=Cl hc;have hps:=hps hok;refine(Tt.up i2 a2 (dG i2.sz hc)).bnd fun _ s3 i3 a3 h6=>?_
  have hr3:=h6.1.ad.rem1 i3 (by omega);have hr2:=ha.rem;exact Pn hQ hp q (n+1) (l++[x]) s0 s3 i3 a3 (by omega) (by omega) (by rw[lπ,List.length_singleton];omega) (fun y hy=>hQ y _ _ (hq2 y hy) h6.1.ad)
theorem vo {α:Type}{b:Nat}{begins:PS→Bool}{p:PM α}{most q:Nat}{Q:α→PS→Prop}(hQ:∀x s t,Q x s→Ad s t→Q x t)(hp:Tot b p Q){s0 s:PS}(i:Iv s)(a:Ad s0 s)(hq:s.rem+1≤q)(hb:s.rem≤b):
  Tt s0 s (B2 begins (snoc p) most q []) (Rw Q):=by
 unfold B2;exact Tt.cnd i (fun _=>Tt.ret i a ⟨by simp,by simp⟩) fun _=>Pn hQ hp q 0 [] s0 s i a hq hb (by simp) (by simp)
theorem EP {b:Nat}{ex:PM Int}{ops:List (List Nat)}(he:eN b ex):∀(q:Nat) (x:Int) (s0 s:PS),Iv s0→Iv s→Ad s0 s→Ix x s→s.rem+1≤q→s.rem≤b→(s.ok=true→s0.ps<s.ps)→
  Tt s0 s (eF ex ops q x) (fun a t=>Ix a t∧(t.ok=true→s0.ps<t.ps))
 |0,x,s0,s,i0,i,a,hx,h1,_,_=>by omega
 |q+1,x,s0,s,i0,i,a,hx,h1,h2,h3=>by
  unfold eF;refine Tt.fnO i (Tt.ret i a ⟨hx,h3⟩) fun o ho=>?_
  refine(Tt.up i a (dG i.sz ho)).bnd fun _ s1 i1 a1 h4=>?_
  have hr1:=h4.1.ad.rem1 i1 (by omega);have hn1:s1.nd.length=s.nd.length:=by rw[h4.1.nd]
  refine(Tt.of a1 (he s1 i1 (by omega)) fun y t ha hy=>And.intro hy ha).bnd fun y s2 i2 a2 h5=>?_
  obtain⟨⟨hy,hps⟩,ha⟩:=h5;have hde:=ha.de;have hde0:=a.de;have hx2:=(hx.mono h4.1.ad).mono ha;have hps2:=ha.ps;have hr2:=ha.rem;have a0ps:=a.ps;refine(Tt.add i0 i2 a2 (fun hk=>?_) (fun hk=>?_) (by simp)).bnd fun z s3 i3 a3 h6=>?_
  ·omega
  ·intro k hk';simp only[lψ,List.not_mem_nil,or_false]at hk';rcases hk' with rfl|rfl
   ·exact hx2 hk
   ·exact hy hk
  ·have hr3:s3.rem=s2.rem:=by unfold PS.rem;rw[h6.2.1,a3.tk,a2.tk]
   exact EP he q z s0 s3 i0 i3 a3 h6.1 (by omega) (by omega) (fun hk=>by rw[h6.2.1];omega)
theorem om {b q:Nat}{ex:PM Int}(ops:List (List Nat))(he:eN b ex)(hq:b+1≤q):eN b (gu ex ops q):=by
 intro s i hr;unfold gu;refine(he s i hr).bnd fun x t i1 a1 h=>?_
 have:=a1.rem;exact EP he q x s t i i1 a1 h.1 (by omega) (by omega) h.2
theorem QA {b:Nat}{sum:PM Int}(he:eN b sum):eN b (Fp sum):=by
 intro s i hr;unfold Fp;refine(he s i hr).bnd fun x s1 i1 a1 h=>?_
 have hr1:=a1.rem;refine Tt.fnO i1 (Tt.ret i1 a1 h) fun o ho=>?_
 refine(Tt.up i1 a1 (dG i1.sz ho)).bnd fun _ s2 i2 a2 h4=>?_
 have hr2:=h4.1.ad.rem;have hn1:s2.nd.length=s1.nd.length:=by rw[h4.1.nd]
 refine(Tt.of a2 (he s2 i2 (by omega)) fun y t ha hy=>And.intro hy ha).bnd fun y s3 i3 a3 h5=>?_
 obtain⟨⟨hy,hps⟩,ha⟩:=h5;have hde:=ha.de;have hde0:=a1.de;have hx2:=(h.1.mono h4.1.ad).mono ha;have hps3:=a3.ps;have e1:=a1.ps;refine(Tt.add i i3 a3 (fun hk=>by omega) (fun hk=>?_) (by simp)).imp fun z t _ _ h6=>⟨h6.1,fun hk=>by rw[h6.2.1];rw[h6.2.2.1]at hk;have:=hps hk;omega⟩
 intro k hk';simp only[lψ,List.not_mem_nil,or_false]at hk';rcases hk' with rfl|rfl
 ·exact hx2 hk
 ·exact hy hk
theorem Rw.le {α:Type}{Q:α→PS→Prop}{l:List α}{t:PS}(h:Rw Q l t)(i:Iv t):l.length≤6001:=by have:=h.1;have:=i.le;have:=i.len;omega
theorem tv {b q:Nat}{ex:PM Int}(he:eN b ex)(hq:b+1≤q){s0 s:PS}(i:Iv s)(a:Ad s0 s)(hr:s.rem≤b+1)(hr':s.ok=true→s.rem≤b+1):Tt s0 s (oL ex q) (fun l t=>Ad s t∧(t.ok=true→s.ps<t.ps)∧l.length≤6001∧∀x∈l,Ix x t):=by
 unfold oL;refine(Tt.opn i a [40]).bnd fun _ s1 i1 a1 h1=>?_
 cases hk:s1.ok with
 |true=>
  have hr1:=h1.ad.rem1 i1 (by have:=h1.st hk;omega);refine(Tt.of a1 (vo (b:=b) (Q:=Ix) (s0:=s1) (fun x s t h g=>Ix.mono h g) he i1 (Ad.refl s1) (by omega) (by omega)) fun l t ha hl=>And.intro hl ha).bnd fun l s2 i2 a2 h2=>?_
  refine(Tt.cls i2 a2 [41]).bnd fun _ s3 i3 a3 h3=>?_
  refine Tt.ret i3 a3 ⟨h1.ad.trans (h2.2.trans h3.ad),fun hk3=>?_,h2.1.le i2,fun x hx=>(h2.1.2 x hx).mono h3.ad⟩
  have:=h1.st hk;have:=h2.2.ps;have:=h3.ad.ps;omega
 |false=>
  have hn:∀x,s1.is x=false:=fun x=>by
   cases hx:s1.is x with
   |false=>rfl
   |true=>rw[Cl hx]at hk;cases hk
  have e1:∀q',0<q'→B2 PS.begins (snoc ex) 16 q' [] s1=some ([],s1):=fun q' hq'=>by
   obtain⟨q',rfl⟩:∃k,q'=k+1:=⟨q' - 1,by omega⟩
   unfold B2 cnd j9 cok PM.ret;simp only[i1.sz,hn,hk,cond_true,cond_false]
  have hT:Tt s0 s1 (B2 PS.begins (snoc ex) 16 q []) (fun l t=>l=[]∧t=s1):=⟨[],s1,e1 q (by omega),i1,a1,rfl,rfl⟩;refine hT.bnd fun l s2 i2 a2 h2=>?_
  obtain⟨rfl,rfl⟩:=h2;refine(Tt.cls i2 a2 [41]).bnd fun _ s3 i3 a3 h3=>?_
  exact Tt.ret i3 a3 ⟨h1.ad.trans h3.ad,fun hk3=>(by rw[h3.ad.ok hk3]at hk;cases hk),by simp,by simp⟩
theorem Jr {b:Nat}{fac:PM Int}(he:eN b fac)(o:List Nat){s:PS}(i:Iv s)(hr:s.rem≤b+1):Tt s s (UC o fac) (fun a t=>Ix a t∧(t.ok=true→s.ps<t.ps)):=by
 unfold UC;refine(Tt.opn i (Ad.refl s) o).bnd fun _ s1 i1 a1 h1=>?_
 have hx:Tt s s1 (cok fac (.ret 0)) (fun x t=>Ix x t∧Ad s1 t):=by
  refine Tt.cok (fun hk=>?_) (fun hk=>Tt.ret i1 a1 ⟨fun k=>(by rw[hk]at k;cases k),Ad.refl s1⟩);have hr1:=h1.ad.rem1 i1 (by have:=h1.st hk;omega);exact Tt.of a1 (he s1 i1 (by omega)) fun x t ha hx=>⟨hx.1,ha⟩
 refine hx.bnd fun x s2 i2 a2 h2=>?_
 have hd:Tt s s2 pDec (fun _ t=>t={s2 with ne:=aj .i64 (s2.ne - 1)}):=⟨(),_,rfl,i2.ne _,Ud a2 _,rfl⟩;refine hd.bnd fun _ s3 i3 a3 h3=>?_
 subst h3;have hde:=h2.2.de;have hde1:=a1.de;have hps:=h2.2.ps;refine(Tt.add i i3 a3 (fun hk=>?_) (fun hk=>?_) (by simp)).imp fun z t _ _ h6=>⟨h6.1,fun hk=>?_⟩
 ·have:=h1.st (h2.2.ok hk);have hn1:s1.nd.length=s.nd.length:=by rw[h1.nd]
  show s2.nd.length+s.ps+1≤s.nd.length+s2.ps;omega
 ·intro k hk';simp only[lψ,List.not_mem_nil,or_false]at hk';subst hk';exact h2.1 hk
 ·rw[h6.2.1];rw[h6.2.2.1]at hk;have:=h1.st (h2.2.ok hk);show s.ps<s2.ps;omega
end
end Go.Ab
end
section
namespace Go.Ab
open Go
set_option maxRecDepth 100000
noncomputable section
theorem Tt.addE {s0 s:PS}{x:No}(i0:Iv s0)(i:Iv s)(a:Ad s0 s)(hsl:s.ok=true→s.nd.length+s0.ps+1≤s0.nd.length+s.ps)(hk:s.ok=true→lw s.nd.length x.kids)(hl:x.kids.length<10000):
  Tt s0 s (ea x) (fun b t=>Ix b t∧(t.ok=true→s0.ps<t.ps)):=
 (Tt.add i0 i a hsl hk hl).imp fun z t _ _ h6=>⟨h6.1,fun hk=>by rw[h6.2.2.1]at hk;have:=hsl hk;have:=a.nd;rw[h6.2.1];omega⟩
theorem QB {b:Nat}{fac pr:PM Int}(hf:eN b fac)(hp:eN (b+1) pr):eN (b+1) (zw fac pr):=by
 intro s i hr;unfold zw;exact Tt.cnd i (fun _=>Jr hf _ i hr) fun _=>Tt.cnd i (fun _=>Jr hf _ i hr) fun _=>hp s i hr
theorem Qo {s:PS}(hk:s.ok=false)(x:List Nat):s.is x=false:=by
 cases hx:s.is x with
 |false=>rfl
 |true=>rw[Cl hx]at hk;cases hk
theorem LI {b q:Nat}{ex:PM Int}(he:eN b ex)(hq:b+1≤q):eN (b+1) (jv ex q):=by
 intro s i hr;unfold jv;have a0:=Ad.refl s;have kz:∀{k:Int},k≠0→eqI (s.peek 0).k k=true→s.ps<s.tk.length:=fun hk h=>by
  rw[cF,lβ]at h;exact jS i.sz 0 (by rw[h];exact hk)
 have lit:∀(x:No),x.kids=[]→∀(h:s.ps<s.tk.length),Tt s s (pUp.bnd fun _=>ea x) (fun a t=>Ix a t∧(t.ok=true→s.ps<t.ps)):=fun x hx h=>by
  refine(Tt.up i a0 h).bnd fun _ s1 i1 a1 h1=>?_
  refine Tt.addE i i1 a1 (fun _=>?_) (fun _ k hk=>?_) (by rw[hx];simp)
  ·have:=h1.2;rw[h1.1.nd];omega
  ·rw[hx]at hk;cases hk
 refine Tt.cnd i (fun hc=>?_) fun hc=>?_
 ·rw[lγ]at hc;refine(Tt.pek i a0).bnd fun x s1 i1 a1 h1=>?_
  obtain⟨rfl,rfl⟩:=h1;exact lit _ rfl (kz (by decide) hc.1)
 refine Tt.cnd i (fun hc=>?_) fun hc=>?_
 ·have hp:s.ps<s.tk.length:=by
   rw[mμ,mμ]at hc;rcases hc with h|h|h
   ·exact kz (by decide) h
   ·exact dG i.sz h
   ·exact dG i.sz h
  refine(Tt.pek i a0).bnd fun x s1 i1 a1 h1=>?_
  obtain⟨rfl,rfl⟩:=h1;refine(Tt.up i1 a1 hp).bnd fun _ s2 i2 a2 h2=>?_
  have hr2:=h2.1.ad.rem1 i2 (by have:=h2.2;omega);refine(tv he hq i2 a2 (by omega) (fun _=>by omega)).bnd fun l s3 i3 a3 h3=>?_
  have hde:=h3.1.de;refine Tt.addE i1 i3 a3 (fun _=>?_) (fun hk k hk'=>h3.2.2.2 k hk' hk) (by have:=h3.2.2.1;simp only[];omega);have:=h2.2;have hn:s2.nd.length=s1.nd.length:=by rw[h2.1.nd]
  omega
 refine Tt.cnd i (fun hc=>?_) fun hc=>?_
 ·refine(Tt.pek i a0).bnd fun x s1 i1 a1 h1=>?_
  obtain⟨rfl,rfl⟩:=h1;exact lit _ rfl (kz (by decide) hc)
 refine Tt.cnd i (fun hc=>?_) fun hc=>?_
 ·have hcst:Tt s s (iK fun _=>none) (fun v t=>t=s.up∧s.ps<s.tk.length):=by
   have hp:s.ps<s.tk.length:=by
    rw[mμ,mμ]at hc;rcases hc with h|h|h
    ·exact kz (by decide) h
    ·exact dG i.sz h
    ·exact dG i.sz h
   have L:∀g:PS→Va,Tt s s (lf fun s=>(g s,s.up)) (fun v t=>t=s.up∧s.ps<s.tk.length):=fun g=>by
    refine⟨g s,s.up,?_,i.up hp,qE s,rfl,hp⟩;unfold lf;rw[i.sz,cond_true]
   unfold iK;refine Tt.cnd i (fun h1=>L _) fun h1=>Tt.cnd i (fun h2=>L _) fun h2=>Tt.cnd i (fun h3=>L _) fun h3=>?_
   rw[h1,h2,h3]at hc;cases hc
  refine hcst.bnd fun v s1 i1 a1 h1=>?_
  obtain⟨rfl,hp⟩:=h1;refine Tt.addE i i1 a1 (fun _=>?_) (fun _ k hk=>by cases hk) (by simp);show s.nd.length+s.ps+1≤s.nd.length+(s.ps+1);omega
 refine Tt.cnd i (fun hc=>lit _ rfl (dG i.sz hc)) fun hc=>?_
 refine Tt.cnd i (fun hc=>?_) fun hc=>?_
 ·refine(Tt.opn i a0 _).bnd fun _ s1 i1 a1 h1=>?_
  have hx:Tt s s1 (cok ex (.ret 0)) (fun x t=>Ix x t∧Ad s1 t):=by
   refine Tt.cok (fun hk=>?_) (fun hk=>Tt.ret i1 a1 ⟨fun k=>(by rw[hk]at k;cases k),Ad.refl s1⟩);have hr1:=h1.ad.rem1 i1 (by have:=h1.st hk;omega);exact Tt.of a1 (he s1 i1 (by omega)) fun x t ha hx=>⟨hx.1,ha⟩
  refine hx.bnd fun x s2 i2 a2 h2=>?_
  refine(Tt.cls i2 a2 _).bnd fun _ s3 i3 a3 h3=>?_
  refine Tt.ret i3 a3 ⟨h2.1.mono h3.ad,fun hk=>?_⟩
  have:=h1.st (h2.2.ok (h3.ad.ok hk));have:=h2.2.ps;have:=h3.ad.ps;omega
 ·refine(Tt.fail i a0 (by decide)).bnd fun _ s1 i1 a1 h1=>?_
  exact Tt.ret i1 a1 ⟨fun k=>(by rw[h1.2]at k;cases k),fun k=>(by rw[h1.2]at k;cases k)⟩
theorem sQ {q:Nat}:∀(b:Nat),b+1≤q→∀lvl,lvl≤6→∀f,7*b+(7 - lvl)≤f→eN b (ku q f lvl)
 |b,hq=>by
  -- the innermost first
  have lo:∀f,7*b+1≤f→eN b (ku q f 6):=by
   intro f hf;obtain⟨f,rfl⟩:∃k,f=k+1:=⟨f - 1,by omega⟩
   show eN b (jv (ku q f 0) q);cases b with
   |zero=>
    intro s i hr;have hps:¬s.ps<s.tk.length:=by unfold PS.rem at hr;omega
    have n0:∀x,s.is x=false:=fun x=>by
     cases hx:s.is x with
     |false=>rfl
     |true=>exact absurd (dG i.sz hx) hps
    have n1:s.peek 0=tk0:=by
     unfold PS.peek;rw[lε (by omega)];cases s.ok<;>rfl
    have e:jv (ku q f 0) q s=((rB 13).bnd fun _=>PM.ret 0) s:=by
     unfold jv cnd;simp only[i.sz,cond_true,n0,n1];rfl
    unfold Tt;rw[e];refine(Tt.fail i (Ad.refl s) (by decide)).bnd fun _ s1 i1 a1 h1=>?_
    exact Tt.ret i1 a1 ⟨fun k=>(by rw[h1.2]at k;cases k),fun k=>(by rw[h1.2]at k;cases k)⟩
   |succ b=>exact LI (sQ b (by omega) 0 (by omega) f (by omega)) (by omega)
  have l5:∀f,7*b+2≤f→eN b (ku q f 5):=by
   intro f hf;obtain⟨f,rfl⟩:∃k,f=k+1:=⟨f - 1,by omega⟩
   show eN b (zw (ku q f 5) (ku q f 6));cases b with
   |zero=>
    intro s i hr;have hps:¬s.ps<s.tk.length:=by unfold PS.rem at hr;omega
    have n0:∀x,s.is x=false:=fun x=>by
     cases hx:s.is x with
     |false=>rfl
     |true=>exact absurd (dG i.sz hx) hps
    unfold zw;exact Tt.cnd i (fun h=>by rw[n0]at h;cases h) fun _=>Tt.cnd i (fun h=>by rw[n0]at h;cases h) fun _=>lo f (by omega) s i hr
   |succ b=>exact QB (sQ b (by omega) 5 (by omega) f (by omega)) (lo f (by omega))
  have l4:∀f,7*b+3≤f→eN b (ku q f 4):=by
   intro f hf;obtain⟨f,rfl⟩:∃k,f=k+1:=⟨f - 1,by omega⟩
   exact om _ (l5 f (by omega)) hq
  have l3:∀f,7*b+4≤f→eN b (ku q f 3):=by
   intro f hf;obtain⟨f,rfl⟩:∃k,f=k+1:=⟨f - 1,by omega⟩
   exact om _ (l4 f (by omega)) hq
  have l2:∀f,7*b+5≤f→eN b (ku q f 2):=by
   intro f hf;obtain⟨f,rfl⟩:∃k,f=k+1:=⟨f - 1,by omega⟩
   exact QA (l3 f (by omega))
  have l1:∀f,7*b+6≤f→eN b (ku q f 1):=by
   intro f hf;obtain⟨f,rfl⟩:∃k,f=k+1:=⟨f - 1,by omega⟩
   exact om _ (l2 f (by omega)) hq
  have l0:∀f,7*b+7≤f→eN b (ku q f 0):=by
   intro f hf;obtain⟨f,rfl⟩:∃k,f=k+1:=⟨f - 1,by omega⟩
   exact om _ (l1 f (by omega)) hq
  intro lvl hl f hf;match lvl,hl,hf with
  |0,_,hf=>exact l0 f (by omega)
  |1,_,hf=>exact l1 f (by omega)
  |2,_,hf=>exact l2 f (by omega)
  |3,_,hf=>exact l3 f (by omega)
  |4,_,hf=>exact l4 f (by omega)
  |5,_,hf=>exact l5 f (by omega)
  |6,_,hf=>exact lo f (by omega)
end
end Go.Ab
end
section
namespace Go.Ab
open Go
set_option maxRecDepth 100000
noncomputable section
def Cs (s t:PS):Prop:=t.ok=true→s.ps<t.ps
theorem Cs.then {a b c:PS}(h:Cs a b)(g:Ad b c):Cs a c:=fun k=>by have:=h (g.ok k);have:=g.ps;omega
theorem Lf.cs {s t:PS}(h:Lf s t):Cs s t:=fun k=>by have:=h.st k;omega
theorem Tot.at {α:Type}{b:Nat}{p:PM α}{Q:α→PS→Prop}(h:Tot b p Q){s0 s:PS}(i:Iv s)(a:Ad s0 s)(hr:s.rem≤b):Tt s0 s p (fun x t=>Q x t∧Cs s t∧Ad s t):=
 Tt.of a (h s i hr) fun x t ha hx=>⟨hx.1,hx.2,ha⟩
theorem LG {b q:Nat}{ex:PM Int}(he:eN b ex)(hq:b+1≤q){s0 s:PS}(i:Iv s)(a:Ad s0 s)(hr:s.rem≤b):Tt s s (rA ex q) (fun x t=>Ix x t∧Cs s t):=by
 unfold rA;refine(Tt.exp i (Ad.refl s) _).bnd fun _ s1 i1 a1 h1=>?_
 refine(Tt.nam i1 a1).bnd fun n s2 i2 a2 h2=>?_
 refine(Tt.opn i2 a2 _).bnd fun _ s3 i3 a3 h3=>?_
 refine(he.at i3 a3 (by have:=a3.rem;omega)).bnd fun key s4 i4 a4 h4=>?_
 refine(Tt.cls i4 a4 _).bnd fun _ s5 i5 a5 h5=>?_
 refine(Tt.exp i5 a5 _).bnd fun _ s6 i6 a6 h6=>?_
 refine(Tt.nam i6 a6).bnd fun nm s7 i7 a7 h7=>?_
 refine(tv he hq i7 a7 (by have:=a7.rem;omega) (fun _=>by have:=a7.rem;omega)).bnd fun l s8 i8 a8 h8=>?_
 have g:=h8.1;have d1:s1.nd.length=s.nd.length:=by rw[h1.nd]
 have d2:s2.nd.length=s1.nd.length:=by rw[h2.nd]
 have d3:s3.nd.length=s2.nd.length:=by rw[h3.nd]
 have d4:=h4.2.2.de;have d5:s5.nd.length=s4.nd.length:=by rw[h5.nd]
 have d6:s6.nd.length=s5.nd.length:=by rw[h6.nd]
 have d7:s7.nd.length=s6.nd.length:=by rw[h7.nd]
 have d8:=h8.1.de;have p4:=h4.2.2.ps;refine Tt.addE i i8 a8 (fun hk=>?_) (fun hk=>?_) (by have:=h8.2.2.1;simp only[List.length_cons];omega)
 ·have k7:=g.ok hk;have k6:=h7.ad.ok k7;have k5:=h6.ad.ok k6;have k4:=h5.ad.ok k5;have k3:=h4.2.2.ok k4;have k2:=h3.ad.ok k3;have k1:=h2.ad.ok k2;have:=h1.st k1;have:=h2.st k2;have:=h3.st k3;have:=h5.st k5;have:=h6.st k6;have:=h7.st k7;omega
 ·intro k hk';rcases lψ.1 hk' with rfl|hk'
  ·exact(((h4.1.mono h5.ad).mono h6.ad).mono h7.ad).mono g hk
  ·exact h8.2.2.2 k hk' hk
theorem yg {b q:Nat}{ex:PM Int}(he:eN b ex)(hq:b+1≤q){s0 s:PS}(i:Iv s)(a:Ad s0 s)(hr:s.rem≤b):Tt s0 s (tz ex q) (fun x t=>Ix x t∧Cs s t∧Ad s t):=by
 refine Tt.of a (Q:=fun x t=>Ix x t∧Cs s t) ?_ (fun x t ha hx=>⟨hx.1,hx.2,ha⟩);unfold tz;refine(Tt.exp i (Ad.refl s) _).bnd fun _ s1 i1 a1 h1=>?_
 refine Tt.cnd i1 (fun hc=>?_) (fun hc=>?_)
 ·exact Tt.of a1 (LG he hq i1 a1 (by have:=a1.rem;omega)) fun x t ha hx=>⟨hx.1,h1.cs.then ha⟩
 ·exact Tt.of a1 (he s1 i1 (by have:=a1.rem;omega)) fun x t ha hx=>⟨hx.1,h1.cs.then ha⟩
theorem AE {b:Nat}{ex:PM Int}(he:eN b ex):∀(n:Nat) (l:List Int) (s0 s:PS),Iv s→Ad s0 s→s.rem≤b→l.length+n<100→(∀x∈l,Ix x s)→Tt s0 s (ru ex n l) (fun l' t=>Ad s t∧l'.length<100∧∀x∈l',Ix x t)
 |0,l,s0,s,i,a,hr,hl,h=>Tt.ret i a ⟨Ad.refl s,by omega,h⟩
 |n+1,l,s0,s,i,a,hr,hl,h=>by
  unfold ru;have step:∀s1,Iv s1→Ad s0 s1→Ad s s1→Tt s0 s1 ((snoc ex l).bnd (ru ex n)) (fun l' t=>Ad s t∧l'.length<100∧∀x∈l',Ix x t):=by
   intro s1 i1 a1 g1;refine(Tt.snoc (he.at i1 a1 (by have:=g1.rem;omega)) (by omega)).bnd fun l1 s2 i2 a2 h2=>?_
   obtain⟨x,rfl,hx,-,ha⟩:=h2;refine(AE he n (l++[x]) s0 s2 i2 a2 (by have:=g1.rem;have:=ha.rem;omega) (by rw[lπ,List.length_singleton];omega) fun y hy=>?_).imp fun l' t _ _ h3=>⟨(g1.trans ha).trans h3.1,h3.2⟩
   rcases mδ.1 hy with hy|hy
   ·exact((h y hy).mono g1).mono ha
   ·simp only[List.mem_singleton]at hy;subst hy;exact hx
  cases l.isEmpty with
  |true=>exact step s i a (Ad.refl s)
  |false=>exact(Tt.exp i a _).bnd fun _ s1 i1 a1 h1=>step s1 i1 a1 h1.ad
theorem QC {b:Nat}{ex:PM Int}(he:eN b ex)(n:Nat)(hn:n<100){s0 s:PS}(i:Iv s)(a:Ad s0 s)(hr:s.rem≤b):Tt s0 s (Fq ex n) (fun l t=>Ad s t∧l.length<100∧∀x∈l,Ix x t):=by
 unfold Fq;refine(Tt.opn i a _).bnd fun _ s1 i1 a1 h1=>?_
 refine(AE he n [] s0 s1 i1 a1 (by have:=h1.ad.rem;omega) (by simp;omega) (by simp)).bnd fun l s2 i2 a2 h2=>?_
 refine(Tt.cls i2 a2 _).bnd fun _ s3 i3 a3 h3=>?_
 exact Tt.ret i3 a3 ⟨h1.ad.trans (h2.1.trans h3.ad),h2.2.1,fun x hx=>(h2.2.2 x hx).mono h3.ad⟩
theorem ye {x:No}{s0 s:PS}(i0:Iv s0)(i:Iv s)(a:Ad s0 s)(hk:s.ok=true→lw s.nd.length x.kids)(hl:x.kids.length<10000):Tt s0 s (lU x) (fun b t=>Ix b t∧Cs s0 t):=by
 unfold lU;refine(Tt.exp i a _).bnd fun _ s1 i1 a1 h1=>?_
 have d1:s1.nd.length=s.nd.length:=by rw[h1.nd]
 have d2:=a.de;refine Tt.addE i0 i1 a1 (fun k=>by have:=h1.st k;omega) (fun k=>?_) hl;rw[d1];exact hk (h1.ad.ok k)
abbrev Xe (b:Nat)(p:PM Int):Prop:=eN b p
theorem AG {b:Nat}{ex bl:PM Int}(he:eN b ex)(hb:Xe b bl)(op:Int){s0 s:PS}(i0:Iv s0)(i:Iv s)(a:Ad s0 s)(hr:s.rem≤b):Tt s0 s (AF op ex bl) (fun x t=>Ix x t∧Cs s0 t):=by
 unfold AF;refine(Tt.opn i a _).bnd fun _ s1 i1 a1 h1=>?_
 refine(he.at i1 a1 (by have:=h1.ad.rem;omega)).bnd fun c s2 i2 a2 h2=>?_
 refine(Tt.cls i2 a2 _).bnd fun _ s3 i3 a3 h3=>?_
 refine(hb.at i3 a3 (by have:=h1.ad.rem;have:=h2.2.2.rem;have:=h3.ad.rem;omega)).bnd fun b s4 i4 a4 h4=>?_
 have d0:=a.de;have d1:s1.nd.length=s.nd.length:=by rw[h1.nd]
 have d2:=h2.2.2.de;have d3:s3.nd.length=s2.nd.length:=by rw[h3.nd]
 have d4:=h4.2.2.de;have c4:=(h2.1.mono h3.ad).mono h4.2.2;have sl:∀s5,Ad s4 s5→s5.nd.length+s4.ps≤s4.nd.length+s5.ps→s5.ok=true→s5.nd.length+s0.ps+1≤s0.nd.length+s5.ps:=by
  intro s5 g hd hk;have k3:=h4.2.2.ok (g.ok hk);have k2:=h3.ad.ok k3;have k1:=h2.2.2.ok k2;have:=h1.st k1;have:=h3.st k3;omega
 have two:∀s5,Iv s5→Ad s0 s5→Ad s4 s5→Tt s0 s5 (ea ⟨op,[],vz,[c,b]⟩) (fun x t=>Ix x t∧Cs s0 t):=by
  intro s5 i5 a5 g;refine Tt.addE i0 i5 a5 (fun hk=>sl s5 g g.de hk) (fun hk k hk'=>?_) (by simp);simp only[lψ,List.not_mem_nil,or_false]at hk';rcases hk' with rfl|rfl
  ·exact(c4.mono g) hk
  ·exact(h4.1.mono g) hk
 cases eqI op 11 with
 |false=>exact two s4 i4 a4 (Ad.refl s4)
 |true=>
  rw[cond_true];refine Tt.cnd i4 (fun hc=>?_) (fun hc=>two s4 i4 a4 (Ad.refl s4));refine(Tt.up i4 a4 (dG i4.sz hc)).bnd fun _ s5 i5 a5 h5=>?_
  refine(hb.at i5 a5 (by have:=h1.ad.rem;have:=h2.2.2.rem;have:=h3.ad.rem;have:=h4.2.2.rem;have:=h5.1.ad.rem;omega)).bnd fun e s6 i6 a6 h6=>?_
  refine Tt.addE i0 i6 a6 (fun hk=>sl s6 (h5.1.ad.trans h6.2.2) (h5.1.ad.trans h6.2.2).de hk) (fun hk k hk'=>?_) (by simp);simp only[lψ,List.not_mem_nil,or_false]at hk';rcases hk' with rfl|rfl|rfl
  ·exact((c4.mono h5.1.ad).mono h6.2.2) hk
  ·exact((h4.1.mono h5.1.ad).mono h6.2.2) hk
  ·exact h6.1 hk
theorem AH {b q:Nat}{ex bl:PM Int}(he:eN b ex)(hb:Xe b bl)(hq:b+1≤q):eN (b+1) (mm ex bl q):=by
 intro s i hr;have a:=Ad.refl s;unfold mm;have kz:∀{k:Int},k≠0→eqI (s.peek 0).k k=true→s.ps<s.tk.length:=fun hk h=>by
  rw[cF,lβ]at h;exact jS i.sz 0 (by rw[h];exact hk)
 -- behind a word
 have word:∀{x:List Nat} {p:PM Int},s.is x=true→(∀s1,Iv s1→Ad s s1→s1.rem≤b→s1.nd.length=s.nd.length→s1.ps=s.ps+1→Tt s s1 p (fun x t=>Ix x t∧Cs s t))→Tt s s (pUp.bnd fun _=>p) (fun a t=>Ix a t∧(t.ok=true→s.ps<t.ps)):=by
  intro x p hx hp;refine(Tt.up i a (dG i.sz hx)).bnd fun _ s1 i1 a1 h1=>?_
  exact hp s1 i1 a1 (by have:=h1.1.ad.rem1 i1 (by have:=h1.2;omega);omega) (by rw[h1.1.nd]) h1.2
 have one:∀(o:Int) (n:List Nat) (v:Va) (x:Int) (s1:PS),Iv s1→Ad s s1→Ix x s1→Tt s s1 (lU ⟨o,n,v,[x]⟩) (fun x t=>Ix x t∧Cs s t):=fun o n v x s1 i1 a1 hx=>
  ye i i1 a1 (fun hk k hk'=>by simp only[lψ,List.not_mem_nil,or_false]at hk';subst hk';exact hx hk) (by simp)
 have non:∀(o:Int) (n:List Nat) (v:Va) (s1:PS),Iv s1→Ad s s1→Tt s s1 (lU ⟨o,n,v,[]⟩) (fun x t=>Ix x t∧Cs s t):=fun o n v s1 i1 a1=>
  ye i i1 a1 (fun hk k hk'=>by cases hk') (by simp)
 have ops:∀(o:Int) (n:Nat),n<100→∀s1,Iv s1→Ad s s1→s1.rem≤b→Tt s s1 ((Fq ex n).bnd fun l=>lU ⟨o,[],vz,l⟩) (fun x t=>Ix x t∧Cs s t):=fun o n hn s1 i1 a1 hr1=>
  (QC he n hn i1 a1 hr1).bnd fun l s2 i2 a2 h2=>ye i i2 a2 (fun hk k hk'=>h2.2.2 k hk' hk) (by have:=h2.2.1;simp only[];omega)
 refine Tt.cnd i (fun hc=>?_) fun hc=>?_
 ·refine word hc fun s1 i1 a1 hr1 _ _=>?_
  refine(Tt.nam i1 a1).bnd fun n s2 i2 a2 h2=>?_
  refine(Tt.exp i2 a2 _).bnd fun _ s3 i3 a3 h3=>?_
  refine(Tt.kind i3 a3).bnd fun k s4 i4 a4 h4=>?_
  refine(yg he hq i4 a4 (by have:=h2.ad.rem;have:=h3.ad.rem;have:=h4.ad.rem;omega)).bnd fun x s5 i5 a5 h5=>?_
  exact one _ _ _ x s5 i5 a5 h5.1
 refine Tt.cnd i (fun hc=>?_) fun hc=>?_
 ·have hps:=kz (by decide) hc;have hnm:Tt s s pName (fun n t=>t=s.up):=by
   refine⟨(s.peek 0).s,s.up,?_,i.up hps,qE s,rfl⟩;unfold pName mo PM.bnd lf PS.take PM.ret;simp only[i.sz,hc,cond_true]
  refine hnm.bnd fun n s1 i1 a1 h1=>?_
  subst h1;refine(yg he hq i1 a1 (by have:=(qE s).rem1 i1 (by show s.ps<s.ps+1;omega);omega)).bnd fun x s5 i5 a5 h5=>?_
  exact one _ _ _ x s5 i5 a5 h5.1
 refine Tt.cnd i (fun hc=>?_) fun hc=>?_
 ·-- a call:it begins with a word,so its inner parts have a token less
  have hcall:Tt s s (rA ex q) (fun x t=>Ix x t∧Cs s t):=by
   unfold rA;have hup:Tt s s (gi [99,97,108,108]) (fun _ t=>t=s.up):=by
    refine⟨(),s.up,?_,i.up (dG i.sz hc),qE s,rfl⟩;unfold gi lf PS.exp;simp only[i.sz,hc,cond_true]
   have hr1:=(qE s).rem1 (i.up (dG i.sz hc)) (by show s.ps<s.ps+1;omega);refine hup.bnd fun _ s1 i1 a1 h1=>?_
   subst h1;refine(Tt.nam i1 a1).bnd fun n s2 i2 a2 h2=>?_
   refine(Tt.opn i2 a2 _).bnd fun _ s3 i3 a3 h3=>?_
   refine(he.at i3 a3 (by have:=h2.ad.rem;have:=h3.ad.rem;omega)).bnd fun key s4 i4 a4 h4=>?_
   refine(Tt.cls i4 a4 _).bnd fun _ s5 i5 a5 h5=>?_
   refine(Tt.exp i5 a5 _).bnd fun _ s6 i6 a6 h6=>?_
   refine(Tt.nam i6 a6).bnd fun nm s7 i7 a7 h7=>?_
   have hr7:s7.rem≤b:=by have:=h2.ad.rem;have:=h3.ad.rem;have:=h4.2.2.rem;have:=h5.ad.rem;have:=h6.ad.rem;have:=h7.ad.rem;omega
   refine(tv he hq i7 a7 (by omega) (fun _=>by omega)).bnd fun l s8 i8 a8 h8=>?_
   have g:=h8.1;have d0:s.up.ps=s.ps+1:=rfl;have d1:s.up.nd.length=s.nd.length:=rfl;have d2:s2.nd.length=s.up.nd.length:=by rw[h2.nd]
   have d3:s3.nd.length=s2.nd.length:=by rw[h3.nd]
   have d4:=h4.2.2.de;have d5:s5.nd.length=s4.nd.length:=by rw[h5.nd]
   have d6:s6.nd.length=s5.nd.length:=by rw[h6.nd]
   have d7:s7.nd.length=s6.nd.length:=by rw[h7.nd]
   have d8:=h8.1.de;have p2:=h2.ad.ps;have p3:=h3.ad.ps;have p5:=h5.ad.ps;have p6:=h6.ad.ps;have p7:=h7.ad.ps;refine Tt.addE i i8 a8 (fun hk=>by omega) (fun hk=>?_) (by have:=h8.2.2.1;simp only[List.length_cons];omega);intro k hk';rcases lψ.1 hk' with rfl|hk'
   ·exact(((h4.1.mono h5.ad).mono h6.ad).mono h7.ad).mono g hk
   ·exact h8.2.2.2 k hk' hk
  exact hcall.bnd fun x s5 i5 a5 h5=>one _ _ _ x s5 i5 a5 h5.1
 refine Tt.cnd i (fun hc=>word hc fun s1 i1 a1 hr1 _ _=>AG he hb 11 i i1 a1 hr1) fun hc=>?_
 refine Tt.cnd i (fun hc=>word hc fun s1 i1 a1 hr1 _ _=>AG he hb 12 i i1 a1 hr1) fun hc=>?_
 refine Tt.cnd i (fun hc=>word hc fun s1 i1 a1 hr1 _ _=>Tt.cnd i1 (fun _=>non _ _ _ s1 i1 a1) fun _=>(he.at i1 a1 hr1).bnd fun x s2 i2 a2 h2=>one _ _ _ x s2 i2 a2 h2.1) fun hc=>?_
 refine Tt.cnd i (fun hc=>word hc fun s1 i1 a1 hr1 _ _=>non _ _ _ s1 i1 a1) fun hc=>?_
 refine Tt.cnd i (fun hc=>word hc fun s1 i1 a1 hr1 _ _=>ops _ 2 (by decide) s1 i1 a1 hr1) fun hc=>?_
 refine Tt.cnd i (fun hc=>word hc fun s1 i1 a1 hr1 _ _=>ops _ 3 (by decide) s1 i1 a1 hr1) fun hc=>?_
 refine Tt.cnd i (fun hc=>word hc fun s1 i1 a1 hr1 _ _=>ops _ 1 (by decide) s1 i1 a1 hr1) fun hc=>?_
 refine(Tt.fail i a (by decide)).bnd fun _ s1 i1 a1 h1=>?_
 exact Tt.ret i1 a1 ⟨fun k=>(by rw[h1.2]at k;cases k),fun k=>(by rw[h1.2]at k;cases k)⟩
end
end Go.Ab
end
section
namespace Go.Ab
open Go
set_option maxRecDepth 100000
noncomputable section
theorem zV {b:Nat}{st:PM Int}(hs:eN b st):∀(q:Nat) (l:List Int) (s0 s:PS),Iv s→Ad s0 s→s.rem+2≤q→s.rem≤b→l.length≤s.ps→(∀x∈l,Ix x s)→
  Tt s0 s (gt st q l) (fun l' t=>l'.length≤t.ps+1∧(∀x∈l',Ix x t)∧Ad s t)
 |0,l,s0,s,i,a,h1,_,_,_=>by omega
 |q+1,l,s0,s,i,a,h1,h2,h3,h4=>by
  have h6:=i.le;have h7:=i.len;unfold gt;refine Tt.cok (fun hk=>?_) (fun hk=>Tt.ret i a ⟨by omega,h4,Ad.refl s⟩);refine Tt.cnd i (fun hc=>Tt.ret i a ⟨by omega,h4,Ad.refl s⟩) fun hc=>?_
  refine(Tt.snoc (hs.at i a h2) (by omega)).bnd fun l1 s1 i1 a1 h5=>?_
  obtain⟨x,rfl,hx,hcs,ha⟩:=h5;have hq:∀y∈l++[x],Ix y s1:=fun y hy=>by
   rcases mδ.1 hy with hy|hy
   ·exact(h4 y hy).mono ha
   ·simp only[List.mem_singleton]at hy;subst hy;exact hx
  have hps:=ha.ps;have hle:(l++[x]).length=l.length+1:=by rw[lπ,List.length_singleton]
  cases hk1:s1.ok with
  |true=>
   have h8:=hcs hk1;have h9:=ha.rem1 i1 h8;exact(zV hs q (l++[x]) s0 s1 i1 a1 (by omega) (by omega) (by omega) hq).imp fun l' t _ _ h=>⟨h.1,h.2.1,ha.trans h.2.2⟩
  |false=>
   obtain⟨q,rfl⟩:∃k,q=k+1:=⟨q - 1,by omega⟩
   unfold gt;exact Tt.cok (fun h=>by rw[hk1]at h;cases h) fun _=>Tt.ret i1 a1 ⟨by omega,hq,ha⟩
def UX (lim:PM Unit):Prop:=∀s0 s,Iv s→Ad s0 s→0<s.nd.length→Tt s0 s lim (fun _ t=>Ad s t∧t.ps=s.ps∧t.nd=s.nd)
theorem P5:UX (.ret ()):=fun s0 s i a h=>Tt.ret i a ⟨Ad.refl s,rfl,rfl⟩
theorem P4:UX pLim:=by
 intro s0 s i a h;have h1:=i.nd;have h2:=i.le;have h3:=i.len;have hb:(decide (s.nd.length<10000)&&decide (0<s.nd.length)&&s.nd.all (sY s.nd.length))=true:=by
  rw[lγ,lγ,lβ,lβ,mζ];refine⟨⟨by omega,h⟩,fun x hx=>?_⟩
  have:=i.wf x hx;unfold sY;rw[lγ,lβ,mζ];refine⟨this.2,fun k hk=>?_⟩
  have:=this.1 k hk;rw[lγ,mh,oJ,lβ,lβ];exact this
 have hf:=jO s 5;unfold Tt pLim;rw[hb,cond_true];refine⟨(),_,rfl,?_⟩;cases bo 1500 (aj .i64 (s.tt+(s.nd.length:Int)))with
 |true=>exact⟨i.fail 5,a.trans (eO s (by decide)),eO s (by decide),hf.2.2.1,hf.2.2.2.1⟩
 |false=>
  rw[cond_false];cases bo 24 (iH s.nd)with
  |true=>exact⟨i.fail 5,a.trans (eO s (by decide)),eO s (by decide),hf.2.2.1,hf.2.2.2.1⟩
  |false=>exact⟨i,a,Ad.refl s,rfl,rfl⟩
theorem yc {b q:Nat}{lim:PM Unit}{st:PM Int}(hl:UX lim)(hs:eN b st)(hq:b+2≤q):eN (b+1) (kj lim st q):=by
 intro s i hr;unfold kj;refine(Tt.opn i (Ad.refl s) _).bnd fun _ s1 i1 a1 h1=>?_
 have hblk:Tt s s1 (gt st q []) (fun l' t=>l'.length≤t.ps+1∧(∀x∈l',Ix x t)∧Ad s1 t):=by
  cases hk:s1.ok with
  |true=>
   have hr1:=h1.ad.rem1 i1 (by have:=h1.st hk;omega);exact zV hs q [] s s1 i1 a1 (by omega) (by omega) (by simp) (by simp)
  |false=>
   obtain⟨q,rfl⟩:∃k,q=k+1:=⟨q - 1,by omega⟩
   unfold gt;exact Tt.cok (fun h=>by rw[hk]at h;cases h) fun _=>Tt.ret i1 a1 ⟨by simp,by simp,Ad.refl s1⟩
 refine hblk.bnd fun l s2 i2 a2 h2=>?_
 refine Tt.cok (fun hk=>?_) (fun hk=>Tt.ret i2 a2 ⟨fun k=>(by rw[hk]at k;cases k),fun k=>(by rw[hk]at k;cases k)⟩);have d1:s1.nd.length=s.nd.length:=by rw[h1.nd]
 have d2:=h2.2.2.de;have p1:=h1.st (h2.2.2.ok hk);have p2:=h2.2.2.ps;refine(Tt.add i i2 a2 (fun _=>by omega) (fun hk k hk'=>h2.2.1 k hk' hk) (by have:=h2.1;have:=i2.le;have:=i2.len;simp only[];omega)).bnd fun x s3 i3 a3 h3=>?_
 refine(hl s s3 i3 a3 (by have:=h3.2.2.2 (by rw[h3.2.2.1];exact hk);omega)).bnd fun _ s4 i4 a4 h4=>?_
 refine(Tt.cls i4 a4 _).bnd fun _ s5 i5 a5 h5=>?_
 refine Tt.ret i5 a5 ⟨(h3.1.mono h4.1).mono h5.ad,fun hk=>?_⟩
 have:=h5.ad.ps;have:=h4.2.1;have:=h3.2.1;omega
theorem IF {q:Nat}:∀(b:Nat),b+3≤q→∀f,7*b+8≤f→eN b (Ku q f)
 |0,hq,f,hf=>by
  obtain⟨f,rfl⟩:∃k,f=k+1:=⟨f - 1,by omega⟩
  intro s i hr;have hps:¬s.ps<s.tk.length:=by unfold PS.rem at hr;omega
  unfold Ku kj;refine(Tt.opn i (Ad.refl s) _).bnd fun _ s1 i1 a1 h1=>?_
  have hk:s1.ok=false:=by
   cases hk:s1.ok with
   |false=>rfl
   |true=>have:=h1.st hk;have h2:=i1.le;rw[a1.tk]at h2;omega
  have hblk:Tt s s1 (gt (mm (ku q f 0) (Ku q f) q) q []) (fun l t=>t.ok=false):=by
   obtain⟨q,rfl⟩:∃k,q=k+1:=⟨q - 1,by omega⟩
   unfold gt;exact Tt.cok (fun h=>by rw[hk]at h;cases h) fun _=>Tt.ret i1 a1 hk
  refine hblk.bnd fun l s2 i2 a2 h2=>?_
  exact Tt.cok (fun hk=>by rw[h2]at hk;cases hk) (fun hk=>Tt.ret i2 a2 ⟨fun k=>(by rw[hk]at k;cases k),fun k=>(by rw[hk]at k;cases k)⟩)
 |b+1,hq,f,hf=>by
  obtain⟨f,rfl⟩:∃k,f=k+1:=⟨f - 1,by omega⟩
  unfold Ku;exact yc P5 ((AH (sQ b (by omega) 0 (by omega) f (by omega)) (IF b (by omega) f (by omega)) (by omega)).le (Nat.le_succ b)) (by omega)
structure Ao (s t:PS):Prop where
 tk:t.tk=s.tk
 en:t.en=s.en
 ps:s.ps≤t.ps
 ok:t.ok=true→s.ok=true
theorem Ao.refl (s:PS):Ao s s:=⟨rfl,rfl,Nat.le_refl _,id⟩
theorem Ao.trans {a b c:PS}(h:Ao a b)(g:Ao b c):Ao a c:=⟨g.tk.trans h.tk,g.en.trans h.en,mρ h.ps g.ps,fun k=>h.ok (g.ok k)⟩
theorem Ad.o {s t:PS}(h:Ad s t):Ao s t:=⟨h.tk,h.en,h.ps,h.ok⟩
theorem Ao.rem {s t:PS}(h:Ao s t):t.rem≤s.rem:=by have:=h.ps;unfold PS.rem;rw[h.tk];omega
theorem Ao.rem1 {s t:PS}(h:Ao s t)(i:Iv t)(g:s.ps<t.ps):t.rem+1≤s.rem:=by have:=i.le;unfold PS.rem;rw[h.tk]at*;omega
def To {α:Type}(s0 s:PS)(p:PM α)(Q:α→PS→Prop):Prop:=∃a t,p s=some (a,t)∧Iv t∧Ao s0 t∧Q a t
theorem To.bnd {α β:Type}{s0 s:PS}{p:PM α}{f:α→PM β}{Q:α→PS→Prop}{R:β→PS→Prop}(h:To s0 s p Q)(g:∀a t,Iv t→Ao s0 t→Q a t→To s0 t (f a) R):To s0 s (p.bnd f) R:=by
 obtain⟨a,t,h1,h2,h3,h4⟩:=h;obtain⟨b,u,g1,g2,g3,g4⟩:=g a t h2 h3 h4;exact⟨b,u,by simp only[PM.bnd,h1,g1],g2,g3,g4⟩
theorem Tt.o {α:Type}{s0 s:PS}{p:PM α}{Q:α→PS→Prop}(h:Tt s s p Q)(a:Ao s0 s):To s0 s p (fun x t=>Q x t∧Ao s t):=by
 obtain⟨x,t,h1,h2,h3,h4⟩:=h;exact⟨x,t,h1,h2,a.trans h3.o,h4,h3.o⟩
theorem To.of {α:Type}{s0 s:PS}{p:PM α}{Q R:α→PS→Prop}(a:Ao s0 s)(h:To s s p Q)(g:∀x t,Ao s t→Q x t→R x t):To s0 s p R:=by
 obtain⟨x,t,h1,h2,h3,h4⟩:=h;exact⟨x,t,h1,h2,a.trans h3,g x t h3 h4⟩
theorem To.ret {α:Type}{s0 s:PS}{a:α}{Q:α→PS→Prop}(i:Iv s)(h:Ao s0 s)(q:Q a s):To s0 s (PM.ret a) Q:=⟨a,s,rfl,i,h,q⟩
theorem To.cnd {α:Type}{s0 s:PS}{c:PS→Bool}{p q:PM α}{Q:α→PS→Prop}(i:Iv s)(h:c s=true→To s0 s p Q)(g:c s=false→To s0 s q Q):To s0 s (cnd c p q) Q:=by
 unfold To Go.Ab.cnd;rw[i.sz,cond_true];cases hc:c s with
 |true=>exact h hc
 |false=>exact g hc
theorem To.cok {α:Type}{s0 s:PS}{p q:PM α}{Q:α→PS→Prop}(h:s.ok=true→To s0 s p Q)(g:s.ok=false→To s0 s q Q):To s0 s (cok p q) Q:=by
 unfold To Go.Ab.cok;cases hc:s.ok with
 |true=>exact h hc
 |false=>exact g hc
theorem To.snoc {α:Type}{s0 s:PS}{p:PM α}{l:List α}{Q:α→PS→Prop}(h:To s0 s p Q)(hl:l.length<1000000):To s0 s (snoc p l) (fun l' t=>∃x,l'=l++[x]∧Q x t):=by
 obtain⟨x,t,h1,h2,h3,h4⟩:=h;refine⟨l++[x],t,?_,h2,h3,x,rfl,h4⟩;unfold Go.Ab.snoc;simp only[PM.bnd,h1,mχ hl,cond_true]
theorem Ti (b:Nat):Tot b pInt (fun _ _=>True):=fun s i _=>(Tt.int i (Ad.refl s)).imp fun _ _ _ _ h=>⟨trivial,h.2⟩
theorem TY (b:Nat):Tot b ((mo 4).bnd fun t=> .ret t.s) (fun _ _=>True):=fun s i _=>(Tt.take i (Ad.refl s) (by decide)).bnd fun k t i1 a1 h=>Tt.ret i1 a1 ⟨trivial,h.cs⟩
theorem TJ (b:Nat):Tot b p9 (fun _ _=>True):=fun s i _=>by
 unfold p9;refine(Tt.nam i (Ad.refl s)).bnd fun n s1 i1 a1 h1=>?_
 refine(Tt.exp i1 a1 _).bnd fun _ s2 i2 a2 h2=>?_
 refine(Tt.kind i2 a2).bnd fun k s3 i3 a3 h3=>?_
 exact Tt.ret i3 a3 ⟨trivial,(h1.cs.then h2.ad).then h3.ad⟩
theorem HL {q:Nat}{s:PS}(i:Iv s)(hq:s.rem+1≤q):Tt s s (yd q) (fun _ t=>Cs s t):=by
 have a:=Ad.refl s;have L:∀(g:PS→Va),s.ps<s.tk.length→Tt s s (lf fun s=>(g s,s.up)) (fun v t=>Cs s t):=fun g hp=>by
  refine⟨g s,s.up,?_,i.up hp,qE s,fun _=>by show s.ps<s.ps+1;omega⟩
  unfold lf;rw[i.sz,cond_true]
 unfold yd iK;refine Tt.cnd i (fun h1=>L _ ?_) fun h1=>Tt.cnd i (fun h2=>L _ (dG i.sz h2)) fun h2=>Tt.cnd i (fun h3=>L _ (dG i.sz h3)) fun h3=>?_
 ·rw[cF,lβ]at h1;exact jS i.sz 0 (by rw[h1];decide)
 refine Tt.cnd i (fun h4=>?_) fun h4=>Tt.cnd i (fun h5=>?_) fun h5=>?_
 ·refine(Tt.up i a (dG i.sz h4)).bnd fun _ s1 i1 a1 h1=>?_
  refine(Tt.exp i1 a1 _).bnd fun _ s2 i2 a2 h2=>?_
  refine(vo (Q:=fun _ _=>True) (fun _ _ _ _ _=>trivial) (Ti s2.rem) i2 a2 (by have:=h1.1.ad.rem;have:=h2.ad.rem;omega) (Nat.le_refl _)).bnd fun l s3 i3 a3 h3=>?_
  refine(Tt.exp i3 a3 _).bnd fun _ s4 i4 a4 h4=>?_
  have hp2:=h2.ad.ps;exact Tt.ret i4 a4 fun hk=>by
   have:=h4.st hk;have h5:=h4.ad.ps;have h6:=h1.2;have:s.ps<s2.ps:=by omega
   have h7:=a3.ps;have h8:=i4.le;have hz:s2.ps≤s3.ps∨s3.ps<s2.ps:=by omega
   have:=a4.ps;omega
 ·refine(Tt.up i a (dG i.sz h5)).bnd fun _ s1 i1 a1 h1=>?_
  refine(Tt.exp i1 a1 _).bnd fun _ s2 i2 a2 h2=>?_
  refine(vo (Q:=fun _ _=>True) (fun _ _ _ _ _=>trivial) (TY s2.rem) i2 a2 (by have:=h1.1.ad.rem;have:=h2.ad.rem;omega) (Nat.le_refl _)).bnd fun l s3 i3 a3 h3=>?_
  refine(Tt.exp i3 a3 _).bnd fun _ s4 i4 a4 h4=>?_
  exact Tt.ret i4 a4 fun hk=>by
   have:=h4.st hk;have:=a3.ps;omega
 ·exact(Tt.int i a).bnd fun n s1 i1 a1 h1=>Tt.ret i1 a1 h1.2
theorem HM {q:Nat}{s:PS}(i:Iv s)(hq:s.rem+1≤q):To s s (p8 q) (fun _ t=>Cs s t):=by
 unfold p8;have o:=Ao.refl s;refine((Tt.exp i (Ad.refl s) _).o o).bnd fun _ s1 i1 o1 h1=>?_
 refine((Tt.nam i1 (Ad.refl s1)).o o1).bnd fun n s2 i2 o2 h2=>?_
 refine((Tt.exp i2 (Ad.refl s2) _).o o2).bnd fun _ s3 i3 o3 h3=>?_
 refine((Tt.kind i3 (Ad.refl s3)).o o3).bnd fun k s4 i4 o4 h4=>?_
 refine((Tt.exp i4 (Ad.refl s4) _).o o4).bnd fun _ s5 i5 o5 h5=>?_
 have hlf:To s s5 (lf fun s=>((),bif !iG k s then s.fail 13 else s)) (fun _ t=>Ao s5 t):=by
  have hg:Iv (bif !iG k s5 then s5.fail 13 else s5)∧Ad s5 (bif !iG k s5 then s5.fail 13 else s5):=by
   cases iG k s5 with
   |true=>exact⟨i5,Ad.refl _⟩
   |false=>exact⟨i5.fail 13,eO s5 (by decide)⟩
  refine⟨(),_,?_,hg.1,o5.trans hg.2.o,hg.2.o⟩;unfold lf;rw[i5.sz,cond_true]
 refine hlf.bnd fun _ s6 i6 o6 h6=>?_
 refine((HL i6 (by have:=o6.rem;omega)).o o6).bnd fun v s7 i7 o7 h7=>?_
 refine((Tt.exp i7 (Ad.refl s7) _).o o7).bnd fun _ s8 i8 o8 h8=>?_
 refine To.ret i8 o8 fun hk=>?_
 have:=h8.1.st hk;have:=o7.ps;omega
theorem LF {f q:Nat}{s:PS}(i:Iv s)(hq:s.rem+4≤q)(hf:7*s.rem+20≤f):To s s (Fo f q) (fun _ _=>True):=by
 have i1:Iv {s with nd:=[],ne:=0}:=⟨i.sz,i.len,Nat.zero_le _,fun x hx=>by cases hx⟩
 obtain⟨a,u,h1,h2,h3,h4⟩:=yc (b:=s.rem) (q:=q) P4 ((AH (b:=s.rem) (q:=q) (sQ (q:=q) s.rem (by omega) 0 (by omega) f (by omega)) (IF (q:=q) s.rem (by omega) f (by omega)) (by omega)).le (Nat.le_succ s.rem)) (by omega) _ i1 (by show s.rem≤_;omega);refine⟨u.nd,{u with tt:=aj .i64 (u.tt+(u.nd.length:Int))},?_,⟨h2.sz,h2.len,h2.nd,h2.wf⟩,⟨h3.tk,h3.en,h3.ps,h3.ok⟩,trivial⟩;unfold Fo;rw[h1]
theorem LH {f q:Nat}{s:PS}(i:Iv s)(hq:s.rem+4≤q)(hf:7*s.rem+20≤f):To s s (yf f q) (fun _ t=>Cs s t):=by
 unfold yf;have o:=Ao.refl s;refine((Tt.exp i (Ad.refl s) _).o o).bnd fun _ s1 i1 o1 h1=>?_
 refine((Tt.nam i1 (Ad.refl s1)).o o1).bnd fun n s2 i2 o2 h2=>?_
 refine((Tt.exp i2 (Ad.refl s2) _).o o2).bnd fun _ s3 i3 o3 h3=>?_
 refine((vo (Q:=fun _ _=>True) (fun _ _ _ _ _=>trivial) (TJ s3.rem) i3 (Ad.refl s3) (by have:=o3.rem;omega) (Nat.le_refl _)).o o3).bnd fun l s4 i4 o4 h4=>?_
 refine((Tt.exp i4 (Ad.refl s4) _).o o4).bnd fun _ s5 i5 o5 h5=>?_
 have hk:To s s5 (cnd (fun s=>s.is [58]) (pUp.bnd fun _=>pKind) (.ret 0)) (fun _ t=>Ao s5 t):=by
  refine To.cnd i5 (fun hc=>?_) (fun hc=>To.ret i5 o5 (Ao.refl _));refine((Tt.up i5 (Ad.refl s5) (dG i5.sz hc)).o o5).bnd fun _ s6 i6 o6 h6=>?_
  exact To.of o6 ((Tt.kind i6 (Ad.refl s6)).o (Ao.refl s6)) fun x t ha hx=>h6.2.trans ha
 refine hk.bnd fun k s6 i6 o6 h6=>?_
 refine(To.of o6 (LF (f:=f) i6 (by have:=o6.rem;omega) (by have:=o6.rem;omega)) fun x t ha hx=>ha).bnd fun ns s7 i7 o7 h7=>?_
 refine To.ret i7 o7 fun hk=>?_
 have:=h1.1.st (((h2.2.trans h3.2).trans (h4.2.trans h5.2)).ok ((h6.trans h7).ok hk));have:=((h2.2.trans h3.2).trans (h4.2.trans h5.2)).ps;have:=(h6.trans h7).ps;omega
theorem xN {α:Type}{b most:Nat}{w:List Nat}{p:PM α}(hp:∀s,Iv s→s.rem≤b→To s s p (fun _ t=>Cs s t)):∀(q:Nat) (l:List α) (s0 s:PS),Iv s→Ao s0 s→s.rem+2≤q→s.rem≤b→l.length≤s.ps→To s0 s (eG w most p q l) (fun _ t=>Ao s t)
 |0,l,s0,s,i,a,h1,_,_=>by omega
 |q+1,l,s0,s,i,o,h1,h2,h3=>by
  have h6:=i.le;have h7:=i.len;unfold eG;refine To.cnd i (fun hc=>?_) (fun hc=>To.ret i o (Ao.refl s));have hg:Iv (bif Nat.beq l.length most then s.fail 5 else s)∧Ad s (bif Nat.beq l.length most then s.fail 5 else s):=by
   cases Nat.beq l.length most with
   |false=>exact⟨i,Ad.refl _⟩
   |true=>exact⟨i.fail 5,eO s (by decide)⟩
  have hlf:To s0 s (lf fun s=>((),bif Nat.beq l.length most then s.fail 5 else s)) (fun _ t=>Ao s t):=by
   refine⟨(),_,?_,hg.1,o.trans hg.2.o,hg.2.o⟩;unfold lf;rw[i.sz,cond_true]
  refine hlf.bnd fun _ s1 i1 o1 g1=>?_
  refine(To.snoc (To.of o1 (hp s1 i1 (by have:=g1.rem;omega)) fun x t ha hx=>And.intro hx ha) (by omega)).bnd fun l1 s2 i2 o2 h5=>?_
  obtain⟨x,rfl,hcs,ha⟩:=h5;have hp1:=g1.ps;have hp2:=ha.ps;have hle:(l++[x]).length=l.length+1:=by rw[lπ,List.length_singleton]
  cases hk:s2.ok with
  |true=>
   have h8:=hcs hk;have h9:=ha.rem1 i2 h8;have h10:=g1.rem;obtain⟨y,t,e1,e2,e3,e4⟩:=xN hp q (l++[x]) s0 s2 i2 o2 (by omega) (by omega) (by omega);exact⟨y,t,e1,e2,e3,(g1.trans ha).trans e4⟩
  |false=>
   obtain⟨q,rfl⟩:∃k,q=k+1:=⟨q - 1,by omega⟩
   unfold eG;exact To.cnd i2 (fun h=>by rw[Qo hk]at h;cases h) fun _=>To.ret i2 o2 (g1.trans ha)
theorem HK {f q:Nat}{s:PS}(i:Iv s)(hq:s.rem+4≤q)(hf:7*s.rem+20≤f):To s s (ju f q) (fun _ t=>Cs s t):=by
 unfold ju;have o:=Ao.refl s;refine((Tt.exp i (Ad.refl s) _).o o).bnd fun _ s1 i1 o1 h1=>?_
 refine((Tt.nam i1 (Ad.refl s1)).o o1).bnd fun n s2 i2 o2 h2=>?_
 refine((Tt.exp i2 (Ad.refl s2) _).o o2).bnd fun _ s3 i3 o3 h3=>?_
 refine(xN (b:=s3.rem) (fun s i hr=>HM i (by have:=o3.rem;omega)) q [] s s3 i3 o3 (by have:=o3.rem;omega) (Nat.le_refl _) (by simp)).bnd fun fs s4 i4 o4 h4=>?_
 refine(xN (b:=s4.rem) (fun s i hr=>LH i (by have:=o4.rem;omega) (by have:=o4.rem;omega)) q [] s s4 i4 o4 (by have:=o4.rem;omega) (Nat.le_refl _) (by simp)).bnd fun ms s5 i5 o5 h5=>?_
 refine((Tt.exp i5 (Ad.refl s5) _).o o5).bnd fun _ s6 i6 o6 h6=>?_
 refine To.ret i6 o6 fun hk=>?_
 have:=h6.1.st hk;have:=o5.ps;omega
theorem A0 {n f q b:Nat}(hn:b≤6000)(hq:b+4≤q)(hf:7*b+20≤f):∀(m:Nat) (l:List Ac) (s0 s:PS),Iv s→Ao s0 s→s.rem+2≤m→s.rem≤b→l.length≤s.ps→To s0 s (cX n f q m l) (fun _ _=>True)
 |0,l,s0,s,i,a,h1,_,_=>by omega
 |m+1,l,s0,s,i,o,h1,h2,h3=>by
  have h6:=i.le;have h7:=i.len;unfold cX;refine To.cok (fun hk0=>?_) (fun _=>To.ret i o trivial);refine To.cnd i (fun hc=>?_) (fun hc=>To.ret i o trivial);have hg:Iv (bif s.is [97,99,116,111,114]&&Nat.beq l.length 8 then s.fail 5 else s)∧Ad s (bif s.is [97,99,116,111,114]&&Nat.beq l.length 8 then s.fail 5 else s):=by
   cases s.is [97,99,116,111,114]&&Nat.beq l.length 8 with
   |false=>exact⟨i,Ad.refl _⟩
   |true=>exact⟨i.fail 5,eO s (by decide)⟩
  have hlf:To s0 s (lf fun s=>((),bif s.is [97,99,116,111,114]&&Nat.beq l.length 8 then s.fail 5 else s)) (fun _ t=>Ao s t):=by
   refine⟨(),_,?_,hg.1,o.trans hg.2.o,hg.2.o⟩;unfold lf;rw[i.sz,cond_true]
  refine hlf.bnd fun _ s1 i1 o1 g1=>?_
  refine(To.snoc (To.of o1 (HK (f:=f) (q:=q) i1 (by have:=g1.rem;omega) (by have:=g1.rem;omega)) fun x t ha hx=>And.intro hx ha) (by omega)).bnd fun l1 s2 i2 o2 h5=>?_
  obtain⟨x,rfl,hcs,ha⟩:=h5;have hp1:=g1.ps;have hle:(l++[x]).length=l.length+1:=by rw[lπ,List.length_singleton]
  cases hk:s2.ok with
  |true=>
   have h8:=hcs hk;have h9:=ha.rem1 i2 h8;have h10:=g1.rem;exact A0 hn hq hf m (l++[x]) s0 s2 i2 o2 (by omega) (by omega) (by omega)
  |false=>
   obtain⟨m,rfl⟩:∃k,m=k+1:=⟨m - 1,by omega⟩
   unfold cX;exact To.cok (fun h=>by rw[hk]at h;cases h) fun _=>To.ret i2 o2 trivial
theorem LO (tk:List Tk)(en:Int)(hl:tk.length≤6000)(hb:It tk){f q:Nat}(hf:7*tk.length+20≤f)(hq:tk.length+4≤q):∃r,lV tk en f q=some r:=by
 have i:Iv ⟨tk,0,en,0,0,0,0,[]⟩:=by
  refine⟨?_,hl,Nat.le_refl _,fun x hx=>by cases hx⟩
  unfold PS.sz;simp only[lγ,lβ,mζ];exact⟨Nat.zero_le _,by omega,fun t ht c hc=>hb t ht c hc⟩
 obtain⟨l,t,h1,h2,h3,h4⟩:=A0 (n:=tk.length) (f:=f) (q:=q) (b:=tk.length) hl hq hf q [] _ _ i (Ao.refl _) (by show tk.length - 0+2≤q;omega) (by show tk.length - 0≤_;omega) (by simp);unfold lV;rw[h1];exact⟨_,rfl⟩
end
end Go.Ab
end
section
namespace Go.Ab
open Go
set_option maxRecDepth 100000
noncomputable section
structure sC (n:Nat)(s s':PS):Prop where
 tk:s'.tk=s.tk.take n
 ln:n≤s.tk.length
 ps:s'.ps=s.ps
 aT:s'.aT=s.aT
 er:s'.er=s.er
 ne:s'.ne=s.ne
 tt:s'.tt=s.tt
 nd:s'.nd=s.nd
 lt:s.ok=true→s.ps<n
structure rY (s:PS):Prop where
 ps:s.tk.length≤s.ps
 er:s.er=0∨s.er=13∧s.aT=s.en
theorem XO (s:PS):s.ok=true↔s.er=0:=by unfold PS.ok;rw[cF,lβ]
theorem Qp (s:PS):s.ok=false↔s.er≠0:=by unfold PS.ok;rw[cF,lχ]
theorem sC.ok {n:Nat}{s s':PS}(h:sC n s s'):s'.ok=s.ok:=by unfold PS.ok;rw[h.er]
theorem sC.at {n:Nat}{s s':PS}(h:sC n s s')(i:Nat)(hi:s.ps+i<n):s'.tk[s'.ps+i]?=s.tk[s.ps+i]?:=by
 rw[h.tk,h.ps,List.getElem?_take,if_pos hi]
theorem sC.peek {n:Nat}{s s':PS}(h:sC n s s'):s'.peek 0=s.peek 0:=by
 unfold PS.peek;rw[h.ok];cases hk:s.ok with
 |false=>rfl
 |true=>rw[h.at 0 (h.lt hk)]
theorem sC.is {n:Nat}{s s':PS}(h:sC n s s')(x:List Nat):s'.is x=s.is x:=by unfold PS.is;rw[h.peek]
theorem sC.fail {n:Nat}{s s':PS}(h:sC n s s'){e:Int}(he:e≠0):sC n (s.fail e) (s'.fail e):=by
 have hf:=cU s he;unfold PS.fail at hf ⊢
 rw[h.ok];cases hk:s.ok with
 |false=>exact h
 |true=>
  have h0:=h.at 0 (h.lt hk);simp only[Nat.add_zero]at h0;have hl:s.ps<s.tk.length:=mτ (h.lt hk) h.ln;have e1:s'.tk[s'.ps]?=some s.tk[s.ps]:=by rw[h0,lδ hl]
  refine⟨h.tk,h.ln,h.ps,?_,rfl,h.ne,h.tt,h.nd,fun k=>?_⟩
  ·show(match s'.tk[s'.ps]? with|some t=>t.a|none=>s'.en)=(match s.tk[s.ps]? with|some t=>t.a|none=>s.en);rw[e1,lδ hl]
  ·rw[hk]at hf;exact absurd k (by simp only[cond_true]at hf ⊢;rw[hf];simp)
theorem sC.up {n:Nat}{s s':PS}(h:sC n s s')(hk:s.ok=true):sC n s.up s'.up∨rY s'.up:=by
 have:=h.lt hk;by_cases hn:s.ps+1<n
 ·exact .inl ⟨h.tk,h.ln,by show s'.ps+1=s.ps+1;rw[h.ps],h.aT,h.er,h.ne,h.tt,h.nd,fun _=>hn⟩
 ·refine .inr ⟨?_,.inl ?_⟩
  ·show s'.tk.length≤s'.ps+1;rw[h.tk,mγ,h.ps];omega
  ·show s'.er=0;rw[h.er];exact(XO s).1 hk
theorem sC.setNe {n:Nat}{s s':PS}(h:sC n s s')(k:Int):sC n {s with ne:=k} {s' with ne:=k}:=⟨h.tk,h.ln,h.ps,h.aT,h.er,rfl,h.tt,h.nd,h.lt⟩
theorem rY.setNe {s:PS}(h:rY s)(k:Int):rY {s with ne:=k}:=⟨h.ps,h.er⟩
theorem rY.peek {s:PS}(h:rY s)(i:Nat):s.peek i=tk0:=by
 unfold PS.peek;rw[lε (by have:=h.ps;omega)];cases s.ok<;>rfl
theorem rY.is {s:PS}(h:rY s)(x:List Nat):s.is x=false:=by unfold PS.is;rw[h.peek];rfl
theorem rY.fail {s:PS}(h:rY s):rY (s.fail 13):=by
 unfold PS.fail;cases hk:s.ok with
 |false=>exact h
 |true=>exact⟨h.ps,.inr ⟨rfl,by show(match s.tk[s.ps]? with|some t=>t.a|none=>s.en)=s.en;rw[lε h.ps]⟩⟩
theorem rY.exp {s:PS}(h:rY s)(x:List Nat):rY (s.exp x)∧(s.exp x).ok=false:=by unfold PS.exp;rw[h.is];exact⟨h.fail,cU s (by decide)⟩
theorem rY.open {s:PS}(h:rY s)(x:List Nat):rY (s.open x):=by unfold PS.open PS.opn1;rw[h.is];exact(h.exp x).1.setNe _
theorem rY.close {s:PS}(h:rY s)(x:List Nat):rY (s.close x):=(h.exp x).1.setNe _
structure jC {α:Type}(p:PM α):Prop where
 rel:∀{n:Nat} {s s' t t':PS} {a a':α},sC n s s'→p s=some (a,t)→p s'=some (a',t')→(a'=a∧sC n t t')∨rY t'
 exh:∀{s t:PS} {a:α},rY s→p s=some (a,t)→rY t
theorem jC.bnd {α β:Type}{p:PM α}{f:α→PM β}(hp:jC p)(hf:∀a,jC (f a)):jC (p.bnd f) where
 rel h e e':=by
  obtain⟨b,u,h1,h2⟩:=ae e;obtain⟨b',u',h1',h2'⟩:=ae e';rcases hp.rel h h1 h1' with⟨rfl,g⟩|g
  ·exact(hf _).rel g h2 h2'
  ·exact .inr ((hf _).exh g h2')
 exh h e:=by
  obtain⟨b,u,h1,h2⟩:=ae e;exact(hf _).exh (hp.exh h h1) h2
theorem jC.ret {α:Type}(a:α):jC (PM.ret a) where
 rel h e e':=by
  obtain⟨rfl,rfl⟩:=aF e;obtain⟨rfl,rfl⟩:=aF e';exact .inl ⟨rfl,h⟩
 exh h e:=by
  obtain⟨rfl,rfl⟩:=aF e;exact h
theorem jC.none {α:Type}:jC (fun _=>(none:Option (α×PS))):=⟨fun _ e=>(by cases e),fun _ e=>(by cases e)⟩
theorem jC.lf {α:Type}{g:PS→α×PS}(h1:∀{n s s'},sC n s s'→((g s').1=(g s).1∧sC n (g s).2 (g s').2)∨rY (g s').2)(h2:∀{s},rY s→rY (g s).2):jC (lf g) where
 rel h e e':=by
  obtain⟨-,e⟩:=bb e;obtain⟨-,e'⟩:=bb e';have:=h1 h;rw[e,e']at this;exact this
 exh h e:=by
  obtain⟨-,e⟩:=bb e;have:=h2 h;rw[e]at this;exact this
theorem jC.cnd {α:Type}{c:PS→Bool}{p q:PM α}(hc:∀{n s s'},sC n s s'→c s'=c s)(hp:jC p)(hq:jC q):jC (cnd c p q) where
 rel h e e':=by
  obtain⟨-,e⟩:=aH e;obtain⟨-,e'⟩:=aH e';have:=hc h;rcases e with⟨k,e⟩|⟨k,e⟩<;>rcases e' with⟨k',e'⟩|⟨k',e'⟩
  ·exact hp.rel h e e'
  ·rw[this,k]at k';cases k'
  ·rw[this,k]at k';cases k'
  ·exact hq.rel h e e'
 exh h e:=by
  obtain⟨-,e⟩:=aH e;rcases e with⟨k,e⟩|⟨k,e⟩
  ·exact hp.exh h e
  ·exact hq.exh h e
theorem jC.cok {α:Type}{p q:PM α}(hp:jC p)(hq:jC q):jC (cok p q) where
 rel h e e':=by
  have:=h.ok;rcases bx e with⟨k,e⟩|⟨k,e⟩<;>rcases bx e' with⟨k',e'⟩|⟨k',e'⟩
  ·exact hp.rel h e e'
  ·rw[this,k]at k';cases k'
  ·rw[this,k]at k';cases k'
  ·exact hq.rel h e e'
 exh h e:=by
  rcases bx e with⟨k,e⟩|⟨k,e⟩
  ·exact hp.exh h e
  ·exact hq.exh h e
theorem sC.isF {n:Nat}{s s':PS}(h:sC n s s'):s'.is=s.is:=funext fun x=>h.is x
theorem jC.fnO {α:Type}{l:List (List Nat)}{p:PM α}{f:List Nat→PM α}(hp:jC p)(hf:∀o,jC (f o)):jC (fnO l p f) where
 rel h e e':=by
  obtain⟨-,e⟩:=dR e;obtain⟨-,e'⟩:=dR e';rw[h.isF]at e';rcases e with⟨k,e⟩|⟨o,k,e⟩<;>rcases e' with⟨k',e'⟩|⟨o',k',e'⟩
  ·exact hp.rel h e e'
  ·rw[k]at k';cases k'
  ·rw[k]at k';cases k'
  ·rw[k]at k';cases k';exact(hf o).rel h e e'
 exh h e:=by
  obtain⟨-,e⟩:=dR e;rcases e with⟨k,e⟩|⟨o,k,e⟩
  ·exact hp.exh h e
  ·exact(hf o).exh h e
theorem sC.exp {n:Nat}{s s':PS}(h:sC n s s')(x:List Nat):sC n (s.exp x) (s'.exp x)∨rY (s'.exp x):=by
 unfold PS.exp;rw[h.is];cases hx:s.is x with
 |false=>exact .inl (h.fail (by decide))
 |true=>exact h.up (Cl hx)
end
end Go.Ab
end
section
namespace Go.Ab
open Go
set_option maxRecDepth 100000
noncomputable section
theorem yS {n f q:Nat}:∀(m:Nat) (l l':List Ac) {s t:PS},cX n f q m l s=some (l',t)→l.length≤l'.length
 |0,l,l',s,t,e=>by cases e
 |m+1,l,l',s,t,e=>by
  unfold cX at e;rcases bx e with⟨k,e⟩|⟨k,e⟩
  ·obtain⟨-,e⟩:=aH e;rcases e with⟨c,e⟩|⟨c,e⟩
   ·obtain⟨_,u,h1,e⟩:=ae e;obtain⟨l1,v,h2,e⟩:=ae e;obtain⟨x,h3,h4,rfl⟩:=cg h2;have:=yS m _ l' e;rw[lπ]at this;exact mρ (Nat.le_add_right _ _) this
   ·obtain⟨rfl,rfl⟩:=aF e;exact Nat.le_refl _
  ·obtain⟨rfl,rfl⟩:=aF e;exact Nat.le_refl _
theorem Ii {n f q m:Nat}{l l':List Ac}{s t:PS}(h:s.ok=false)(e:cX n f q m l s=some (l',t)):l'=l∧t=s:=by
 cases m with
 |zero=>cases e
 |succ m=>
  unfold cX at e;rcases bx e with⟨k,e⟩|⟨k,e⟩
  ·rw[h]at k;cases k
  ·obtain⟨rfl,rfl⟩:=aF e;exact⟨rfl,rfl⟩
def WF (tk:List Tk)(en:Int):PS:=⟨tk,0,en,0,0,0,0,[]⟩
theorem uz {n f q m:Nat}{tk:List Tk}{en:Int}{l':List Ac}{t:PS}(hn:0<n)(e:cX n f q (m+1) [] (WF tk en)=some (l',t)):
  ∃x u,ju f q (WF tk en)=some (x,u)∧cX n f q m [x] u=some (l',t):=by
 unfold cX at e;rcases bx e with⟨k,e⟩|⟨k,e⟩
 ·obtain⟨-,e⟩:=aH e;rcases e with⟨c,e⟩|⟨c,e⟩
  ·obtain⟨_,u,h1,e⟩:=ae e;obtain⟨l1,v,h2,e⟩:=ae e;obtain⟨-,h1⟩:=bb h1;injection h1 with _ h1;rw[show Nat.beq ([]:List Ac).length 8=false from rfl,Bool.and_false,cond_false]at h1;subst h1;obtain⟨x,h3,h4,rfl⟩:=cg h2;exact⟨x,v,h3,e⟩
  ·have:¬(0<n):=of_decide_eq_false c;exact absurd hn this
 ·cases k
end
end Go.Ab
end
section
namespace Go.Ab
open Go
set_option maxRecDepth 100000
noncomputable section
theorem Zo (l:List Ac)(K:aV→R):cZ (.agg [.slice 3 (l.map Ac.e)]) K=K ⟨l.map Ac.e⟩:=rfl
theorem yG (src:List Nat)(hb:By src)(hl:src.length≤6000){f q:Nat}(hf:7*src.length+20≤f)(hq:src.length+4≤q):∃r,ma src f q=some r:=by
 unfold ma;obtain⟨h1,h2⟩:=C4 src hb;cases !eqI (eI src).2.2 0 with
 |true=>exact⟨_,rfl⟩
 |false=>exact LO _ _ (by omega) h1 (by omega) (by omega)
end
end Go.Ab
end
section
namespace Go.Ab
open Go
set_option maxRecDepth 100000
noncomputable section
abbrev Bn:TypeId→Nat:=fun _=>1048576
def flatT (P:Program)(t:TypeId):Bool:=
 match P.underlying t with
 |some (.slice _)=>false
 |some (.struct _)=>false
 |_=>true
theorem call0_ok (L:Letters)(N:Nat):eV prog0 globs0 (evFn lay0.tab N):=qV (P:=prog0) (G:=globs0) Ls (lay0.okM L mvG) N
theorem Uy:prog0.underlying 9=some .string:=by kernel_rfl
theorem Xn {n:Nat}{x:Da}(h:oE prog0 (dM prog0 Bn (n+1)) 9 x):∃s,x= .str s∧By s:=by
 unfold oE sV at h;rw[Uy]at h;simp only[dM,Uy]at h;obtain⟨s,e,_,hb⟩:=h;simp only[lμ,and_true]at e;exact⟨s,e,hb⟩
theorem Rk {n:Nat}:evFn lay0.tab (n+1) 7 [] []=some (.p (.bool true),[]):=by kernel_rfl
end
end Go.Ab
end
section
namespace Go.Ab
open Go
set_option maxRecDepth 100000
noncomputable section
theorem fP {α:Type}(xs:List α)(L:Nat→Int→R)(out:R)(hs:∀q i (h:i<xs.length),L (q+1) (i:Int)=L q ((i+1:Nat):Int))(he:∀q,L (q+1) (xs.length:Int)=out){q:Nat}(hq:xs.length<q):L q 0=out:=by
 have e:=iS xs L (fun _=>false) (fun _=>out) out (fun q i h=>by rw[hs q i h];rfl) he hq;rw[e];cases xs.findIdx? fun _=>false<;>rfl
theorem mw (a:Int):eqI a a=true:=ZH rfl
theorem Ek (s:List Nat):cp s s=true:=by rw[iq];simp
def WY (b:Nat)(v:Va):Prop:=v.I.length≤b∧v.L.length≤b
def YC (b:Nat)(n:No):Prop:=WY b n.v∧n.kids.length≤b
def YB (b:Nat)(m:Me):Prop:=m.params.length≤b∧m.nodes.length≤b∧∀n∈m.nodes,YC b n
def YD (b:Nat)(t:Ac):Prop:=t.fields.length≤b∧t.methods.length≤b∧(∀f∈t.fields,WY b f.init)∧∀m∈t.methods,YB b m
def Zg (b:Nat)(p:List Ac):Prop:=p.length≤b∧∀t∈p,YD b t
theorem MC {m:Nat}(l:List Int)(hm:l.length+2≤m)(hl:l.length<fA):evFn lay0.tab m 93 [.p (.slice 1 (l.map iE)),.p (.slice 1 (l.map iE))] []=some (.p (.bool true),[]):=by
 replace hm:=aO hm;obtain⟨m,rfl,hm⟩:=hm;apply Nd m (l.map iE) (l.map iE);unfold wh;rw[mw,Bool.not_true,aQ,lθ];refine fP l (fun q i=>lz _ m _ _ q (l.map iE,l.map iE,(l.length:Int),i)) _ (fun q i hi=>?_) (fun q=>?_) (by omega)
 ·rw[tL];simp only[jc,ue (show((i:Int)<(l.length:Int)) by omega),aR,cR,ji,jf hi,dL,dI,mw,Bool.not_true,aQ,wS (show i<fA by omega)]
 ·rw[tL];simp only[jc,oA,aQ]
theorem MD {m:Nat}(l:List (List Nat))(hm:l.length+2≤m)(hl:l.length<fA):evFn lay0.tab m 94 [.p (.slice 1 (l.map .str)),.p (.slice 1 (l.map .str))] []=some (.p (.bool true),[]):=by
 replace hm:=aO hm;obtain⟨m,rfl,hm⟩:=hm;apply Nf m (l.map .str) (l.map .str);unfold wi;rw[mw,Bool.not_true,aQ,lθ];refine fP l (fun q i=>lA _ m _ _ q (l.map .str,l.map .str,(l.length:Int),i)) _ (fun q i hi=>?_) (fun q=>?_) (by omega)
 ·rw[tM];simp only[jd,ue (show((i:Int)<(l.length:Int)) by omega),aR,cR,ji,jf hi,dL,ig,Ek,Bool.not_true,aQ,wS (show i<fA by omega)]
 ·rw[tM];simp only[jd,oA,aQ]
theorem UP {m:Nat}(l:List Int)(hm:l.length+2≤m)(hl:l.length<fA):evFn lay0.tab m 31 [.p (.slice 1 (l.map iE)),.p (.slice 1 (l.map iE))] []=some (.p (.bool true),[]):=by
 replace hm:=aO hm;obtain⟨m,rfl,hm⟩:=hm;apply U1 m (l.map iE) (l.map iE);unfold Ga;rw[mw,Bool.not_true,aQ,lθ];refine fP l (fun q i=>qt _ m _ _ q (l.map iE,l.map iE,(l.length:Int),i)) _ (fun q i hi=>?_) (fun q=>?_) (by omega)
 ·rw[zM];simp only[mZ,ue (show((i:Int)<(l.length:Int)) by omega),aR,cR,ji,jf hi,dL,dI,mw,Bool.not_true,aQ,wS (show i<fA by omega)]
 ·rw[zM];simp only[mZ,oA,aQ]
theorem US {m:Nat}(l:List Pa)(hm:l.length+2≤m)(hl:l.length<fA):evFn lay0.tab m 34 [.p (.slice 2 (l.map Pa.e)),.p (.slice 2 (l.map Pa.e))] []=some (.p (.bool true),[]):=by
 replace hm:=aO hm;obtain⟨m,rfl,hm⟩:=hm;apply U4 m (l.map Pa.e) (l.map Pa.e);unfold Gd;rw[mw,Bool.not_true,aQ,lθ];refine fP l (fun q i=>qw _ m _ _ q (l.map Pa.e,l.map Pa.e,(l.length:Int),i)) _ (fun q i hi=>?_) (fun q=>?_) (by omega)
 ·rw[zP];simp only[m9,ue (show((i:Int)<(l.length:Int)) by omega),aR,cR,ji,jf hi,dL,ZE,mw,Ek,Bool.not_true,aQ,wS (show i<fA by omega)]
 ·rw[zP];simp only[m9,oA,aQ]
theorem Mt {m b:Nat}(v:Va)(h:WY b v)(hm:b+3≤m)(hl:b<fA):evFn lay0.tab m 64 [.p v.e,.p v.e] []=some (.p (.bool true),[]):=by
 replace hm:=aO hm;obtain⟨m,rfl,hm⟩:=hm;apply MZ m v.r v.r;unfold vS;simp only[mw,Ek,aR,show v.r.I=v.I.map iE from rfl,show v.r.L=v.L.map .str from rfl,aa (MC (m:=m) v.I (by have:=h.1;omega) (by have:=h.1;omega)),aa (MD (m:=m) v.L (by have:=h.2;omega) (by have:=h.2;omega)),aJ,aq,aM]
theorem Iq {m b:Nat}(v:Va)(h:WY b v)(hm:b+4≤m)(hl:b<fA):evFn lay0.tab m 30 [.p v.e,.p v.e] []=some (.p (.bool true),[]):=by
 replace hm:=aO hm;obtain⟨m,rfl,hm⟩:=hm;apply RI m v.r v.r;unfold Bh;have:=Mt (m:=m) v h (by omega) hl;simp only[Va.e]at this;simp only[aa this,aJ,aq,aM]
theorem Mr {m b:Nat}(n:No)(h:YC b n)(hm:b+5≤m)(hl:b<fA):evFn lay0.tab m 29 [.p n.e,.p n.e] []=some (.p (.bool true),[]):=by
 replace hm:=aO hm;obtain⟨m,rfl,hm⟩:=hm;apply MX m n.r n.r;unfold vQ;have h1:=Iq (m:=m) n.v h.1 (by omega) hl;have h2:=UP (m:=m) n.kids (by have:=h.2;omega) (by have:=h.2;omega);simp only[Va.e,Va.r,bH.e]at h1;simp only[No.r,mw,Ek,aR,aa h1,aa h2,aJ,aq,aM,iC]
theorem UR {m b:Nat}(l:List No)(h:∀n∈l,YC b n)(hb:l.length≤b)(hm:b+6≤m)(hl:b<fA):evFn lay0.tab m 35 [.p (.slice 8 (l.map No.e)),.p (.slice 8 (l.map No.e)),.p (.fn 29 [])] []=some (.p (.bool true),[]):=by
 replace hm:=aO hm;obtain⟨m,rfl,hm⟩:=hm;apply U3 m (l.map No.e) (l.map No.e);unfold Gc;rw[mw,Bool.not_true,aQ,lθ];refine fP l (fun q i=>qv _ m _ _ q (l.map No.e,l.map No.e,(l.length:Int),i)) _ (fun q i hi=>?_) (fun q=>?_) (by omega)
 ·rw[zO];have e:=Mr (m:=m) l[i] (h _ (mπ hi)) (by omega) hl;simp only[No.e]at e;simp only[m8,ue (show((i:Int)<(l.length:Int)) by omega),aR,cR,ji,jf hi,dL,Zm,aa e,aJ,aq,iC,Bool.not_true,aQ,wS (show i<fA by omega)]
 ·rw[zO];simp only[m8,oA,aQ]
theorem Mp {m b:Nat}(f:Fe)(h:WY b f.init)(hm:b+5≤m)(hl:b<fA):evFn lay0.tab m 32 [.p f.e,.p f.e] []=some (.p (.bool true),[]):=by
 replace hm:=aO hm;obtain⟨m,rfl,hm⟩:=hm;apply MV m f.r f.r;unfold vO;have h1:=Iq (m:=m) f.init h (by omega) hl;simp only[Va.e,Va.r,bH.e]at h1;simp only[Fe.r,mw,Ek,aR,aa h1,aJ,aq,aM]
theorem UO {m b:Nat}(l:List Fe)(h:∀f∈l,WY b f.init)(hb:l.length≤b)(hm:b+6≤m)(hl:b<fA):evFn lay0.tab m 38 [.p (.slice 7 (l.map Fe.e)),.p (.slice 7 (l.map Fe.e)),.p (.fn 32 [])] []=some (.p (.bool true),[]):=by
 replace hm:=aO hm;obtain⟨m,rfl,hm⟩:=hm;apply U0 m (l.map Fe.e) (l.map Fe.e);unfold F9;rw[mw,Bool.not_true,aQ,lθ];refine fP l (fun q i=>qr _ m _ _ q (l.map Fe.e,l.map Fe.e,(l.length:Int),i)) _ (fun q i hi=>?_) (fun q=>?_) (by omega)
 ·rw[zL];have e:=Mp (m:=m) l[i] (h _ (mπ hi)) (by omega) hl;simp only[Fe.e]at e;simp only[mY,ue (show((i:Int)<(l.length:Int)) by omega),aR,cR,ji,jf hi,dL,Zi,aa e,aJ,aq,iC,aM,Bool.not_true,aQ,wS (show i<fA by omega)]
 ·rw[zL];simp only[mY,oA,aQ]
abbrev Yn:List Ob:=[.box [.p (.fn 29 [])]]
abbrev Yo:List Ob:=[.box [.p (.fn 32 [])],.box [.fn 33 [.box 2 0]],.box [.p (.fn 29 [])]]
theorem Mq {m b:Nat}(x:Me)(h:YB b x)(hm:b+7≤m)(hl:b<fA):evFn lay0.tab m 33 [.p x.e,.p x.e,.box 0 0] Yn=some (.p (.bool true),Yn):=by
 replace hm:=aO hm;obtain⟨m,rfl,hm⟩:=hm;apply MW m x.r x.r;unfold vP;have h1:=US (m:=m) x.params (by have:=h.1;omega) (by have:=h.1;omega);have h2:=UR (m:=m) x.nodes h.2.2 h.2.1 (by omega) hl;simp only[Me.r,mw,Ek,aR,aa h1,aa h2,aJ,aq,aM,iC]
theorem UQ {m b:Nat}(l:List Me)(h:∀x∈l,YB b x)(hb:l.length≤b)(hm:b+8≤m)(hl:b<fA):evFn lay0.tab m 39 [.p (.slice 4 (l.map Me.e)),.p (.slice 4 (l.map Me.e)),.fn 33 [.box 0 0]] Yn=some (.p (.bool true),Yn):=by
 replace hm:=aO hm;obtain⟨m,rfl,hm⟩:=hm;apply U2 m (l.map Me.e) (l.map Me.e);unfold Gb;rw[mw,Bool.not_true,aQ,lθ];refine fP l (fun q i=>qu _ m _ _ q (l.map Me.e,l.map Me.e,(l.length:Int),i)) _ (fun q i hi=>?_) (fun q=>?_) (by omega)
 ·rw[zN];have e:=Mq (m:=m) l[i] (h _ (mπ hi)) (by omega) hl;simp only[Me.e]at e;simp only[m0,ue (show((i:Int)<(l.length:Int)) by omega),aR,cR,ji,jf hi,dL,Zj,aa e,aJ,aq,iC,aM,Bool.not_true,aQ,wS (show i<fA by omega)]
 ·rw[zN];simp only[m0,oA,aQ]
theorem Ms {m b:Nat}(x:Ac)(h:YD b x)(hm:b+9≤m)(hl:b<fA):evFn lay0.tab m 37 [.p x.e,.p x.e,.box 0 0,.box 1 0] Yo=some (.p (.bool true),Yo):=by
 replace hm:=aO hm;obtain⟨m,rfl,hm⟩:=hm;apply MY m x.r x.r;unfold vR;have h1:=UO (m:=m) x.fields h.2.2.1 h.1 (by omega) hl;have h2:=UQ (m:=m) x.methods h.2.2.2 h.2.1 (by omega) hl;simp only[Ac.r,mw,Ek,aR,aa h1,aa h2,aJ,aq,aM,iC]
theorem UT {m b:Nat}(l:List Ac)(h:∀x∈l,YD b x)(hb:l.length≤b)(hm:b+10≤m)(hl:b<fA):evFn lay0.tab m 36 [.p (.slice 3 (l.map Ac.e)),.p (.slice 3 (l.map Ac.e)),.fn 37 [.box 0 0,.box 1 0]] Yo=some (.p (.bool true),Yo):=by
 replace hm:=aO hm;obtain⟨m,rfl,hm⟩:=hm;apply U5 m (l.map Ac.e) (l.map Ac.e);unfold Ge;rw[mw,Bool.not_true,aQ,lθ];refine fP l (fun q i=>qx _ m _ _ q (l.map Ac.e,l.map Ac.e,(l.length:Int),i)) _ (fun q i hi=>?_) (fun q=>?_) (by omega)
 ·rw[zQ];have e:=Ms (m:=m) l[i] (h _ (mπ hi)) (by omega) hl;simp only[Ac.e]at e;simp only[nf,ue (show((i:Int)<(l.length:Int)) by omega),aR,cR,ji,jf hi,dL,YG,aa e,aJ,aq,iC,aM,Bool.not_true,aQ,wS (show i<fA by omega)]
 ·rw[zQ];simp only[nf,oA,aQ]
theorem Rm {m b:Nat}(l:List Ac)(h:Zg b l)(hm:b+11≤m)(hl:b<fA):evFn lay0.tab m 12 [.p (.agg [.slice 3 (l.map Ac.e)]),.p (.agg [.slice 3 (l.map Ac.e)])] []=some (.p (.bool true),[]):=by
 replace hm:=aO hm;obtain⟨m,rfl,hm⟩:=hm;apply RC m ⟨l.map Ac.e⟩ ⟨l.map Ac.e⟩;unfold Bb;have h1:=UT (m:=m) l h.2 h.1 (by omega) hl;simp only[aa h1,aJ,aq,iC]
end
end Go.Ab
end
section
namespace Go.Ab
open Go
set_option maxRecDepth 100000
noncomputable section
def Sep (c0:Nat)(u:List Nat):Prop:=c0=10∨(c0=32∧47∉u)
theorem Sep.bla {c0:Nat}{u:List Nat}(h:Sep c0 u):c0=10∨c0=32:=h.elim .inl fun h=> .inr h.1
theorem Sep.sub {c0:Nat}{u v:List Nat}(h:Sep c0 u)(hs:∀x∈v,x∈u):Sep c0 v:=h.elim .inl fun h=> .inr ⟨h.1,fun hv=>h.2 (hs _ hv)⟩
theorem yz {p:Int→Bool}{c0:Nat}(hp:p (c0:Int)=false)(r:List Nat):∀s:List Nat,dD p (s++c0::r)=dD p s
 |[]=>by
  unfold dD;simp[List.takeWhile_cons,hp]
 |c::s=>by
  have ih:=yz hp r s;unfold dD at ih ⊢
  rw[List.cons_append,List.takeWhile_cons,List.takeWhile_cons];cases p (c:Int)with
  |true=>simp only[if_true,List.length_cons,ih]
  |false=>rfl
theorem yJ {s:List Nat}{n:Nat}(h:n≤s.length)(t:List Nat):(s++t).take n=s.take n:=List.take_append_of_le_length h
theorem Yc {c0:Nat}(h:c0=10∨c0=32):FU (c0:Int)=false:=by rcases h with rfl|rfl<;>rfl
theorem Xp {c0:Nat}(h:c0=10∨c0=32):eE (c0:Int)=false:=by rcases h with rfl|rfl<;>rfl
theorem Mi {c0:Nat}(h:c0=10∨c0=32)(r:List Nat)(c:Nat)(s:List Nat):cJ ((c::s)++c0::r)=cJ (c::s):=by
 unfold cJ;rw[yz (Yc h)];rfl
theorem Qr {c0:Nat}(h:c0=10∨c0=32)(r:List Nat)(c:Nat)(s:List Nat):E5 ((c::s)++c0::r)=E5 (c::s):=by
 unfold E5;rw[yz (Xp h),yJ (yB _ _)];rfl
theorem rR (t:List Nat):∀(n:Nat) (s out:List Nat) (i:Nat),s.length≤n→(my s out i).2.2=0→my (s++t) out i=my s out i
 |n,[],out,i,hn,h=>by cases h
 |0,c::s,out,i,hn,h=>by simp at hn
 |n+1,c::s,out,i,hn,h=>by
  simp only[List.length_cons]at hn;rw[List.cons_append];unfold my at h ⊢
  cases h1:LQ (c:Int)with
  |true=>
   rw[h1,cond_true]at h;rw[cond_true,cond_true];exact rR t n s _ _ (by omega) h
  |false=>
   rw[h1,cond_false]at h;rw[cond_false,cond_false];cases h2:Nat.beq c 34 with
   |true=>rfl
   |false=>
    rw[h2,cond_false]at h;rw[cond_false,cond_false];cases h3:Nat.beq c 92 with
    |false=>rfl
    |true=>
     rw[h3,cond_true]at h;rw[cond_true,cond_true];match s,hn,h with
     |[],_,h=>cases h
     |d::s1,hn,h=>
      simp only[List.cons_append]at h ⊢
      simp only[List.length_cons]at hn;cases h4:(Nat.beq d 34||Nat.beq d 92)with
      |true=>
       rw[h4,cond_true]at h;rw[cond_true,cond_true];exact rR t n s1 _ _ (by omega) h
      |false=>
       rw[h4,cond_false]at h;rw[cond_false,cond_false];match s1,hn,h with
       |[],_,h=>cases h
       |[a],_,h=>cases h
       |a::b::s2,hn,h=>
        simp only[List.cons_append]at h ⊢
        simp only[List.length_cons]at hn;cases h5:(Nat.beq d 120&&(bh 0 (gf a)&&bh 0 (gf b)))with
        |false=>rw[h5]at h;cases h
        |true=>
         rw[h5,cond_true]at h;rw[cond_true,cond_true];exact rR t n s2 _ _ (by omega) h
theorem QU {c0:Nat}(h:c0=10∨c0=32)(r:List Nat)(c:Nat):∀(s:List Nat),mb ((c::s)++c0::r)=mb (c::s)
 |d::s=>rfl
 |[]=>by
  unfold mb;have h1:twoS.any (gq (c::c0::r))=false:=by
   have e:∀a b:Nat,b≠c0→gq (c::c0::r) [a,b]=false:=fun a b hb=>by
    unfold gq;rw[iq,lχ];intro e;simp at e;exact hb e.2.symm
   simp only[twoS,List.any_cons,List.any_nil];rw[e _ _ (by omega),e _ _ (by omega),e _ _ (by omega),e _ _ (by omega),e _ _ (by omega),e _ _ (by omega)];rfl
  have h2:twoS.any (gq [c])=false:=by
   have e:∀a b:Nat,gq [c] [a,b]=false:=fun a b=>by
    unfold gq;rw[iq,lχ];intro e;simp at e
   simp only[twoS,List.any_cons,List.any_nil,e];rfl
  show(bif twoS.any (gq (c::c0::r))then 2 else _)=_;rw[h1,h2];rfl
theorem C2 (c:Nat)(r:List Nat):cV (c::r)=bif bo 0 (cJ (c::r):Int)then
   (bif bo 32 (cJ (c::r):Int)then pU 5 else bif zl ((c::r).take (cJ (c::r)))then(⟨2,(c::r).take (cJ (c::r)),0,0⟩,(cJ (c::r):Int),0)else(⟨1,(c::r).take (cJ (c::r)),0,0⟩,(cJ (c::r):Int),0))
  else bif eE c then E5 (c::r)else bif Nat.beq c 34 then my r [] 1 else
   bif eqI (mb (c::r)) 0 then pU 13 else(⟨5,(c::r).take (mb (c::r)),0,0⟩,(mb (c::r):Int),0):=rfl
theorem Q4 {c0:Nat}(h:c0=10∨c0=32)(r:List Nat)(c:Nat)(s:List Nat)(ho:(cV (c::s)).2.2=0):cV ((c::s)++c0::r)=cV (c::s):=by
 have hw:=Mi h r c s;have hn:=Qr h r c s;have hs:=QU h r c s;have tw:=yJ (C7 (c::s)) (c0::r);have ts:=yJ (Ib (c::s)) (c0::r);simp only[List.cons_append]at hw hn hs tw ts ⊢
 rw[C2]at ho;rw[C2,C2,hw,hn,hs,tw,ts];cases h1:bo 0 (cJ (c::s):Int)with
 |true=>rfl
 |false=>
  rw[h1,cond_false]at ho;rw[cond_false,cond_false];cases h2:eE (c:Int)with
  |true=>rfl
  |false=>
   rw[h2,cond_false]at ho;rw[cond_false,cond_false];cases h3:Nat.beq c 34 with
   |false=>rfl
   |true=>
    rw[h3,cond_true]at ho;rw[cond_true,cond_true];exact rR (c0::r) s.length s [] 1 (Nat.le_refl _) ho
theorem vG {c0:Nat}(r:List Nat):∀(b:Bool) (s:List Nat),(c0=10∨(c0=32∧b=false∧47∉s))→fb b (s++c0::r)=bif Nat.beq (fb b s) s.length then s.length+1+fb false r else fb b s
 |true,[],h=>by
  rcases h with rfl|⟨_,h,_⟩
  ·simp[fb,vA,cF];omega
  ·cases h
 |false,[],h=>by
  have:GX c0=true:=by rcases h with rfl|⟨rfl,_⟩<;>rfl
  simp only[List.nil_append,fb,this,cond_true,List.length_nil];show _=0+1+fb false r;omega
 |true,c::s,h=>by
  have hc:c0=10:=h.elim id fun h=>by cases h.2.1
  have ih:=vG r (vA c) s (.inl hc);simp only[List.cons_append,fb,List.length_cons,ih];cases e:Nat.beq (fb (vA c) s) s.length with
  |true=>
   have e':=lζ e;rw[show Nat.beq (fb (vA c) s+1) (s.length+1)=true from e];simp only[cond_true];omega
  |false=>
   rw[show Nat.beq (fb (vA c) s+1) (s.length+1)=false from e];simp only[cond_false]
 |false,c::s,h=>by
  simp only[List.cons_append,fb,List.length_cons];cases h1:GX c with
  |true=>
   have ih:=vG r false s (h.elim .inl fun h=> .inr ⟨h.1,rfl,fun hm=>h.2.2 (mθ _ hm)⟩);simp only[cond_true,ih];cases e:Nat.beq (fb false s) s.length with
   |true=>rw[show Nat.beq (fb false s+1) (s.length+1)=true from e];simp only[cond_true];omega
   |false=>rw[show Nat.beq (fb false s+1) (s.length+1)=false from e];simp only[cond_false]
  |false=>
   simp only[cond_false];have hp:gq (c::(s++c0::r)) [47,47]=gq (c::s) [47,47]:=by
    cases s with
    |cons d s=>rfl
    |nil=>
     have hc:c0≠47:=by rcases h with h|h<;>omega
     unfold gq;rw[iq,iq,decide_eq_decide];simp[hc]
   rw[hp];cases h2:gq (c::s) [47,47]with
   |false=>rfl
   |true=>
    have hc:c0=10:=h.elim id fun h=>by
     exfalso;unfold gq at h2;rw[iq,lβ]at h2;cases s with
     |nil=>simp at h2
     |cons d s=>simp at h2;exact h.2.2 (by rw[h2.1];simp)
    have ih:=vG r true s (.inl hc);simp only[cond_true,ih];cases e:Nat.beq (fb true s) s.length with
    |true=>rw[show Nat.beq (fb true s+1) (s.length+1)=true from e];simp only[cond_true];omega
    |false=>rw[show Nat.beq (fb true s+1) (s.length+1)=false from e];simp only[cond_false]
theorem JI (c:Nat)(v:List Nat)(hb:By (c::v))(ho:(cV (c::v)).2.2=0):0<(cV (c::v)).2.1.toNat∧(cV (c::v)).2.1.toNat≤(c::v).length:=by
 have:=(C3 c v hb).2 ho;omega
def uy (q:Nat)(u:List Nat)(i:Nat)(acc:List Tk):List Tk×Int×Int:=Ic q (u.drop (fb false u)) (i+fb false u) acc
theorem nS (q:Nat)(c:Nat)(r:List Nat)(i:Nat)(acc:List Tk):Ic (q+1) (c::r) i acc=bif !eqI (cV (c::r)).2.2 0 then([],(i:Int),(cV (c::r)).2.2)else
  uy q ((c::r).drop (cV (c::r)).2.1.toNat) (i+(cV (c::r)).2.1.toNat) (acc++[{(cV (c::r)).1 with a:=(i:Int)}]):=by
 unfold uy;rw[mκ];show(bif _ then _ else Ic q _ _ _)=_;rw[Nat.add_assoc]
theorem vJ {c0:Nat}(r:List Nat):∀(q:Nat) (u:List Nat) (i:Nat) (acc T:List Tk) (a:Int),By u→Sep c0 u→u.length≤q→uy (q+1) u i acc=(T,a,0)→
  ∃k,∀q',uy (q'+k) (u++c0::r) i acc=uy q' r (i+u.length+1) T
 |q,u,i,acc,T,a,hb,hs,hq,h=>by
  have hk:=vG r false u (hs.elim .inl fun h=> .inr ⟨h.1,rfl,h.2⟩);have hle:=qh false u;unfold uy at h;cases e:Nat.beq (fb false u) u.length with
  |true=>
   have e':=lζ e;rw[e']at h;rw[List.drop_length]at h;injection h with h1 h2;subst h1;refine⟨0,fun q'=>?_⟩
   unfold uy;rw[hk,e,cond_true,Nat.add_zero];have e1:(u++c0::r).drop (u.length+1+fb false r)=r.drop (fb false r):=by
    rw[Nat.add_assoc,←mκ,List.drop_left,Nat.add_comm 1,List.drop_succ_cons]
   rw[e1,show i+(u.length+1+fb false r)=i+u.length+1+fb false r by omega]
  |false=>
   rw[e,cond_false]at hk;have hlt:fb false u<u.length:=by
    have:fb false u≠u.length:=fun e'=>by rw[e',Nat.beq_refl]at e;cases e
    omega
   generalize hv:u.drop (fb false u)=v at h;have hvl:v.length≤u.length:=by rw[←hv,lτ];omega
   have hvs:∀x∈v,x∈u:=fun x hx=>mι (hv▸hx)
   have hvp:v.length+fb false u=u.length:=by rw[←hv,lτ];omega
   match v,hv,hvl,hvs,hvp,h with
   |[],hv,_,_,hvp,_=>simp at hvp;omega
   |c::v,hv,hvl,hvs,hvp,h=>
    rw[nS]at h;cases ho:eqI (cV (c::v)).2.2 0 with
    |false=>
     rw[ho,Bool.not_false,cond_true]at h;injection h with _ h;injection h with _ h;rw[h]at ho;cases ho
    |true=>
     rw[ho,Bool.not_true,cond_false]at h;rw[cF,lβ]at ho;obtain⟨t1,t2⟩:=JI c v (fun x hx=>hb x (hvs x hx)) ho;obtain⟨q,rfl⟩:∃j,q=j+1:=⟨q - 1,by simp only[List.length_cons]at hvl;omega⟩
     obtain⟨k,hk2⟩:=vJ r q _ _ _ T a (fun x hx=>hb x (hvs x (mι hx))) (hs.sub fun x hx=>hvs x (mι hx)) (by rw[lτ];simp only[List.length_cons]at hvl ⊢;omega) h;refine⟨k+1,fun q'=>?_⟩
     have e1:(u++c0::r).drop (fb false u)=(c::v)++c0::r:=by rw[List.drop_append_of_le_length hle,hv]
     have e2:=Q4 hs.bla r c v ho;unfold uy;rw[hk,e1,show q'+(k+1)=(q'+k)+1 from rfl];rw[List.cons_append]at e2 ⊢
     rw[nS,e2,ho,show eqI (0:Int) 0=true from rfl,Bool.not_true,cond_false,←List.cons_append,List.drop_append_of_le_length t2,hk2,lτ];have e3:i+fb false u+(cV (c::v)).2.1.toNat+((c::v).length - (cV (c::v)).2.1.toNat)+1=i+u.length+1:=by omega
     rw[e3];rfl
end
end Go.Ab
end
