import Derived.Test.YtbgddkffhndjcaaGreatDoorKg2
import Derived.Test.YtbgddkffhndjcaaGreatDoorOg3
set_option linter.all false
section
namespace Go.Ab
open Go
set_option maxRecDepth 100000
noncomputable section
theorem xZ {b:Nat}{st:PM Int}(hs:eq b st):∀(q:Nat) (l:List Int) (s0 s:PS),Iv s→Ad s0 s→s.rem+2≤q→s.rem≤b→l.length≤s.ps→(∀x∈l,Ix x s)→
  Tt s0 s (fZ st q l) (fun l' t=>l'.length≤t.ps+1∧(∀x∈l',Ix x t)∧Ad s t)
 |0,l,s0,s,i,a,h1,_,_,_=>by omega
 |q+1,l,s0,s,i,a,h1,h2,h3,h4=>by
  have h6:=i.le;have h7:=i.len;unfold fZ;refine Tt.cok (fun hk=>?_) (fun hk=>Tt.ret i a ⟨by omega,h4,Ad.refl s⟩);refine Tt.cnd i (fun hc=>Tt.ret i a ⟨by omega,h4,Ad.refl s⟩) fun hc=>?_
  refine(Tt.snoc (hs.at i a h2) (by omega)).bnd fun l1 s1 i1 a1 h5=>?_
  obtain⟨x,rfl,hx,hcs,ha⟩:=h5;have hq:∀y∈l++[x],Ix y s1:=fun y hy=>by
   rcases mη.1 hy with hy|hy
   ·exact(h4 y hy).mono ha
   ·simp only[List.mem_singleton]at hy;subst hy;exact hx
  have hps:=ha.ps;have hle:(l++[x]).length=l.length+1:=by rw[lπ,List.length_singleton]
  cases hk1:s1.ok with
  |true=>
   have h8:=hcs hk1;have h9:=ha.rem1 i1 h8;exact(xZ hs q (l++[x]) s0 s1 i1 a1 (by omega) (by omega) (by omega) hq).imp fun l' t _ _ h=>⟨h.1,h.2.1,ha.trans h.2.2⟩
  |false=>
   obtain⟨q,rfl⟩:∃k,q=k+1:=⟨q - 1,by omega⟩
   unfold fZ;exact Tt.cok (fun h=>by rw[hk1]at h;cases h) fun _=>Tt.ret i1 a1 ⟨by omega,hq,ha⟩
def Ro (lim:PM Unit):Prop:=∀s0 s,Iv s→Ad s0 s→0<s.nd.length→Tt s0 s lim (fun _ t=>Ad s t∧t.ps=s.ps∧t.nd=s.nd)
theorem MT:Ro (.ret ()):=fun s0 s i a h=>Tt.ret i a ⟨Ad.refl s,rfl,rfl⟩
theorem MS:Ro wx:=by
 intro s0 s i a h;have h1:=i.nd;have h2:=i.le;have h3:=i.len;have hb:(decide (s.nd.length<10000)&&decide (0<s.nd.length)&&s.nd.all (rA s.nd.length))=true:=by
  rw[lβ,lβ,lγ,lγ,mγ];refine⟨⟨by omega,h⟩,fun x hx=>?_⟩
  have:=i.wf x hx;unfold rA;rw[lβ,lγ,mγ];refine⟨this.2,fun k hk=>?_⟩
  have:=this.1 k hk;rw[lβ,j1,p9,lγ,lγ];exact this
 have hf:=lj s 5;unfold Tt wx;rw[hb,cond_true];refine⟨(),_,rfl,?_⟩;cases br 1500 (ao .i64 (s.tt+(s.nd.length:Int)))with
 |true=>exact⟨i.fail 5,a.trans (et s (by decide)),et s (by decide),hf.2.2.1,hf.2.2.2.1⟩
 |false=>
  rw[cond_false];cases br 24 (jp s.nd)with
  |true=>exact⟨i.fail 5,a.trans (et s (by decide)),et s (by decide),hf.2.2.1,hf.2.2.2.1⟩
  |false=>exact⟨i,a,Ad.refl s,rfl,rfl⟩
theorem wq {b q:Nat}{lim:PM Unit}{st:PM Int}(hl:Ro lim)(hs:eq b st)(hq:b+2≤q):eq (b+1) (iV lim st q):=by
 intro s i hr;unfold iV;refine(Tt.opn i (Ad.refl s) _).bnd fun _ s1 i1 a1 h1=>?_
 have hblk:Tt s s1 (fZ st q []) (fun l' t=>l'.length≤t.ps+1∧(∀x∈l',Ix x t)∧Ad s1 t):=by
  cases hk:s1.ok with
  |true=>
   have hr1:=h1.ad.rem1 i1 (by have:=h1.st hk;omega);exact xZ hs q [] s s1 i1 a1 (by omega) (by omega) (by simp) (by simp)
  |false=>
   obtain⟨q,rfl⟩:∃k,q=k+1:=⟨q - 1,by omega⟩
   unfold fZ;exact Tt.cok (fun h=>by rw[hk]at h;cases h) fun _=>Tt.ret i1 a1 ⟨by simp,by simp,Ad.refl s1⟩
 refine hblk.bnd fun l s2 i2 a2 h2=>?_
 refine Tt.cok (fun hk=>?_) (fun hk=>Tt.ret i2 a2 ⟨fun k=>(by rw[hk]at k;cases k),fun k=>(by rw[hk]at k;cases k)⟩);have d1:s1.nd.length=s.nd.length:=by rw[h1.nd]
 have d2:=h2.2.2.de;have p1:=h1.st (h2.2.2.ok hk);have p2:=h2.2.2.ps;refine(Tt.add i i2 a2 (fun _=>by omega) (fun hk k hk'=>h2.2.1 k hk' hk) (by have:=h2.1;have:=i2.le;have:=i2.len;simp only[];omega)).bnd fun x s3 i3 a3 h3=>?_
 refine(hl s s3 i3 a3 (by have:=h3.2.2.2 (by rw[h3.2.2.1];exact hk);omega)).bnd fun _ s4 i4 a4 h4=>?_
 refine(Tt.cls i4 a4 _).bnd fun _ s5 i5 a5 h5=>?_
 refine Tt.ret i5 a5 ⟨(h3.1.mono h4.1).mono h5.ad,fun hk=>?_⟩
 have:=h5.ad.ps;have:=h4.2.1;have:=h3.2.1;omega
theorem Gk {q:Nat}:∀(b:Nat),b+3≤q→∀f,7*b+8≤f→eq b (Ii q f)
 |0,hq,f,hf=>by
  obtain⟨f,rfl⟩:∃k,f=k+1:=⟨f - 1,by omega⟩
  intro s i hr;have hps:¬s.ps<s.tk.length:=by unfold PS.rem at hr;omega
  unfold Ii iV;refine(Tt.opn i (Ad.refl s) _).bnd fun _ s1 i1 a1 h1=>?_
  have hk:s1.ok=false:=by
   cases hk:s1.ok with
   |false=>rfl
   |true=>have:=h1.st hk;have h2:=i1.le;rw[a1.tk]at h2;omega
  have hblk:Tt s s1 (fZ (mN (pK q f 0) (Ii q f) q) q []) (fun l t=>t.ok=false):=by
   obtain⟨q,rfl⟩:∃k,q=k+1:=⟨q - 1,by omega⟩
   unfold fZ;exact Tt.cok (fun h=>by rw[hk]at h;cases h) fun _=>Tt.ret i1 a1 hk
  refine hblk.bnd fun l s2 i2 a2 h2=>?_
  exact Tt.cok (fun hk=>by rw[h2]at hk;cases hk) (fun hk=>Tt.ret i2 a2 ⟨fun k=>(by rw[hk]at k;cases k),fun k=>(by rw[hk]at k;cases k)⟩)
 |b+1,hq,f,hf=>by
  obtain⟨f,rfl⟩:∃k,f=k+1:=⟨f - 1,by omega⟩
  unfold Ii;exact wq MT ((yO (Af b (by omega) 0 (by omega) f (by omega)) (Gk b (by omega) f (by omega)) (by omega)).le (Nat.le_succ b)) (by omega)
structure Ao (s t:PS):Prop where
 tk:t.tk=s.tk
 en:t.en=s.en
 ps:s.ps≤t.ps
 ok:t.ok=true→s.ok=true
theorem Ao.refl (s:PS):Ao s s:=⟨rfl,rfl,Nat.le_refl _,id⟩
theorem Ao.trans {a b c:PS}(h:Ao a b)(g:Ao b c):Ao a c:=⟨g.tk.trans h.tk,g.en.trans h.en,mμ h.ps g.ps,fun k=>h.ok (g.ok k)⟩
theorem Ad.o {s t:PS}(h:Ad s t):Ao s t:=⟨h.tk,h.en,h.ps,h.ok⟩
theorem Ao.rem {s t:PS}(h:Ao s t):t.rem≤s.rem:=by have:=h.ps;unfold PS.rem;rw[h.tk];omega
theorem Ao.rem1 {s t:PS}(h:Ao s t)(i:Iv t)(g:s.ps<t.ps):t.rem+1≤s.rem:=by have:=i.le;unfold PS.rem;rw[h.tk]at*;omega
def To {α:Type}(s0 s:PS)(p:PM α)(Q:α→PS→Prop):Prop:=∃a t,p s=some (a,t)∧Iv t∧Ao s0 t∧Q a t
theorem To.bnd {α β:Type}{s0 s:PS}{p:PM α}{f:α→PM β}{Q:α→PS→Prop}{R:β→PS→Prop}(h:To s0 s p Q)(g:∀a t,Iv t→Ao s0 t→Q a t→To s0 t (f a) R):To s0 s (p.bnd f) R:=by
 obtain⟨a,t,h1,h2,h3,h4⟩:=h;obtain⟨b,u,g1,g2,g3,g4⟩:=g a t h2 h3 h4;exact⟨b,u,by simp only[PM.bnd,h1,g1],g2,g3,g4⟩
theorem Tt.o {α:Type}{s0 s:PS}{p:PM α}{Q:α→PS→Prop}(h:Tt s s p Q)(a:Ao s0 s):To s0 s p (fun x t=>Q x t∧Ao s t):=by
 obtain⟨x,t,h1,h2,h3,h4⟩:=h;exact⟨x,t,h1,h2,a.trans h3.o,h4,h3.o⟩
theorem To.of {α:Type}{s0 s:PS}{p:PM α}{Q R:α→PS→Prop}(a:Ao s0 s)(h:To s s p Q)(g:∀x t,Ao s t→Q x t→R x t):To s0 s p R:=by
 obtain⟨x,t,h1,h2,h3,h4⟩:=h;exact⟨x,t,h1,h2,a.trans h3,g x t h3 h4⟩
theorem To.ret {α:Type}{s0 s:PS}{a:α}{Q:α→PS→Prop}(i:Iv s)(h:Ao s0 s)(q:Q a s):To s0 s (PM.ret a) Q:=⟨a,s,rfl,i,h,q⟩
theorem To.cnd {α:Type}{s0 s:PS}{c:PS→Bool}{p q:PM α}{Q:α→PS→Prop}(i:Iv s)(h:c s=true→To s0 s p Q)(g:c s=false→To s0 s q Q):To s0 s (cnd c p q) Q:=by
 unfold To Go.Ab.cnd;rw[i.sz,cond_true];cases hc:c s with
 |true=>exact h hc
 |false=>exact g hc
theorem To.cok {α:Type}{s0 s:PS}{p q:PM α}{Q:α→PS→Prop}(h:s.ok=true→To s0 s p Q)(g:s.ok=false→To s0 s q Q):To s0 s (cok p q) Q:=by
 unfold To Go.Ab.cok;cases hc:s.ok with
 |true=>exact h hc
 |false=>exact g hc
theorem To.snoc {α:Type}{s0 s:PS}{p:PM α}{l:List α}{Q:α→PS→Prop}(h:To s0 s p Q)(hl:l.length<1000000):To s0 s (snoc p l) (fun l' t=>∃x,l'=l++[x]∧Q x t):=by
 obtain⟨x,t,h1,h2,h3,h4⟩:=h;refine⟨l++[x],t,?_,h2,h3,x,rfl,h4⟩;unfold Go.Ab.snoc;simp only[PM.bnd,h1,mτ hl,cond_true]
theorem PY (b:Nat):Tot b pInt (fun _ _=>True):=fun s i _=>(Tt.int i (Ad.refl s)).imp fun _ _ _ _ h=>⟨trivial,h.2⟩
theorem QA (b:Nat):Tot b ((j6 4).bnd fun t=> .ret t.s) (fun _ _=>True):=fun s i _=>(Tt.take i (Ad.refl s) (by decide)).bnd fun k t i1 a1 h=>Tt.ret i1 a1 ⟨trivial,h.cs⟩
theorem Qn (b:Nat):Tot b mM (fun _ _=>True):=fun s i _=>by
 unfold mM;refine(Tt.nam i (Ad.refl s)).bnd fun n s1 i1 a1 h1=>?_
 refine(Tt.exp i1 a1 _).bnd fun _ s2 i2 a2 h2=>?_
 refine(Tt.kind i2 a2).bnd fun k s3 i3 a3 h3=>?_
 exact Tt.ret i3 a3 ⟨trivial,(h1.cs.then h2.ad).then h3.ad⟩
theorem Fz {q:Nat}{s:PS}(i:Iv s)(hq:s.rem+1≤q):Tt s s (wv q) (fun _ t=>Cs s t):=by
 have a:=Ad.refl s;have L:∀(g:PS→Va),s.ps<s.tk.length→Tt s s (lf fun s=>(g s,s.up)) (fun v t=>Cs s t):=fun g hp=>by
  refine⟨g s,s.up,?_,i.up hp,pk s,fun _=>by show s.ps<s.ps+1;omega⟩
  unfold lf;rw[i.sz,cond_true]
 unfold wv ig;refine Tt.cnd i (fun h1=>L _ ?_) fun h1=>Tt.cnd i (fun h2=>L _ (dr i.sz h2)) fun h2=>Tt.cnd i (fun h3=>L _ (dr i.sz h3)) fun h3=>?_
 ·rw[dJ,lγ]at h1;exact ju i.sz 0 (by rw[h1];decide)
 refine Tt.cnd i (fun h4=>?_) fun h4=>Tt.cnd i (fun h5=>?_) fun h5=>?_
 ·refine(Tt.up i a (dr i.sz h4)).bnd fun _ s1 i1 a1 h1=>?_
  refine(Tt.exp i1 a1 _).bnd fun _ s2 i2 a2 h2=>?_
  refine(tP (Q:=fun _ _=>True) (fun _ _ _ _ _=>trivial) (PY s2.rem) i2 a2 (by have:=h1.1.ad.rem;have:=h2.ad.rem;omega) (Nat.le_refl _)).bnd fun l s3 i3 a3 h3=>?_
  refine(Tt.exp i3 a3 _).bnd fun _ s4 i4 a4 h4=>?_
  have hp2:=h2.ad.ps;exact Tt.ret i4 a4 fun hk=>by
   have:=h4.st hk;have h5:=h4.ad.ps;have h6:=h1.2;have:s.ps<s2.ps:=by omega
   have h7:=a3.ps;have h8:=i4.le;have hz:s2.ps≤s3.ps∨s3.ps<s2.ps:=by omega
   have:=a4.ps;omega
 ·refine(Tt.up i a (dr i.sz h5)).bnd fun _ s1 i1 a1 h1=>?_
  refine(Tt.exp i1 a1 _).bnd fun _ s2 i2 a2 h2=>?_
  refine(tP (Q:=fun _ _=>True) (fun _ _ _ _ _=>trivial) (QA s2.rem) i2 a2 (by have:=h1.1.ad.rem;have:=h2.ad.rem;omega) (Nat.le_refl _)).bnd fun l s3 i3 a3 h3=>?_
  refine(Tt.exp i3 a3 _).bnd fun _ s4 i4 a4 h4=>?_
  exact Tt.ret i4 a4 fun hk=>by
   have:=h4.st hk;have:=a3.ps;omega
 ·exact(Tt.int i a).bnd fun n s1 i1 a1 h1=>Tt.ret i1 a1 h1.2
theorem FB {q:Nat}{s:PS}(i:Iv s)(hq:s.rem+1≤q):To s s (mL q) (fun _ t=>Cs s t):=by
 unfold mL;have o:=Ao.refl s;refine((Tt.exp i (Ad.refl s) _).o o).bnd fun _ s1 i1 o1 h1=>?_
 refine((Tt.nam i1 (Ad.refl s1)).o o1).bnd fun n s2 i2 o2 h2=>?_
 refine((Tt.exp i2 (Ad.refl s2) _).o o2).bnd fun _ s3 i3 o3 h3=>?_
 refine((Tt.kind i3 (Ad.refl s3)).o o3).bnd fun k s4 i4 o4 h4=>?_
 refine((Tt.exp i4 (Ad.refl s4) _).o o4).bnd fun _ s5 i5 o5 h5=>?_
 have hlf:To s s5 (lf fun s=>((),bif !cQ k s then s.fail 13 else s)) (fun _ t=>Ao s5 t):=by
  have hg:Iv (bif !cQ k s5 then s5.fail 13 else s5)∧Ad s5 (bif !cQ k s5 then s5.fail 13 else s5):=by
   cases cQ k s5 with
   |true=>exact⟨i5,Ad.refl _⟩
   |false=>exact⟨i5.fail 13,et s5 (by decide)⟩
  refine⟨(),_,?_,hg.1,o5.trans hg.2.o,hg.2.o⟩;unfold lf;rw[i5.sz,cond_true]
 refine hlf.bnd fun _ s6 i6 o6 h6=>?_
 refine((Fz i6 (by have:=o6.rem;omega)).o o6).bnd fun v s7 i7 o7 h7=>?_
 refine((Tt.exp i7 (Ad.refl s7) _).o o7).bnd fun _ s8 i8 o8 h8=>?_
 refine To.ret i8 o8 fun hk=>?_
 have:=h8.1.st hk;have:=o7.ps;omega
theorem Jd {f q:Nat}{s:PS}(i:Iv s)(hq:s.rem+4≤q)(hf:7*s.rem+20≤f):To s s (wt f q) (fun _ _=>True):=by
 have i1:Iv {s with nd:=[],ne:=0}:=⟨i.sz,i.len,Nat.zero_le _,fun x hx=>by cases hx⟩
 obtain⟨a,u,h1,h2,h3,h4⟩:=wq (b:=s.rem) (q:=q) MS ((yO (b:=s.rem) (q:=q) (Af (q:=q) s.rem (by omega) 0 (by omega) f (by omega)) (Gk (q:=q) s.rem (by omega) f (by omega)) (by omega)).le (Nat.le_succ s.rem)) (by omega) _ i1 (by show s.rem≤_;omega);refine⟨u.nd,{u with tt:=ao .i64 (u.tt+(u.nd.length:Int))},?_,⟨h2.sz,h2.len,h2.nd,h2.wf⟩,⟨h3.tk,h3.en,h3.ps,h3.ok⟩,trivial⟩;unfold wt;rw[h1]
theorem Jf {f q:Nat}{s:PS}(i:Iv s)(hq:s.rem+4≤q)(hf:7*s.rem+20≤f):To s s (sF f q) (fun _ t=>Cs s t):=by
 unfold sF;have o:=Ao.refl s;refine((Tt.exp i (Ad.refl s) _).o o).bnd fun _ s1 i1 o1 h1=>?_
 refine((Tt.nam i1 (Ad.refl s1)).o o1).bnd fun n s2 i2 o2 h2=>?_
 refine((Tt.exp i2 (Ad.refl s2) _).o o2).bnd fun _ s3 i3 o3 h3=>?_
 refine((tP (Q:=fun _ _=>True) (fun _ _ _ _ _=>trivial) (Qn s3.rem) i3 (Ad.refl s3) (by have:=o3.rem;omega) (Nat.le_refl _)).o o3).bnd fun l s4 i4 o4 h4=>?_
 refine((Tt.exp i4 (Ad.refl s4) _).o o4).bnd fun _ s5 i5 o5 h5=>?_
 have hk:To s s5 (cnd (fun s=>s.is [58]) (pUp.bnd fun _=>pKind) (.ret 0)) (fun _ t=>Ao s5 t):=by
  refine To.cnd i5 (fun hc=>?_) (fun hc=>To.ret i5 o5 (Ao.refl _));refine((Tt.up i5 (Ad.refl s5) (dr i5.sz hc)).o o5).bnd fun _ s6 i6 o6 h6=>?_
  exact To.of o6 ((Tt.kind i6 (Ad.refl s6)).o (Ao.refl s6)) fun x t ha hx=>h6.2.trans ha
 refine hk.bnd fun k s6 i6 o6 h6=>?_
 refine(To.of o6 (Jd (f:=f) i6 (by have:=o6.rem;omega) (by have:=o6.rem;omega)) fun x t ha hx=>ha).bnd fun ns s7 i7 o7 h7=>?_
 refine To.ret i7 o7 fun hk=>?_
 have:=h1.1.st (((h2.2.trans h3.2).trans (h4.2.trans h5.2)).ok ((h6.trans h7).ok hk));have:=((h2.2.trans h3.2).trans (h4.2.trans h5.2)).ps;have:=(h6.trans h7).ps;omega
theorem vY {α:Type}{b most:Nat}{w:List Nat}{p:PM α}(hp:∀s,Iv s→s.rem≤b→To s s p (fun _ t=>Cs s t)):∀(q:Nat) (l:List α) (s0 s:PS),Iv s→Ao s0 s→s.rem+2≤q→s.rem≤b→l.length≤s.ps→To s0 s (fc w most p q l) (fun _ t=>Ao s t)
 |0,l,s0,s,i,a,h1,_,_=>by omega
 |q+1,l,s0,s,i,o,h1,h2,h3=>by
  have h6:=i.le;have h7:=i.len;unfold fc;refine To.cnd i (fun hc=>?_) (fun hc=>To.ret i o (Ao.refl s));have hg:Iv (bif Nat.beq l.length most then s.fail 5 else s)∧Ad s (bif Nat.beq l.length most then s.fail 5 else s):=by
   cases Nat.beq l.length most with
   |false=>exact⟨i,Ad.refl _⟩
   |true=>exact⟨i.fail 5,et s (by decide)⟩
  have hlf:To s0 s (lf fun s=>((),bif Nat.beq l.length most then s.fail 5 else s)) (fun _ t=>Ao s t):=by
   refine⟨(),_,?_,hg.1,o.trans hg.2.o,hg.2.o⟩;unfold lf;rw[i.sz,cond_true]
  refine hlf.bnd fun _ s1 i1 o1 g1=>?_
  refine(To.snoc (To.of o1 (hp s1 i1 (by have:=g1.rem;omega)) fun x t ha hx=>And.intro hx ha) (by omega)).bnd fun l1 s2 i2 o2 h5=>?_
  obtain⟨x,rfl,hcs,ha⟩:=h5;have hp1:=g1.ps;have hp2:=ha.ps;have hle:(l++[x]).length=l.length+1:=by rw[lπ,List.length_singleton]
  cases hk:s2.ok with
  |true=>
   have h8:=hcs hk;have h9:=ha.rem1 i2 h8;have h10:=g1.rem;obtain⟨y,t,e1,e2,e3,e4⟩:=vY hp q (l++[x]) s0 s2 i2 o2 (by omega) (by omega) (by omega);exact⟨y,t,e1,e2,e3,(g1.trans ha).trans e4⟩
  |false=>
   obtain⟨q,rfl⟩:∃k,q=k+1:=⟨q - 1,by omega⟩
   unfold fc;exact To.cnd i2 (fun h=>by rw[VN hk]at h;cases h) fun _=>To.ret i2 o2 (g1.trans ha)
theorem Fy {f q:Nat}{s:PS}(i:Iv s)(hq:s.rem+4≤q)(hf:7*s.rem+20≤f):To s s (lr f q) (fun _ t=>Cs s t):=by
 unfold lr;have o:=Ao.refl s;refine((Tt.exp i (Ad.refl s) _).o o).bnd fun _ s1 i1 o1 h1=>?_
 refine((Tt.nam i1 (Ad.refl s1)).o o1).bnd fun n s2 i2 o2 h2=>?_
 refine((Tt.exp i2 (Ad.refl s2) _).o o2).bnd fun _ s3 i3 o3 h3=>?_
 refine(vY (b:=s3.rem) (fun s i hr=>FB i (by have:=o3.rem;omega)) q [] s s3 i3 o3 (by have:=o3.rem;omega) (Nat.le_refl _) (by simp)).bnd fun fs s4 i4 o4 h4=>?_
 refine(vY (b:=s4.rem) (fun s i hr=>Jf i (by have:=o4.rem;omega) (by have:=o4.rem;omega)) q [] s s4 i4 o4 (by have:=o4.rem;omega) (Nat.le_refl _) (by simp)).bnd fun ms s5 i5 o5 h5=>?_
 refine((Tt.exp i5 (Ad.refl s5) _).o o5).bnd fun _ s6 i6 o6 h6=>?_
 refine To.ret i6 o6 fun hk=>?_
 have:=h6.1.st hk;have:=o5.ps;omega
theorem rV {n f q b:Nat}(hn:b≤6000)(hq:b+4≤q)(hf:7*b+20≤f):∀(m:Nat) (l:List Ac) (s0 s:PS),Iv s→Ao s0 s→s.rem+2≤m→s.rem≤b→l.length≤s.ps→To s0 s (cH n f q m l) (fun _ _=>True)
 |0,l,s0,s,i,a,h1,_,_=>by omega
 |m+1,l,s0,s,i,o,h1,h2,h3=>by
  have h6:=i.le;have h7:=i.len;unfold cH;refine To.cok (fun hk0=>?_) (fun _=>To.ret i o trivial);refine To.cnd i (fun hc=>?_) (fun hc=>To.ret i o trivial);have hg:Iv (bif s.is [97,99,116,111,114]&&Nat.beq l.length 8 then s.fail 5 else s)∧Ad s (bif s.is [97,99,116,111,114]&&Nat.beq l.length 8 then s.fail 5 else s):=by
   cases s.is [97,99,116,111,114]&&Nat.beq l.length 8 with
   |false=>exact⟨i,Ad.refl _⟩
   |true=>exact⟨i.fail 5,et s (by decide)⟩
  have hlf:To s0 s (lf fun s=>((),bif s.is [97,99,116,111,114]&&Nat.beq l.length 8 then s.fail 5 else s)) (fun _ t=>Ao s t):=by
   refine⟨(),_,?_,hg.1,o.trans hg.2.o,hg.2.o⟩;unfold lf;rw[i.sz,cond_true]
  refine hlf.bnd fun _ s1 i1 o1 g1=>?_
  refine(To.snoc (To.of o1 (Fy (f:=f) (q:=q) i1 (by have:=g1.rem;omega) (by have:=g1.rem;omega)) fun x t ha hx=>And.intro hx ha) (by omega)).bnd fun l1 s2 i2 o2 h5=>?_
  obtain⟨x,rfl,hcs,ha⟩:=h5;have hp1:=g1.ps;have hle:(l++[x]).length=l.length+1:=by rw[lπ,List.length_singleton]
  cases hk:s2.ok with
  |true=>
   have h8:=hcs hk;have h9:=ha.rem1 i2 h8;have h10:=g1.rem;exact rV hn hq hf m (l++[x]) s0 s2 i2 o2 (by omega) (by omega) (by omega)
  |false=>
   obtain⟨m,rfl⟩:∃k,m=k+1:=⟨m - 1,by omega⟩
   unfold cH;exact To.cok (fun h=>by rw[hk]at h;cases h) fun _=>To.ret i2 o2 trivial
theorem Ji (tk:List Tk)(en:Int)(hl:tk.length≤6000)(hb:xU tk){f q:Nat}(hf:7*tk.length+20≤f)(hq:tk.length+4≤q):∃r,jO tk en f q=some r:=by
 have i:Iv ⟨tk,0,en,0,0,0,0,[]⟩:=by
  refine⟨?_,hl,Nat.le_refl _,fun x hx=>by cases hx⟩
  unfold PS.sz;simp only[lβ,lγ,mγ];exact⟨Nat.zero_le _,by omega,fun t ht c hc=>hb t ht c hc⟩
 obtain⟨l,t,h1,h2,h3,h4⟩:=rV (n:=tk.length) (f:=f) (q:=q) (b:=tk.length) hl hq hf q [] _ _ i (Ao.refl _) (by show tk.length - 0+2≤q;omega) (by show tk.length - 0≤_;omega) (by simp);unfold jO;rw[h1];exact⟨_,rfl⟩
end
end Go.Ab
end
section
namespace Go.Ab
open Go
set_option maxRecDepth 100000
noncomputable section
structure io (n:Nat)(s s':PS):Prop where
 tk:s'.tk=s.tk.take n
 ln:n≤s.tk.length
 ps:s'.ps=s.ps
 aT:s'.aT=s.aT
 er:s'.er=s.er
 ne:s'.ne=s.ne
 tt:s'.tt=s.tt
 nd:s'.nd=s.nd
 lt:s.ok=true→s.ps<n
structure jQ (s:PS):Prop where
 ps:s.tk.length≤s.ps
 er:s.er=0∨s.er=13∧s.aT=s.en
theorem Q9 (s:PS):s.ok=true↔s.er=0:=by unfold PS.ok;rw[dJ,lγ]
theorem SQ (s:PS):s.ok=false↔s.er≠0:=by unfold PS.ok;rw[dJ,mε]
theorem io.ok {n:Nat}{s s':PS}(h:io n s s'):s'.ok=s.ok:=by unfold PS.ok;rw[h.er]
theorem io.at {n:Nat}{s s':PS}(h:io n s s')(i:Nat)(hi:s.ps+i<n):s'.tk[s'.ps+i]?=s.tk[s.ps+i]?:=by
 rw[h.tk,h.ps,List.getElem?_take,if_pos hi]
theorem io.peek {n:Nat}{s s':PS}(h:io n s s'):s'.peek 0=s.peek 0:=by
 unfold PS.peek;rw[h.ok];cases hk:s.ok with
 |false=>rfl
 |true=>rw[h.at 0 (h.lt hk)]
theorem io.is {n:Nat}{s s':PS}(h:io n s s')(x:List Nat):s'.is x=s.is x:=by unfold PS.is;rw[h.peek]
theorem io.fail {n:Nat}{s s':PS}(h:io n s s'){e:Int}(he:e≠0):io n (s.fail e) (s'.fail e):=by
 have hf:=li s he;unfold PS.fail at hf ⊢
 rw[h.ok];cases hk:s.ok with
 |false=>exact h
 |true=>
  have h0:=h.at 0 (h.lt hk);simp only[Nat.add_zero]at h0;have hl:s.ps<s.tk.length:=mπ (h.lt hk) h.ln;have e1:s'.tk[s'.ps]?=some s.tk[s.ps]:=by rw[h0,lε hl]
  refine⟨h.tk,h.ln,h.ps,?_,rfl,h.ne,h.tt,h.nd,fun k=>?_⟩
  ·show(match s'.tk[s'.ps]? with|some t=>t.a|none=>s'.en)=(match s.tk[s.ps]? with|some t=>t.a|none=>s.en);rw[e1,lε hl]
  ·rw[hk]at hf;exact absurd k (by simp only[cond_true]at hf ⊢;rw[hf];simp)
theorem io.up {n:Nat}{s s':PS}(h:io n s s')(hk:s.ok=true):io n s.up s'.up∨jQ s'.up:=by
 have:=h.lt hk;by_cases hn:s.ps+1<n
 ·exact .inl ⟨h.tk,h.ln,by show s'.ps+1=s.ps+1;rw[h.ps],h.aT,h.er,h.ne,h.tt,h.nd,fun _=>hn⟩
 ·refine .inr ⟨?_,.inl ?_⟩
  ·show s'.tk.length≤s'.ps+1;rw[h.tk,mδ,h.ps];omega
  ·show s'.er=0;rw[h.er];exact(Q9 s).1 hk
theorem io.setNe {n:Nat}{s s':PS}(h:io n s s')(k:Int):io n {s with ne:=k} {s' with ne:=k}:=⟨h.tk,h.ln,h.ps,h.aT,h.er,rfl,h.tt,h.nd,h.lt⟩
theorem jQ.setNe {s:PS}(h:jQ s)(k:Int):jQ {s with ne:=k}:=⟨h.ps,h.er⟩
theorem jQ.peek {s:PS}(h:jQ s)(i:Nat):s.peek i=tk0:=by
 unfold PS.peek;rw[lδ (by have:=h.ps;omega)];cases s.ok<;>rfl
theorem jQ.is {s:PS}(h:jQ s)(x:List Nat):s.is x=false:=by unfold PS.is;rw[h.peek];rfl
theorem jQ.fail {s:PS}(h:jQ s):jQ (s.fail 13):=by
 unfold PS.fail;cases hk:s.ok with
 |false=>exact h
 |true=>exact⟨h.ps,.inr ⟨rfl,by show(match s.tk[s.ps]? with|some t=>t.a|none=>s.en)=s.en;rw[lδ h.ps]⟩⟩
theorem jQ.exp {s:PS}(h:jQ s)(x:List Nat):jQ (s.exp x)∧(s.exp x).ok=false:=by unfold PS.exp;rw[h.is];exact⟨h.fail,li s (by decide)⟩
theorem jQ.open {s:PS}(h:jQ s)(x:List Nat):jQ (s.open x):=by unfold PS.open PS.opn1;rw[h.is];exact(h.exp x).1.setNe _
theorem jQ.close {s:PS}(h:jQ s)(x:List Nat):jQ (s.close x):=(h.exp x).1.setNe _
structure aG {α:Type}(p:PM α):Prop where
 rel:∀{n:Nat} {s s' t t':PS} {a a':α},io n s s'→p s=some (a,t)→p s'=some (a',t')→(a'=a∧io n t t')∨jQ t'
 exh:∀{s t:PS} {a:α},jQ s→p s=some (a,t)→jQ t
theorem aG.bnd {α β:Type}{p:PM α}{f:α→PM β}(hp:aG p)(hf:∀a,aG (f a)):aG (p.bnd f) where
 rel h e e':=by
  obtain⟨b,u,h1,h2⟩:=af e;obtain⟨b',u',h1',h2'⟩:=af e';rcases hp.rel h h1 h1' with⟨rfl,g⟩|g
  ·exact(hf _).rel g h2 h2'
  ·exact .inr ((hf _).exh g h2')
 exh h e:=by
  obtain⟨b,u,h1,h2⟩:=af e;exact(hf _).exh (hp.exh h h1) h2
theorem aG.ret {α:Type}(a:α):aG (PM.ret a) where
 rel h e e':=by
  obtain⟨rfl,rfl⟩:=aH e;obtain⟨rfl,rfl⟩:=aH e';exact .inl ⟨rfl,h⟩
 exh h e:=by
  obtain⟨rfl,rfl⟩:=aH e;exact h
theorem aG.none {α:Type}:aG (fun _=>(none:Option (α×PS))):=⟨fun _ e=>(by cases e),fun _ e=>(by cases e)⟩
theorem aG.lf {α:Type}{g:PS→α×PS}(h1:∀{n s s'},io n s s'→((g s').1=(g s).1∧io n (g s).2 (g s').2)∨jQ (g s').2)(h2:∀{s},jQ s→jQ (g s).2):aG (lf g) where
 rel h e e':=by
  obtain⟨-,e⟩:=bz e;obtain⟨-,e'⟩:=bz e';have:=h1 h;rw[e,e']at this;exact this
 exh h e:=by
  obtain⟨-,e⟩:=bz e;have:=h2 h;rw[e]at this;exact this
theorem aG.cnd {α:Type}{c:PS→Bool}{p q:PM α}(hc:∀{n s s'},io n s s'→c s'=c s)(hp:aG p)(hq:aG q):aG (cnd c p q) where
 rel h e e':=by
  obtain⟨-,e⟩:=aS e;obtain⟨-,e'⟩:=aS e';have:=hc h;rcases e with⟨k,e⟩|⟨k,e⟩<;>rcases e' with⟨k',e'⟩|⟨k',e'⟩
  ·exact hp.rel h e e'
  ·rw[this,k]at k';cases k'
  ·rw[this,k]at k';cases k'
  ·exact hq.rel h e e'
 exh h e:=by
  obtain⟨-,e⟩:=aS e;rcases e with⟨k,e⟩|⟨k,e⟩
  ·exact hp.exh h e
  ·exact hq.exh h e
theorem aG.cok {α:Type}{p q:PM α}(hp:aG p)(hq:aG q):aG (cok p q) where
 rel h e e':=by
  have:=h.ok;rcases bH e with⟨k,e⟩|⟨k,e⟩<;>rcases bH e' with⟨k',e'⟩|⟨k',e'⟩
  ·exact hp.rel h e e'
  ·rw[this,k]at k';cases k'
  ·rw[this,k]at k';cases k'
  ·exact hq.rel h e e'
 exh h e:=by
  rcases bH e with⟨k,e⟩|⟨k,e⟩
  ·exact hp.exh h e
  ·exact hq.exh h e
theorem io.isF {n:Nat}{s s':PS}(h:io n s s'):s'.is=s.is:=funext fun x=>h.is x
theorem aG.fnO {α:Type}{l:List (List Nat)}{p:PM α}{f:List Nat→PM α}(hp:aG p)(hf:∀o,aG (f o)):aG (fnO l p f) where
 rel h e e':=by
  obtain⟨-,e⟩:=fO e;obtain⟨-,e'⟩:=fO e';rw[h.isF]at e';rcases e with⟨k,e⟩|⟨o,k,e⟩<;>rcases e' with⟨k',e'⟩|⟨o',k',e'⟩
  ·exact hp.rel h e e'
  ·rw[k]at k';cases k'
  ·rw[k]at k';cases k'
  ·rw[k]at k';cases k';exact(hf o).rel h e e'
 exh h e:=by
  obtain⟨-,e⟩:=fO e;rcases e with⟨k,e⟩|⟨o,k,e⟩
  ·exact hp.exh h e
  ·exact(hf o).exh h e
theorem aG.upIf {α:Type}{x:List Nat}{p q:PM α}(hp:aG p)(hq:aG q):aG (Go.Ab.cnd (fun s=>s.is x) (pUp.bnd fun _=>p) q) where
 rel h e e':=by
  obtain⟨-,e⟩:=aS e;obtain⟨-,e'⟩:=aS e';rcases e with⟨k,e⟩|⟨k,e⟩<;>rcases e' with⟨k',e'⟩|⟨k',e'⟩
  ·obtain⟨_,u,h1,h2⟩:=af e;obtain⟨_,u',h1',h2'⟩:=af e';obtain⟨-,rfl⟩:=bF h1;obtain⟨-,rfl⟩:=bF h1';rcases h.up (lm k)with g|g
   ·exact hp.rel g h2 h2'
   ·exact .inr (hp.exh g h2')
  ·rw[h.is,k]at k';cases k'
  ·rw[h.is,k]at k';cases k'
  ·exact hq.rel h e e'
 exh h e:=by
  obtain⟨-,e⟩:=aS e;rcases e with⟨k,e⟩|⟨k,e⟩
  ·rw[h.is]at k;cases k
  ·exact hq.exh h e
theorem aG.upO {α:Type}{l:List (List Nat)}{p:PM α}{f:List Nat→PM α}(hp:aG p)(hf:∀o,aG (f o)):aG (Go.Ab.fnO l p fun o=>pUp.bnd fun _=>f o) where
 rel h e e':=by
  obtain⟨-,e⟩:=fO e;obtain⟨-,e'⟩:=fO e';rw[h.isF]at e';rcases e with⟨k,e⟩|⟨o,k,e⟩<;>rcases e' with⟨k',e'⟩|⟨o',k',e'⟩
  ·exact hp.rel h e e'
  ·rw[k]at k';cases k'
  ·rw[k]at k';cases k'
  ·rw[k]at k';cases k';obtain⟨_,u,h1,h2⟩:=af e;obtain⟨_,u',h1',h2'⟩:=af e';obtain⟨-,rfl⟩:=bF h1;obtain⟨-,rfl⟩:=bF h1';have hi:=List.find?_some k;rcases h.up (lm hi)with g|g
   ·exact(hf o).rel g h2 h2'
   ·exact .inr ((hf o).exh g h2')
 exh h e:=by
  obtain⟨-,e⟩:=fO e;rcases e with⟨k,e⟩|⟨o,k,e⟩
  ·exact hp.exh h e
  ·have:=List.find?_some k;rw[h.is]at this;cases this
theorem io.exp {n:Nat}{s s':PS}(h:io n s s')(x:List Nat):io n (s.exp x) (s'.exp x)∨jQ (s'.exp x):=by
 unfold PS.exp;rw[h.is];cases hx:s.is x with
 |false=>exact .inl (h.fail (by decide))
 |true=>exact h.up (lm hx)
theorem rL {a b c d:Prop}(h:a∨b)(f:a→c)(g:b→d):c∨d:=h.elim (fun x=> .inl (f x)) (fun x=> .inr (g x))
theorem bG (x:List Nat):aG (fd x):=aG.lf (fun h=>rL (h.exp x) (fun g=>⟨rfl,g⟩) id) fun h=>(h.exp x).1
theorem gj (x:List Nat):aG (lD x):=aG.lf (fun {n s s'} h=>by
  have h1:io n (bif s.is x&&eqI s.ne 24 then s.fail 5 else s) (bif s'.is x&&eqI s'.ne 24 then s'.fail 5 else s'):=by
   rw[h.is,h.ne];cases s.is x&&eqI s.ne 24 with
   |false=>exact h
   |true=>exact h.fail (by decide)
  rcases h1.exp x with g|g
  ·refine .inl ⟨rfl,?_⟩;show io n (s.open x) (s'.open x);unfold PS.open PS.opn1;rw[g.ne];exact g.setNe _
  ·exact .inr (g.setNe _)) fun h=>h.open x
theorem gi (x:List Nat):aG (hD x):=aG.lf (fun {n s s'} h=>by
  rcases h.exp x with g|g
  ·refine .inl ⟨rfl,?_⟩;show io n (s.close x) (s'.close x);unfold PS.close;rw[g.ne];exact g.setNe _
  ·exact .inr (g.setNe _)) fun h=>h.close x
theorem m9 {k:Int}(hk:k≠0):aG (j6 k):=aG.lf (fun {n s s'} h=>by
  unfold PS.take;rw[h.peek];cases hx:eqI (s.peek 0).k k with
  |false=>exact .inl ⟨rfl,h.fail (by decide)⟩
  |true=>
   rw[dJ,lγ]at hx;exact rL (h.up (wB (by rw[hx];exact hk))) (fun g=>⟨rfl,g⟩) id) fun {s} h=>by
  unfold PS.take;rw[h.peek,UX (show ¬tk0.k=k from fun e=>hk e.symm)];exact h.fail
theorem good_name:aG pName:=(m9 (by decide)).bnd fun t=>aG.ret _
theorem good_fail:aG (sE 13):=aG.lf (fun h=> .inl ⟨rfl,h.fail (by decide)⟩) fun h=>h.fail
theorem good_peek:aG pPeek:=aG.lf (fun h=> .inl ⟨h.peek,h⟩) fun h=>h
theorem good_dec:aG pDec where
 rel h e e':=by
  have e:=tN e;have e':=tN e';subst e e';exact .inl ⟨rfl,by rw[h.ne];exact h.setNe _⟩
 exh h e:=by
  have e:=tN e;subst e;exact h.setNe _
theorem cW (x:No):aG (dX x) where
 rel {n s s' t t' a a'} h e e':=by
  obtain⟨-,-,e⟩:=jj e;obtain⟨-,-,e'⟩:=jj e';unfold PS.add at e e';rw[h.ok,h.nd]at e';cases hk:s.ok with
  |false=>
   rw[hk]at e e';injection e with e1 e2;injection e' with e3 e4;subst e1 e2 e3 e4;exact .inl ⟨rfl,h⟩
  |true=>
   rw[hk]at e e';injection e with e1 e2;injection e' with e3 e4;subst e1 e2 e3 e4;exact .inl ⟨rfl,⟨h.tk,h.ln,h.ps,h.aT,h.er,h.ne,h.tt,rfl,h.lt⟩⟩
 exh {s t a} h e:=by
  obtain⟨-,-,e⟩:=jj e;unfold PS.add at e;cases hk:s.ok with
  |false=>
   rw[hk]at e;injection e with e1 e2;subst e2;exact h
  |true=>
   rw[hk]at e;injection e with e1 e2;subst e2;exact⟨h.ps,h.er⟩
theorem vP {n:Nat}{s s':PS}(h:io n s s'):∀(l:List (List Nat)) (i:Int),((ck l i s').1=(ck l i s).1∧io n (ck l i s).2 (ck l i s').2)∨jQ (ck l i s').2
 |[],i=> .inl ⟨rfl,h.fail (by decide)⟩
 |x::r,i=>by
  unfold ck;rw[h.is];cases hx:s.is x with
  |false=>exact vP h r (i+1)
  |true=>exact rL (h.up (lm hx)) (fun g=>⟨rfl,g⟩) id
theorem vO {s:PS}(h:jQ s):∀(l:List (List Nat)) (i:Int),jQ (ck l i s).2
 |[],i=>h.fail
 |x::r,i=>by
  unfold ck;rw[h.is];exact vO h r (i+1)
theorem good_kind:aG pKind:=aG.lf (fun h=>vP h _ _) fun h=>vO h _ _
theorem good_int:aG pInt:=aG.upIf ((m9 (by decide)).bnd fun _=>aG.ret _) ((m9 (by decide)).bnd fun _=>aG.ret _)
theorem eD {α:Type}{p:PM α}(hp:aG p)(l:List α):aG (snoc p l):=hp.bnd fun x=>{
 rel:=fun {n s s' t t' a a'} h e e'=>by
  cases hb:decide (l.length<1000000)with
  |false=>rw[hb]at e;cases e
  |true=>
   rw[hb]at e e';injection e with e;injection e' with e';injection e with e1 e2;injection e' with e3 e4;subst e1 e2 e3 e4;exact .inl ⟨rfl,h⟩
 exh:=fun {s t a} h e=>by
  cases hb:decide (l.length<1000000)with
  |false=>rw[hb]at e;cases e
  |true=>
   rw[hb]at e;injection e with e;injection e with e1 e2;subst e1 e2;exact h}
theorem GK {α:Type}{begins:PS→Bool}{elem:α→PM α}{most:Nat}(hb:∀{n s s'},io n s s'→begins s'=begins s)(hb2:∀{s},jQ s→begins s=false)(he:∀a,aG (elem a)):∀(q n:Nat) (a:α),aG (oz begins elem most q n a)
 |0,n,a=>aG.none
 |q+1,n,a=>by
  unfold oz;refine aG.cok (aG.bnd (aG.lf (fun {n' s s'} h=>?_) fun {s} h=>?_) fun _=>(he a).bnd fun a'=>aG.upIf (GK hb hb2 he q (n+1) a') (aG.ret a')) (aG.ret a)
  ·refine .inl ⟨rfl,?_⟩;show io n' (bif !begins s then s.fail 13 else bif Nat.beq n most then s.fail 5 else s) (bif !begins s' then s'.fail 13 else bif Nat.beq n most then s'.fail 5 else s');rw[hb h];cases begins s with
   |false=>exact h.fail (by decide)
   |true=>
    cases Nat.beq n most with
    |true=>exact h.fail (by decide)
    |false=>exact h
  ·show jQ (bif !begins s then s.fail 13 else bif Nat.beq n most then s.fail 5 else s);rw[hb2 h];exact h.fail
theorem pO {α:Type}{begins:PS→Bool}{elem:α→PM α}{most q:Nat}(hb:∀{n s s'},io n s s'→begins s'=begins s)(hb2:∀{s},jQ s→begins s=false)(he:∀a,aG (elem a))(a:α):aG (Gx begins elem most q a):=
 aG.cnd (fun h=>h.is _) (aG.ret a) (GK hb hb2 he q 0 a)
theorem EA {n:Nat}{s s':PS}(h:io n s s'):s'.begins=s.begins:=by unfold PS.begins;rw[h.peek]
theorem Ez {s:PS}(h:jQ s):s.begins=false:=by unfold PS.begins;rw[h.peek];rfl
theorem aG.upK {α:Type}{k:Int}(hk:k≠0){g:PS→α}{q:PM α}(hg:∀{n s s'},io n s s'→g s'=g s)(hq:aG q):aG (Go.Ab.cnd (fun s=>eqI (s.peek 0).k k) (Go.Ab.lf fun s=>(g s,s.up)) q) where
 rel h e e':=by
  obtain⟨-,e⟩:=aS e;obtain⟨-,e'⟩:=aS e';rcases e with⟨k1,e⟩|⟨k1,e⟩<;>rcases e' with⟨k2,e'⟩|⟨k2,e'⟩
  ·obtain⟨-,e⟩:=bz e;obtain⟨-,e'⟩:=bz e';injection e with e1 e2;injection e' with e3 e4;subst e1 e2 e3 e4;rw[dJ,lγ]at k1;exact rL (h.up (wB (by rw[k1];exact hk))) (fun x=>⟨hg h,x⟩) id
  ·rw[h.peek,k1]at k2;cases k2
  ·rw[h.peek,k1]at k2;cases k2
  ·exact hq.rel h e e'
 exh h e:=by
  obtain⟨-,e⟩:=aS e;rcases e with⟨k1,e⟩|⟨k1,e⟩
  ·rw[h.peek,dJ,lγ]at k1;exact absurd k1.symm hk
  ·exact hq.exh h e
theorem aG.upW {α:Type}{x:List Nat}{a:α}{q:PM α}(hq:aG q):aG (Go.Ab.cnd (fun s=>s.is x) (Go.Ab.lf fun s=>(a,s.up)) q) where
 rel h e e':=by
  obtain⟨-,e⟩:=aS e;obtain⟨-,e'⟩:=aS e';rcases e with⟨k1,e⟩|⟨k1,e⟩<;>rcases e' with⟨k2,e'⟩|⟨k2,e'⟩
  ·obtain⟨-,e⟩:=bz e;obtain⟨-,e'⟩:=bz e';injection e with e1 e2;injection e' with e3 e4;subst e1 e2 e3 e4;exact rL (h.up (lm k1)) (fun x=>⟨rfl,x⟩) id
  ·rw[h.is,k1]at k2;cases k2
  ·rw[h.is,k1]at k2;cases k2
  ·exact hq.rel h e e'
 exh h e:=by
  obtain⟨-,e⟩:=aS e;rcases e with⟨k1,e⟩|⟨k1,e⟩
  ·rw[h.is]at k1;cases k1
  ·exact hq.exh h e
theorem sw {c:PM Va}(hc:aG c):aG (ig c):=aG.upK (by decide) (fun h=>by rw[h.peek]) (aG.upW (aG.upW hc))
theorem EZ (q:Nat):aG (wv q):=sw (aG.upIf
  ((bG _).bnd fun _=>(pO (fun h=>by unfold zK;rw[h.is,h.peek]) (fun h=>by unfold zK;rw[h.is,h.peek];rfl) (fun l=>eD good_int l) []).bnd fun l=>(bG _).bnd fun _=>aG.ret _)
 (aG.upIf ((bG _).bnd fun _=>(pO (fun h=>by unfold zM;rw[h.peek]) (fun h=>by unfold zM;rw[h.peek];rfl) (fun l=>eD ((m9 (by decide)).bnd fun t=>aG.ret _) l) []).bnd fun l=>(bG _).bnd fun _=>aG.ret _)
 (good_int.bnd fun n=>aG.ret _)))
theorem sx {ex:PM Int}{ops:List (List Nat)}(he:aG ex):∀(q:Nat) (x:Int),aG (fR ex ops q x)
 |0,x=>aG.none
 |q+1,x=>by
  unfold fR;exact aG.upO (aG.ret x) fun o=>he.bnd fun y=>(cW _).bnd fun z=>sx he q z
theorem m8 {ex:PM Int}(ops:List (List Nat))(q:Nat)(he:aG ex):aG (iW ex ops q):=he.bnd fun x=>sx he q x
theorem MB {sum:PM Int}(he:aG sum):aG (Nj sum):=he.bnd fun x=>aG.upO (aG.ret x) fun o=>he.bnd fun y=>cW _
theorem yp {ex:PM Int}(he:aG ex)(q:Nat):aG (sD ex q):=(gj _).bnd fun _=>(pO EA Ez (fun l=>eD he l) []).bnd fun l=>(gi _).bnd fun _=>aG.ret _
theorem GL {fac:PM Int}(he:aG fac)(o:List Nat):aG (Tq o fac):=(gj _).bnd fun _=>(aG.cok he (aG.ret 0)).bnd fun x=>good_dec.bnd fun _=>cW _
theorem MC {fac pr:PM Int}(he:aG fac)(hp:aG pr):aG (FA fac pr):=aG.cnd (fun h=>h.is _) (GL he _) (aG.cnd (fun h=>h.is _) (GL he _) hp)
end
end Go.Ab
end
section
namespace Go.Ab
open Go
set_option maxRecDepth 100000
noncomputable section
theorem good_up:aG pUp:=aG.lf (fun {n s s'} h=>by
 cases hk:s.ok with
 |true=>exact rL (h.up hk) (fun g=>⟨rfl,g⟩) id
 |false=>exact .inl ⟨rfl,⟨h.tk,h.ln,by show s'.ps+1=s.ps+1;rw[h.ps],h.aT,h.er,h.ne,h.tt,h.nd,fun k=>by rw[Ua,hk]at k;cases k⟩⟩) fun h=>⟨Nat.le_succ_of_le h.ps,h.er⟩
theorem P4 {α β:Type}{f:Tk→PM α}{s' t':PS}{a':α}(hf:∀t,aG (f t))(hk:s'.ok=true)(hp:s'.tk.length≤s'.ps+1)(e:(pPeek.bnd fun t=>pUp.bnd fun _=>f t) s'=some (a',t')):jQ t':=by
 obtain⟨x,u,h1,e⟩:=af e;obtain⟨_,v,h2,e⟩:=af e;obtain⟨-,h1⟩:=bz h1;injection h1 with h1 h3;subst h1 h3;obtain⟨-,rfl⟩:=bF h2;exact(hf _).exh (s:=s'.up) ⟨hp,.inl ((Q9 _).1 hk)⟩ e
theorem tU {α:Type}{f:Tk→PM α}(hf:∀t,aG (f t)):aG (pPeek.bnd fun t=>pUp.bnd fun _=>f t):=good_peek.bnd fun t=>good_up.bnd fun _=>hf t
theorem IZ {ex:PM Int}(he:aG ex)(q:Nat):aG (nH ex q):=by
 have hA:∀t:Tk,aG (dX ⟨2,t.s,vz,[]⟩):=fun t=>cW _
 have hB:∀t:Tk,aG ((sD ex q).bnd fun l=>dX ⟨6,t.s,vz,l⟩):=fun t=>(yp he q).bnd fun l=>cW _
 unfold nH;have hR:aG (cnd (fun s=>eqI (s.peek 0).k 1||(s.is [105,110,116,115]||s.is [115,116,114,105,110,103,115])) (pPeek.bnd fun t=>pUp.bnd fun _=>(sD ex q).bnd fun l=>dX ⟨6,t.s,vz,l⟩)
  (cnd (fun s=>eqI (s.peek 0).k 3) (pPeek.bnd fun t=>pUp.bnd fun _=>dX ⟨1,[],vI t.n,[]⟩)
  (cnd (fun s=>eqI (s.peek 0).k 4||(s.is [116,114,117,101]||s.is [102,97,108,115,101])) ((ig fun _=>none).bnd fun v=>dX ⟨1,[],v,[]⟩)
  (cnd (fun s=>s.is [115,101,108,102]) (pUp.bnd fun _=>dX ⟨3,[],vz,[]⟩)
  (cnd (fun s=>s.is [40]) ((lD [40]).bnd fun _=>(cok ex (.ret 0)).bnd fun x=>(hD [41]).bnd fun _=> .ret x)
  ((sE 13).bnd fun _=> .ret 0)))))):=
  aG.cnd (fun h=>by rw[h.peek,h.is,h.is]) (tU hB)
  (aG.cnd (fun h=>by rw[h.peek]) (tU fun t=>cW _)
  (aG.cnd (fun h=>by rw[h.peek,h.is,h.is]) ((sw aG.none).bnd fun v=>cW _)
  (aG.cnd (fun h=>h.is _) (good_up.bnd fun _=>cW _)
  (aG.cnd (fun h=>h.is _) ((gj _).bnd fun _=>(aG.cok he (aG.ret 0)).bnd fun x=>(gi _).bnd fun _=>aG.ret _)
  (good_fail.bnd fun _=>aG.ret _)))))
 refine⟨fun {n s s' t t' a a'} h e e'=>?_,fun {s t a} h e=>?_⟩
 ·obtain⟨-,e⟩:=aS e;obtain⟨-,e'⟩:=aS e';by_cases hn:s.ps+1<n
  ·have ha:s'.appl=s.appl:=by
    unfold PS.appl PS.peek;rw[h.ok,h.at 1 hn]
   rw[h.peek,ha]at e';rcases e with⟨k,e⟩|⟨k,e⟩<;>rcases e' with⟨k',e'⟩|⟨k',e'⟩
   ·exact(tU hA).rel h e e'
   ·rw[k]at k';cases k'
   ·rw[k]at k';cases k'
   ·exact hR.rel h e e'
  ·have hl:s'.tk.length≤s'.ps+1:=by rw[h.tk,mδ,h.ps];omega
   have ha:s'.appl=false:=by
    unfold PS.appl PS.peek;rw[lδ hl];cases s'.ok<;>rfl
   rw[h.peek,ha,Bool.not_false,Bool.and_true]at e';rcases e' with⟨k',e'⟩|⟨k',e'⟩
   ·have hk:s'.ok=true:=by
     rw[h.ok];rw[dJ,lγ]at k';exact wB (i:=0) (by rw[k'];decide)
    exact .inr (P4 (β:=Unit) hA hk hl e')
   ·rcases e with⟨k,e⟩|⟨k,e⟩
    ·rw[k',Bool.false_and]at k;cases k
    ·exact hR.rel h e e'
 ·obtain⟨-,e⟩:=aS e;rcases e with⟨k,e⟩|⟨k,e⟩
  ·exact(tU hA).exh h e
  ·exact hR.exh h e
theorem gA (q:Nat):∀(f lvl:Nat),aG (pK q f lvl)
 |0,lvl=>aG.none
 |f+1,0=>m8 _ q (gA q f 1)
 |f+1,1=>m8 _ q (gA q f 2)
 |f+1,2=>MB (gA q f 3)
 |f+1,3=>m8 _ q (gA q f 4)
 |f+1,4=>m8 _ q (gA q f 5)
 |f+1,5=>MC (gA q f 5) (gA q f 6)
 |f+1,_+6=>IZ (gA q f 0) q
theorem yq {ex:PM Int}(he:aG ex)(q:Nat):aG (qk ex q):=
 (bG _).bnd fun _=>good_name.bnd fun n=>(gj _).bnd fun _=>he.bnd fun key=>(gi _).bnd fun _=>(bG _).bnd fun _=>good_name.bnd fun m=>(yp he q).bnd fun l=>cW _
theorem vG {ex:PM Int}(he:aG ex)(q:Nat):aG (oQ ex q):=(bG _).bnd fun _=>aG.cnd (fun h=>h.is _) (yq he q) he
theorem oG {ex:PM Int}(he:aG ex):∀(n:Nat) (l:List Int),aG (mI ex n l)
 |0,l=>aG.ret l
 |n+1,l=>by
  unfold mI;cases l.isEmpty with
  |true=>exact(eD he l).bnd fun l'=>oG he n l'
  |false=>exact(bG _).bnd fun _=>(eD he l).bnd fun l'=>oG he n l'
theorem vF {ex:PM Int}(he:aG ex)(n:Nat):aG (AS ex n):=(gj _).bnd fun _=>(oG he n []).bnd fun l=>(gi _).bnd fun _=>aG.ret _
theorem fP (x:No):aG (mK x):=(bG _).bnd fun _=>cW x
theorem yr (op:Int){ex bl:PM Int}(he:aG ex)(hb:aG bl):aG (wu op ex bl):=
 (gj _).bnd fun _=>he.bnd fun c=>(gi _).bnd fun _=>hb.bnd fun b=>by
  cases eqI op 11 with
  |true=>exact aG.cnd (fun h=>h.is _) (good_up.bnd fun _=>hb.bnd fun e=>cW _) (cW _)
  |false=>exact cW _
theorem yu {ex bl:PM Int}(he:aG ex)(hb:aG bl)(q:Nat):aG (mN ex bl q):=
 aG.cnd (fun h=>h.is _) (good_up.bnd fun _=>good_name.bnd fun n=>(bG _).bnd fun _=>good_kind.bnd fun k=>(vG he q).bnd fun x=>fP _)
 (aG.cnd (fun h=>by rw[h.peek]) (good_name.bnd fun n=>(vG he q).bnd fun x=>fP _)
 (aG.cnd (fun h=>h.is _) ((yq he q).bnd fun x=>fP _)
 (aG.cnd (fun h=>h.is _) (good_up.bnd fun _=>yr 11 he hb)
 (aG.cnd (fun h=>h.is _) (good_up.bnd fun _=>yr 12 he hb)
 (aG.cnd (fun h=>h.is _) (good_up.bnd fun _=>aG.cnd (fun h=>h.is _) (fP _) (he.bnd fun x=>fP _))
 (aG.cnd (fun h=>h.is _) (good_up.bnd fun _=>fP _)
 (aG.cnd (fun h=>h.is _) (good_up.bnd fun _=>(vF he 2).bnd fun l=>fP _)
 (aG.cnd (fun h=>h.is _) (good_up.bnd fun _=>(vF he 3).bnd fun l=>fP _)
 (aG.cnd (fun h=>h.is _) (good_up.bnd fun _=>(vF he 1).bnd fun l=>fP _)
 (good_fail.bnd fun _=>aG.ret _))))))))))
theorem re {st:PM Int}(hs:aG st):∀(q:Nat) (l l':List Int) {s t:PS},jQ s→fZ st q l s=some (l',t)→jQ t∧t.ok=false
 |0,l,l',s,t,h,e=>by cases e
 |q+1,l,l',s,t,h,e=>by
  unfold fZ at e;rcases bH e with⟨k,e⟩|⟨k,e⟩
  ·obtain⟨-,e⟩:=aS e;rcases e with⟨k',e⟩|⟨k',e⟩
   ·rw[h.is]at k';cases k'
   ·obtain⟨l1,u,h1,e⟩:=af e;exact re hs q l1 l' ((eD hs l).exh h h1) e
  ·obtain⟨rfl,rfl⟩:=aH e;exact⟨h,k⟩
theorem xY {st:PM Int}(hs:aG st):∀(q:Nat) (l a a':List Int) {n:Nat} {s s' t t':PS},io n s s'→fZ st q l s=some (a,t)→fZ st q l s'=some (a',t')→(a'=a∧io n t t')∨(jQ t'∧t'.ok=false)
 |0,l,a,a',n,s,s',t,t',h,e,e'=>by cases e
 |q+1,l,a,a',n,s,s',t,t',h,e,e'=>by
  unfold fZ at e e';have ho:=h.ok;rcases bH e with⟨k,e⟩|⟨k,e⟩<;>rcases bH e' with⟨k',e'⟩|⟨k',e'⟩
  ·obtain⟨-,e⟩:=aS e;obtain⟨-,e'⟩:=aS e';rw[h.is]at e';rcases e with⟨c,e⟩|⟨c,e⟩<;>rcases e' with⟨c',e'⟩|⟨c',e'⟩
   ·obtain⟨rfl,rfl⟩:=aH e;obtain⟨rfl,rfl⟩:=aH e';exact .inl ⟨rfl,h⟩
   ·rw[c]at c';cases c'
   ·rw[c]at c';cases c'
   ·obtain⟨b,u,h1,e⟩:=af e;obtain⟨b',u',h1',e'⟩:=af e';rcases(eD hs l).rel h h1 h1' with⟨rfl,g⟩|g
    ·exact xY hs q _ a a' g e e'
    ·exact .inr (re hs q _ _ g e')
  ·rw[ho,k]at k';cases k'
  ·rw[ho,k]at k';cases k'
  ·obtain⟨rfl,rfl⟩:=aH e;obtain⟨rfl,rfl⟩:=aH e';exact .inl ⟨rfl,h⟩
def Rn (lim:PM Unit):Prop:=∀{n:Nat} {s s' t t':PS},io n s s'→lim s=some ((),t)→lim s'=some ((),t')→io n t t'
theorem Qa:Rn (PM.ret ()):=fun h e e'=>by
 obtain⟨-,rfl⟩:=aH e;obtain⟨-,rfl⟩:=aH e';exact h
theorem MU:Rn wx:=fun {n s s' t t'} h e e'=>by
 unfold wx at e e';rw[h.nd,h.tt]at e';cases hb:(decide (s.nd.length<10000)&&decide (0<s.nd.length)&&s.nd.all (rA s.nd.length))with
 |false=>rw[hb]at e;cases e
 |true=>
  rw[hb,cond_true]at e e';injection e with e;injection e' with e';injection e with _ e;injection e' with _ e';subst e e';cases br 1500 (ao .i64 (s.tt+(s.nd.length:Int)))with
  |true=>exact h.fail (by decide)
  |false=>
   cases br 24 (jp s.nd)with
   |true=>exact h.fail (by decide)
   |false=>exact h
theorem Oy {n:Nat}{s s' t t':PS}{x:No}{a a':Int}(h:io n s s')(e:dX x s=some (a,t))(e':dX x s'=some (a',t')):a'=a∧io n t t':=by
 obtain⟨-,-,e⟩:=jj e;obtain⟨-,-,e'⟩:=jj e';unfold PS.add at e e';rw[h.ok,h.nd]at e';cases hk:s.ok with
 |false=>
  rw[hk]at e e';injection e with e1 e2;injection e' with e3 e4;subst e1 e2 e3 e4;exact⟨rfl,h⟩
 |true=>
  rw[hk]at e e';injection e with e1 e2;injection e' with e3 e4;subst e1 e2 e3 e4;exact⟨rfl,⟨h.tk,h.ln,h.ps,h.aT,h.er,h.ne,h.tt,rfl,h.lt⟩⟩
theorem vE {lim:PM Unit}{st:PM Int}(hl:Rn lim)(hs:aG st)(q:Nat):aG (iV lim st q):=by
 have ex:∀{l:List Int} {s t:PS} {a:Int},jQ s→s.ok=false→(cok ((dX ⟨18,[],vz,l⟩).bnd fun x=>lim.bnd fun _=>(hD [125]).bnd fun _=> .ret x) (.ret 0)) s=some (a,t)→jQ t:=fun h hk e=>by
  rcases bH e with⟨k,e⟩|⟨k,e⟩
  ·rw[hk]at k;cases k
  ·obtain⟨rfl,rfl⟩:=aH e;exact h
 refine(gj _).bnd fun _=>⟨fun {n s s' t t' a a'} h e e'=>?_,fun {s t a} h e=>?_⟩
 ·obtain⟨l,u,h1,e⟩:=af e;obtain⟨l',u',h1',e'⟩:=af e';rcases xY hs q [] l l' h h1 h1' with⟨rfl,g⟩|g
  ·have ho:=g.ok;rcases bH e with⟨k,e⟩|⟨k,e⟩<;>rcases bH e' with⟨k',e'⟩|⟨k',e'⟩
   ·obtain⟨x,v,h2,e⟩:=af e;obtain⟨x',v',h2',e'⟩:=af e';obtain⟨rfl,g2⟩:=Oy g h2 h2';obtain⟨_,w,h3,e⟩:=af e;obtain⟨_,w',h3',e'⟩:=af e';exact((gi [125]).bnd fun _=>aG.ret x').rel (hl g2 h3 h3') e e'
   ·rw[ho,k]at k';cases k'
   ·rw[ho,k]at k';cases k'
   ·obtain⟨rfl,rfl⟩:=aH e;obtain⟨rfl,rfl⟩:=aH e';exact .inl ⟨rfl,g⟩
  ·exact .inr (ex g.1 g.2 e')
 ·obtain⟨l,u,h1,e⟩:=af e;have g:=re hs q [] l h h1;exact ex g.1 g.2 e
theorem GJ (q:Nat):∀(f:Nat),aG (Ii q f)
 |0=>aG.none
 |f+1=>vE Qa (yu (gA q f 0) (GJ q f) q) q
theorem E1:aG mM:=good_name.bnd fun n=>(bG _).bnd fun _=>good_kind.bnd fun k=>aG.ret _
theorem IW (f q:Nat):aG (wt f q):=by
 have hg:=vE MU (yu (gA q f 0) (GJ q f) q) q;refine⟨fun {n s s' t t' a a'} h e e'=>?_,fun {s t a} h e=>?_⟩
 ·unfold wt at e e';have h0:io n {s with nd:=[],ne:=0} {s' with nd:=[],ne:=0}:=⟨h.tk,h.ln,h.ps,h.aT,h.er,rfl,h.tt,rfl,h.lt⟩;split at e
  ·cases e
  ·rename_i b u he;split at e'
   ·cases e'
   ·rename_i b' u' he';injection e with e;injection e' with e';injection e with e1 e2;injection e' with e3 e4;subst e1 e2 e3 e4;rcases hg.rel h0 he he' with⟨rfl,g⟩|g
    ·exact .inl ⟨g.nd,⟨g.tk,g.ln,g.ps,g.aT,g.er,g.ne,by show ao .i64 (u'.tt+(u'.nd.length:Int))=_;rw[g.tt,g.nd],g.nd,g.lt⟩⟩
    ·exact .inr ⟨g.ps,g.er⟩
 ·unfold wt at e;split at e
  ·cases e
  ·rename_i b u he;injection e with e;injection e with e1 e2;subst e1 e2;have g:=hg.exh (s:={s with nd:=[],ne:=0}) ⟨h.ps,h.er⟩ he;exact⟨g.ps,g.er⟩
theorem IY (f q:Nat):aG (sF f q):=
 (bG _).bnd fun _=>good_name.bnd fun n=>(bG _).bnd fun _=>(pO (fun h=>by unfold zL;rw[h.peek]) (fun h=>by unfold zL;rw[h.peek];rfl) (fun l=>eD E1 l) []).bnd fun ps=>(bG _).bnd fun _=>
  (aG.cnd (fun h=>h.is _) (good_up.bnd fun _=>good_kind) (aG.ret 0)).bnd fun k=>(IW f q).bnd fun ns=>aG.ret _
theorem E0 (q:Nat):aG (mL q):=
 (bG _).bnd fun _=>good_name.bnd fun n=>(bG _).bnd fun _=>good_kind.bnd fun k=>(bG _).bnd fun _=>
  (aG.lf (fun {n s s'} h=>by
   refine .inl ⟨rfl,?_⟩;have e:cQ k s'=cQ k s:=by unfold cQ;rw[h.isF,h.peek]
   show io n (bif !cQ k s then s.fail 13 else s) (bif !cQ k s' then s'.fail 13 else s');rw[e];cases cQ k s with
   |true=>exact h
   |false=>exact h.fail (by decide)) fun {s} h=>by
   have e:cQ k s=false:=by
    unfold cQ;simp only[h.is,h.peek];cases eqI k 0<;>cases eqI k 1<;>cases eqI k 2<;>cases eqI k 3<;>cases eqI k 4<;>rfl
   show jQ (bif !cQ k s then s.fail 13 else s);rw[e];exact h.fail).bnd fun _=>(EZ q).bnd fun v=>(bG _).bnd fun _=>aG.ret _
theorem rx {α:Type}{w:List Nat}{most:Nat}{p:PM α}(hp:aG p):∀(q:Nat) (l:List α),aG (fc w most p q l)
 |0,l=>aG.none
 |q+1,l=>by
  refine⟨fun {n s s' t t' a a'} h e e'=>?_,fun {s t a} h e=>?_⟩
  ·unfold fc at e e';obtain⟨-,e⟩:=aS e;obtain⟨-,e'⟩:=aS e';rw[h.is]at e';rcases e with⟨c,e⟩|⟨c,e⟩<;>rcases e' with⟨c',e'⟩|⟨c',e'⟩
   ·obtain⟨_,u,h1,e⟩:=af e;obtain⟨_,u',h1',e'⟩:=af e';obtain⟨-,h1⟩:=bz h1;obtain⟨-,h1'⟩:=bz h1';injection h1 with _ h1;injection h1' with _ h1';subst h1 h1';have g:io n (bif Nat.beq l.length most then s.fail 5 else s) (bif Nat.beq l.length most then s'.fail 5 else s'):=by
     cases Nat.beq l.length most with
     |true=>exact h.fail (by decide)
     |false=>exact h
    exact((eD hp l).bnd fun l'=>rx hp q l').rel g e e'
   ·rw[c]at c';cases c'
   ·rw[c]at c';cases c'
   ·obtain⟨rfl,rfl⟩:=aH e;obtain⟨rfl,rfl⟩:=aH e';exact .inl ⟨rfl,h⟩
  ·unfold fc at e;obtain⟨-,e⟩:=aS e;rcases e with⟨c,e⟩|⟨c,e⟩
   ·rw[h.is]at c;cases c
   ·obtain⟨rfl,rfl⟩:=aH e;exact h
theorem Ij {α β γ:Type}(p:PM α)(f:α→PM β)(g:β→PM γ):(p.bnd f).bnd g=p.bnd fun a=>(f a).bnd g:=by
 funext s
 unfold PM.bnd;cases p s<;>rfl
def Nn (f q:Nat):PM (List Nat×List Fe×List Me):=(fd [97,99,116,111,114]).bnd fun _=>pName.bnd fun n=>(fd [123]).bnd fun _=>(fc [115,116,97,116,101] 8 (mL q) q []).bnd fun fs=>(fc [109,101,116,104,111,100] 16 (sF f q) q []).bnd fun ms=> .ret (n,fs,ms)
theorem Eu (f q:Nat):lr f q=(Nn f q).bnd fun r=>(fd [125]).bnd fun _=> .ret ⟨r.1,r.2.1,r.2.2⟩:=by
 unfold Nn;simp only[Ij];rfl
theorem IX (f q:Nat):aG (Nn f q):=(bG _).bnd fun _=>good_name.bnd fun n=>(bG _).bnd fun _=>(rx (E0 q) q []).bnd fun fs=>(rx (IY f q) q []).bnd fun ms=>aG.ret _
theorem Ib {f q n:Nat}{s s' t t':PS}{a a':Ac}(h:io n s s')(e:lr f q s=some (a,t))(e':lr f q s'=some (a',t'))(hk:t.ok=true)(hp:n<t.ps):jQ t'∧t'.ok=false:=by
 rw[Eu]at e e';obtain⟨r,u,h1,e⟩:=af e;obtain⟨r',u',h1',e'⟩:=af e';obtain⟨_,v,h2,e⟩:=af e;obtain⟨_,v',h2',e'⟩:=af e';obtain⟨-,rfl⟩:=aH e;obtain⟨-,rfl⟩:=aH e';obtain⟨-,h2⟩:=bz h2;obtain⟨-,h2'⟩:=bz h2';injection h2 with _ h2;injection h2' with _ h2';subst h2 h2';rcases(IX f q).rel h h1 h1' with⟨-,g⟩|g
 ·exfalso;unfold PS.exp at hk hp;cases hx:u.is [125]with
  |true=>
   rw[hx,cond_true]at hp;have:=g.lt (lm hx);have hp:n<u.ps+1:=hp;omega
  |false=>
   rw[hx,cond_false,li u (by decide)]at hk;cases hk
 ·exact g.exp _
theorem w5 {n f q:Nat}:∀(m:Nat) (l l':List Ac) {s t:PS},cH n f q m l s=some (l',t)→l.length≤l'.length
 |0,l,l',s,t,e=>by cases e
 |m+1,l,l',s,t,e=>by
  unfold cH at e;rcases bH e with⟨k,e⟩|⟨k,e⟩
  ·obtain⟨-,e⟩:=aS e;rcases e with⟨c,e⟩|⟨c,e⟩
   ·obtain⟨_,u,h1,e⟩:=af e;obtain⟨l1,v,h2,e⟩:=af e;obtain⟨x,h3,h4,rfl⟩:=cF h2;have:=w5 m _ l' e;rw[lπ]at this;exact mμ (Nat.le_add_right _ _) this
   ·obtain⟨rfl,rfl⟩:=aH e;exact Nat.le_refl _
  ·obtain⟨rfl,rfl⟩:=aH e;exact Nat.le_refl _
theorem F2 {n f q m:Nat}{l l':List Ac}{s t:PS}(h:s.ok=false)(e:cH n f q m l s=some (l',t)):l'=l∧t=s:=by
 cases m with
 |zero=>cases e
 |succ m=>
  unfold cH at e;rcases bH e with⟨k,e⟩|⟨k,e⟩
  ·rw[h]at k;cases k
  ·obtain⟨rfl,rfl⟩:=aH e;exact⟨rfl,rfl⟩
def Tr (tk:List Tk)(en:Int):PS:=⟨tk,0,en,0,0,0,0,[]⟩
theorem sS {n f q m:Nat}{tk:List Tk}{en:Int}{l':List Ac}{t:PS}(hn:0<n)(e:cH n f q (m+1) [] (Tr tk en)=some (l',t)):
  ∃x u,lr f q (Tr tk en)=some (x,u)∧cH n f q m [x] u=some (l',t):=by
 unfold cH at e;rcases bH e with⟨k,e⟩|⟨k,e⟩
 ·obtain⟨-,e⟩:=aS e;rcases e with⟨c,e⟩|⟨c,e⟩
  ·obtain⟨_,u,h1,e⟩:=af e;obtain⟨l1,v,h2,e⟩:=af e;obtain⟨-,h1⟩:=bz h1;injection h1 with _ h1;rw[show Nat.beq ([]:List Ac).length 8=false from rfl,Bool.and_false,cond_false]at h1;subst h1;obtain⟨x,h3,h4,rfl⟩:=cF h2;exact⟨x,v,h3,e⟩
  ·have:¬(0<n):=of_decide_eq_false c;exact absurd hn this
 ·cases k
theorem Jh {tk:List Tk}{en:Int}{f q n:Nat}{x:Ac}{at1:Int}(h6:tk.length≤6000)(hb:xU tk)(hf:7*tk.length+20≤f)(hq:tk.length+4≤q)(hn:0<n)(hl:n<tk.length)(h:jO tk en f q=some ([x],at1,0)):jO (tk.take n) (-7) f q=some ([],-7,13):=by
 have ln:(tk.take n).length=n:=by rw[mδ];omega
 have hb':xU (tk.take n):=fun t ht=>hb t (qα ht)
 have i:Iv (Tr (tk.take n) (-7)):=by
  refine⟨?_,by show(tk.take n).length≤_;omega,Nat.le_refl _,fun x hx=>by cases hx⟩
  unfold PS.sz;simp only[lβ,lγ,mγ];exact⟨Nat.zero_le _,by show(tk.take n).length<_;omega,fun t ht c hc=>hb' t ht c hc⟩
 obtain⟨l',s',he',_,o',_⟩:=rV (n:=n) (f:=f) (q:=q) (b:=n) (by omega) (by omega) (by omega) q [] _ _ i (Ao.refl _) (by show(tk.take n).length - 0+2≤q;omega) (by show(tk.take n).length - 0≤_;omega) (by simp);unfold jO at h ⊢
 rw[ln];split at h
 ·cases h
 ·rename_i l s he;injection h with h;cases hs:s.ok with
  |false=>rw[hs]at h;injection h with h1 h2;cases h1
  |true=>
   rw[hs,Bool.not_true,cond_false]at h;injection h with h1 h2;subst h1;cases q with
   |zero=>cases he
   |succ q=>
    obtain⟨y,u,e1,e2⟩:=sS (by omega) he;obtain⟨y',u',e1',e2'⟩:=sS hn he';have hu:u.ok=true∧tk.length≤u.ps:=by
     cases q with
     |zero=>cases e2
     |succ q=>
      unfold cH at e2;rcases bH e2 with⟨k,e⟩|⟨k,e⟩
      ·obtain⟨-,e⟩:=aS e;rcases e with⟨c,e⟩|⟨c,e⟩
       ·obtain⟨_,u1,h1,e⟩:=af e;obtain⟨l1,v,h2,e⟩:=af e;obtain⟨z,h3,h4,rfl⟩:=cF h2;have:=w5 _ _ _ e;simp at this
       ·have:¬(u.ps<tk.length):=of_decide_eq_false c;exact⟨k,by omega⟩
      ·obtain⟨-,rfl⟩:=aH e;rw[hs]at k;cases k
    have hsyn:io n (Tr tk en) (Tr (tk.take n) (-7)):=⟨rfl,by show n≤tk.length;omega,rfl,rfl,rfl,rfl,rfl,rfl,fun _=>hn⟩
    obtain⟨g,gk⟩:=Ib hsyn e1 e1' hu.1 (by omega);obtain⟨-,rfl⟩:=F2 gk e2';show(match cH n f (q+1) (q+1) [] (Tr (tk.take n) (-7))with|none=>none|some (l,s)=>some (bif !s.ok then([],s.aT,s.er)else(l,0,0)))=_;rw[he'];simp only[gk,Bool.not_false,cond_true];rcases g.er with h0|⟨h1,h2⟩
    ·rw[SQ]at gk;exact absurd h0 gk
    ·rw[h1,h2,show s'.en= -7 from o'.en]
theorem FC (tk:List Tk)(en:Int){f q:Nat}(hq:0<q):jO (tk.take 0) en f q=some ([],0,0):=by
 obtain⟨q,rfl⟩:∃j,q=j+1:=⟨q - 1,by omega⟩
 rfl
end
end Go.Ab
end
section
namespace Go.Ab
open Go
set_option maxRecDepth 100000
noncomputable section
theorem Vq (l:List Ac)(K:dn→R):cK (.agg [.slice 3 (l.map Ac.e)]) K=K ⟨l.map Ac.e⟩:=rfl
theorem FS (src:List Nat)(hb:By src)(hl:src.length≤6000){f q:Nat}(hf:7*src.length+20≤f)(hq:src.length+4≤q):∃r,qr src f q=some r:=by
 unfold qr;obtain⟨h1,h2⟩:=Ht src hb;cases !eqI (lH src).2.2 0 with
 |true=>exact⟨_,rfl⟩
 |false=>exact Ji _ _ (by omega) h1 (by omega) (by omega)
theorem Hz {n:Nat}(src:List Nat)(c:Int)(hb:By src)(hc:0≤c∧c<256)(ha:evFn lay0.tab (n+250000) 7 [] []=some (.p (.bool true),[])):evFn lay0.tab (n+250001) 6 [.p (.str src),.p (.int .u8 c)] []=some (.p (.bool true),[]):=by
 apply HS (n+250000) src c;unfold qJ;simp only[aa ha,aE,aw,aM,Bool.not_true,aU];cases hl:br 2000 (src.length:Int)with
 |true=>rfl
 |false=>
  rw[p9,mε]at hl;have hl:src.length≤2000:=by omega
  obtain⟨t1,t2⟩:=Ht src hb;obtain⟨⟨p,at1,e⟩,hs⟩:=FS src hb (by omega) (f:=14020) (q:=2004) (by omega) (by omega);have h1:=aa (HA (m:=n+250000) (by omega) (by omega) (by omega) hb (by omega) (by omega) hs);have h2:=aa (xS (m:=n+250000) src hb (by omega) (by omega));simp only[h1,h2,Hb,Hs,ba,jn,aE,Vq,aP,se,aM,aU,lμ];unfold qr at hs;generalize lH src=w at hs t1 t2;obtain⟨tk,a2,f2⟩:=w;simp only[]at hs t1 t2 ⊢
  cases he:eqI e 0 with
  |false=>rfl
  |true=>
   cases hf:eqI f2 0 with
   |false=>rfl
   |true=>
    rw[hf,Bool.not_true,cond_false]at hs;cases hz:eqI (tk.length:Int) 0 with
    |true=>rfl
    |false=>
     cases ho:eqI (p.length:Int) 1 with
     |false=>rfl
     |true=>
      rw[dJ,lγ]at he ho;rw[dJ,mε]at hz;have hlen:0<tk.length:=by omega
      obtain⟨x,rfl⟩:∃x,p=[x]:=by
       match p,ho with
       |[x],_=>exact⟨x,rfl⟩
       |[],h=>simp at h
       |_::_::_,h=>simp at h;omega
      subst he;obtain⟨k,rfl⟩:∃k:Nat,c=(k:Int):=⟨c.toNat,by omega⟩
      have hw:ao .i64 (k:Int)=(k:Int):=gT (by omega) (by omega);have hm:Int.tmod (k:Int) (tk.length:Int)=((k % tk.length:Nat):Int):=rfl;have hlt:=Nat.mod_lt k hlen;rw[hw,hm];generalize k % tk.length=j at hlt;simp only[Bool.not_true,aU,j1,show(0:Int)≤(j:Int) by omega,show(j:Int)≤(tk.length:Int) by omega,decide_true,aV,Int.toNat_natCast,Nat.sub_zero,List.drop_zero,←List.map_take];have hp:jO (tk.take j) (-7) 14020 2004=some (bif eqI (j:Int) 0 then([],0,0)else([],-7,13)):=by
       cases j with
       |zero=>exact FC tk (-7) (by decide)
       |succ j=>
        rw[UX (show ¬((j+1:Nat):Int)=0 by omega),cond_false];exact Jh (by omega) t1 (by omega) (by omega) (by omega) hlt hs
      have h3:=aa (Bp (m:=n+250000) (by omega) (by omega) (by omega) hp);simp only[h3,Hb,ba,jn,aE,Vq,aP,aM];cases eqI (j:Int) 0<;>rfl
end
end Go.Ab
end
section
namespace Go.Ab
open Go
set_option maxRecDepth 100000
noncomputable section
abbrev Bn:TypeId→Nat:=fun _=>1048576
def flatT (P:Program)(t:TypeId):Bool:=
 match P.underlying t with
 |some (.slice _)=>false
 |some (.struct _)=>false
 |_=>true
theorem call0_ok (L:Letters)(N:Nat):eF prog0 globs0 (evFn lay0.tab N):=pI (P:=prog0) (G:=globs0) I8 (lay0.okM L mvG) N
theorem Q7:prog0.underlying 9=some .string:=by kernel_rfl
theorem U7:prog0.underlying 5=some (.int .u8):=by kernel_rfl
theorem TL {n:Nat}{x:Da}(h:jY prog0 (co prog0 Bn (n+1)) 9 x):∃s,x= .str s∧By s:=by
 unfold jY oJ at h;rw[Q7]at h;simp only[co,Q7]at h;obtain⟨s,e,_,hb⟩:=h;simp only[lκ,and_true]at e;exact⟨s,e,hb⟩
theorem UT {n:Nat}{x:Da}(h:jY prog0 (co prog0 Bn (n+1)) 5 x):∃i,x= .int .u8 i∧0≤i∧i<256:=by
 obtain⟨i,e,hw⟩:=IB U7 h;simp only[Lit.wf,lβ,lγ]at hw;have h1:IntKind.u8.min=0:=rfl;have h2:IntKind.u8.max=255:=rfl;rw[h1,h2]at hw;exact⟨i,e,by omega⟩
theorem NX {n:Nat}:evFn lay0.tab (n+1) 7 [] []=some (.p (.bool true),[]):=by kernel_rfl
theorem run_SyntaxCuts:∀xs,Pw (jY prog0 (co prog0 Bn 12)) [9,5] xs→∃N,evFn lay0.tab N 6 (xs.map .p) []=some (.p (.bool true),[]):=by
 intro xs h;obtain⟨x1,r1,rfl,h1,h⟩:=h.cons_inv;obtain⟨x2,r2,rfl,h2,h⟩:=h.cons_inv;obtain rfl:=h.nil_inv;obtain⟨s,rfl,hs⟩:=TL (n:=11) h1;obtain⟨c,rfl,hc⟩:=UT (n:=11) h2;exact⟨0+250001,Hz (n:=0) s c hs hc (NX (n:=249999))⟩
end
end Go.Ab
end
