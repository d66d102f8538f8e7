import Derived.Test.YtmnmeiibmgcddaaGreatDoorKg2
import Derived.Test.YtmnmeiibmgcddaaGreatDoorKg1
import Derived.Test.YtmnmeiibmgcddaaGreatDoorOg3
import Derived.Test.YtmnmeiibmgcddaaGreatDoorKg0
import Derived.Test.YtmnmeiibmgcddaaGreatDoorAm5
import Derived.KernelRfl
set_option linter.all false
namespace Go.Ab
open Go
set_option maxRecDepth 100000
noncomputable section
section
def AM (c:Nat)(o:Option (Ef×Int)):Prop:=∃r,o=some r/\(r.2=0->VX r.1/\c<16)
def gt {c:Nat}{b:Bool}{A B:Option (Ef×Int)}(h:b=true->AM c A)(g:b=false->AM c B):AM c (bif b then A else B):=by cases b;exact g rfl;exact h rfl
def gu {c:Nat}{e:Int}(h:e≠0):AM c (some (LW,e)):=⟨_,rfl,fun g=>absurd g h⟩
def Gs {s:LN}(h:cg s []=false)(g:aG 32 (s.length:Int)=false):1<=s.length/\s.length<=32:=by
 rw[ma,lζ]at h;rw[bX,lζ]at g;cases s with
 |nil=>exact absurd rfl h
 |cons a r=>simp only[List.length_cons]at g ⊢;omega
variable {w:Va}
def YC {z:Va}(c:Nat)(hw:Fv 3 w):AM c (oJ 1 [w,z] c):=by
 refine gt (fun _=>gu (aX rfl)) fun h1=>?_
 refine gt (fun _=>gu (aX rfl)) fun h2=>?_
 refine gt (fun _=>gu (aX rfl)) fun h3=>?_
 rw[bj,lζ]at h1;exact⟨(⟨1,w.s,z.n,0⟩,0),rfl,fun _=>⟨⟨⟨by show(1:Int)<=1;omega,by show(1:Int)<=3;omega⟩,Gs h2 h3,(fun h=>absurd h (aX rfl)),(fun h=>absurd h (aX rfl))⟩,by omega⟩⟩
def YD {z u:Va}(c:Nat)(hw:Fv 3 w):AM c (oJ 2 [w,z,u] c):=by
 refine gt (fun _=>gu (aX rfl)) fun h1=>?_
 refine gt (fun _=>gu (aX rfl)) fun h2=>?_
 refine gt (fun _=>gu (aX rfl)) fun h3=>?_
 rw[bj,lζ]at h1;show AM c (bif aG z.n 1 then some (LW,5)else bif aG 1073741824 z.n then some (LW,5)else bif aG u.n 1 then some (LW,5)else bif aG 1073741824 u.n then some (LW,5)else some (⟨2,w.s,z.n,u.n⟩,0));refine gt (fun _=>gu (aX rfl)) fun h4=>?_
 refine gt (fun _=>gu (aX rfl)) fun h5=>?_
 refine gt (fun _=>gu (aX rfl)) fun h6=>?_
 refine gt (fun _=>gu (aX rfl)) fun h7=>?_
 rw[bX,lζ]at h4 h6;exact⟨_,rfl,fun _=>⟨⟨⟨by show(1:Int)<=2;omega,by show(2:Int)<=3;omega⟩,Gs h2 h3,(fun _=>⟨by show 1<=z.n;omega,by show 1<=u.n;omega⟩),(fun h=>absurd h (aX rfl))⟩,by omega⟩⟩
def YE (c:Nat)(hw:Fv 3 w):AM c (oJ 3 [w] c):=by
 refine gt (fun _=>gu (aX rfl)) fun h1=>?_
 refine gt (fun _=>gu (aX rfl)) fun h2=>?_
 refine gt (fun _=>gu (aX rfl)) fun h3=>?_
 rw[bj,lζ]at h1;exact⟨(⟨3,w.s,0,0⟩,0),rfl,fun _=>⟨⟨⟨by show(1:Int)<=3;omega,by show(3:Int)<=3;omega⟩,Gs h2 h3,(fun h=>absurd h (aX rfl)),(fun _=>⟨rfl,rfl⟩)⟩,by omega⟩⟩
section
variable {s:Xs} {t:Ct} {S:List SV} {X:Xt} {pc:Nat} {v:SV} {e:Ek} {st':LI} {l:List Va} {Y:Xt} {a b:Int} {vv:Va}
def TO (h:gb s t S X pc ⟨28,a,b,vv⟩ v e st' l Y)(L:List Ek)(he:cN s.c t s.q ⟨28,a,b,vv⟩ (c9 v.st)=some L)(hel:e∈L):eA s t S ⟨28,a,b,vv⟩ e l Y:=by
 obtain rfl:=Option.some.inj he;obtain rfl:=List.mem_singleton.1 hel;obtain rfl:l=[]:=lη h.l.len;refine⟨_,rfl,({Y with pc:=a},0),rfl,fun _=>h.pop rfl (Z:={Y with pc:=a}) (List.mem_singleton.2 rfl) rfl ?_ ?_ ?_ h.dn⟩
 ·rw[oo (aX rfl)];show jF _ _ Y.ls;rw[h.ls];exact h.hls
 ·show FvL _ Y.fs;rw[h.fs];exact h.g.fs
 ·show AS Y.es;rw[h.es];exact h.g.es
def TP (h:gb s t S X pc ⟨29,a,b,vv⟩ v e st' l Y)(L:List Ek)(he:cN s.c t s.q ⟨29,a,b,vv⟩ (c9 v.st)=some L)(hel:e∈L):eA s t S ⟨29,a,b,vv⟩ e l Y:=by
 obtain rfl:=Option.some.inj he;obtain rfl:=List.mem_singleton.1 hel;obtain⟨w,rfl,hw⟩:=uA h.l;have h2:=h.s2;have hsu:(eM s.q pc ⟨29,a,b,vv⟩).1=[((pc+1:Nat):Int),a]:=by
  have e1:eM s.q pc ⟨29,a,b,vv⟩=bif decide (pc+1=s.q.code.length)then([],false)else([((pc+1:Nat):Int),a],true):=rfl
  rw[e1]at h2 ⊢
  revert h2
  cases decide (pc+1=s.q.code.length)with
  |true=>intro h;cases h
  |false=>intro _;rfl
 have q1:jF s.q.locals (lA ⟨29,a,b,vv⟩ v.set) Y.ls:=by rw[oo (aX rfl),h.ls];exact h.hls
 have q2:FvL (t.fields.map Fe.kind) Y.fs:=by rw[h.fs];exact h.g.fs
 have q3:AS Y.es:=by rw[h.es];exact h.g.es
 refine⟨_,rfl,Gc ⟨29,a,b,vv⟩ [w] Y,rfl,fun _=>?_⟩
 have e2:Gc ⟨29,a,b,vv⟩ [w] Y=bif az w.n 0 then({Y with pc:=a},0)else(Y,0):=rfl
 rw[e2];cases az w.n 0 with
 |true=>exact h.pop rfl (Z:={Y with pc:=a}) (by rw[hsu];exact mα _ lυ) rfl q1 q2 q3 h.dn
 |false=>exact h.pop rfl (Z:=Y) (by rw[hsu,h.pcN];exact lυ) rfl q1 q2 q3 h.dn
def gb.out (h:gb s t S X pc ⟨30,a,b,vv⟩ v e st' l Y\/gb s t S X pc ⟨32,a,b,vv⟩ v e st' l Y){Z:Xt}(hfs:Z.fs=X.fs)(hes:Z.es=X.es)(hls:Z.ls=X.ls)(hst:Z.st=[])(hpc:Z.pc=((pc+1:Nat):Int))(hd:Z.done=true)(ho:UX s S Z):Gd s t S Z:=by
 have k:Gd s t S X/\s.q.code[pc]?≠none/\s.q.code.length<1501:=by
  rcases h with h|h
  ·exact⟨h.g,by rw[h.hc];simp,h.hx.f.z.c⟩
  ·exact⟨h.g,by rw[h.hc];simp,h.hx.f.z.c⟩
 obtain⟨g,k2,k3⟩:=k;have hp:pc<s.q.code.length:=by
  by_cases hh:pc<s.q.code.length
  ·exact hh
  ·exact absurd (lτ (by omega)) k2
 refine⟨by rw[hfs];exact g.fs,by rw[hes];exact g.es,by rw[hls];exact g.ls,by rw[hst];simp,by rw[hpc];omega,(fun h=>by rw[hd]at h;cases h),fun _=>ho⟩
def TQ (h:gb s t S X pc ⟨30,a,b,vv⟩ v e st' l Y)(L:List Ek)(he:cN s.c t s.q ⟨30,a,b,vv⟩ (c9 v.st)=some L)(hel:e∈L):eA s t S ⟨30,a,b,vv⟩ e l Y:=by
 have he:(fA s.c a b).map (fun q=>[((3::q.params,lz q):Ek)])=some L:=he;cases hq:fA s.c a b with
 |none=>rw[hq]at he;cases he
 |some q=>
 rw[hq]at he;obtain rfl:=Option.some.inj he;obtain rfl:=List.mem_singleton.1 hel;refine⟨Kh s ⟨30,a,b,vv⟩,?_,?_⟩
 ·show(fA s.c a b).map _=_;rw[hq];show some ((1+(q.params.length:Int)),_)=some (((q.params.length+1:Nat):Int),_);rw[show(1+(q.params.length:Int))=((q.params.length+1:Nat):Int) by omega]
 match l,h with
 |w::r,h=>
 have hw:=h.l.1;have hr:FvL q.params r:=h.l.2;unfold fA at hq;cases ht:dj s.c a with
 |none=>rw[ht]at hq;cases hq
 |some u=>
 rw[ht,Option.bind_some]at hq;have e1:Kh s ⟨30,a,b,vv⟩ (w::r) Y=bif aG 32 (w.s.length:Int)then some (Y,5)else(dj s.c a).bind fun t=>(dj t.methods b).map fun q=>({Y with done:=true,ok:=2,ov:=v0,tT:=t.name,tK:=w.s,mn:=q.name,ar:=r,fu:=0},0):=rfl
 rw[e1];cases h5:aG 32 (w.s.length:Int)with
 |true=>exact⟨_,rfl,fun h=>absurd h (aX rfl)⟩
 |false=>
  rw[cond_false,ht,Option.bind_some,hq];refine⟨_,rfl,fun _=>?_⟩
  rw[bX,lζ]at h5;obtain⟨K0,k1,k2,k3⟩:=h.st;obtain⟨k4,k5⟩:=k3 (.inl rfl);have hp1:((pc+1:Nat):Int)∈(eM s.q pc ⟨30,a,b,vv⟩).1:=by
   rw[QI h.s2 (aX rfl) (aX rfl) (aX rfl) (aX rfl)];exact List.mem_singleton.2 rfl
  obtain⟨z,hz,-,hzs,hzb⟩:=h.to _ hp1;rw[oo (aX rfl)]at hzb;refine gb.out (.inl h) h.fs h.es h.ls k4 h.pcN rfl (.inr ⟨rfl,rfl,pc,_,z,u,q,h.pcN,h.hc,rfl,hz,?_,ht,hq,rfl,rfl,by show w.s.length<=32;omega,hr⟩);show jF _ _ Y.ls;rw[h.ls];exact h.hls.sub hzb
def TR (h:gb s t S X pc ⟨31,a,b,vv⟩ v e st' l Y)(L:List Ek)(he:cN s.c t s.q ⟨31,a,b,vv⟩ (c9 v.st)=some L)(hel:e∈L):eA s t S ⟨31,a,b,vv⟩ e l Y:=by
 obtain rfl:=Option.some.inj he;obtain rfl:=List.mem_singleton.1 hel;refine⟨_,rfl,(Y,0),rfl,fun _=>h.pop rfl (Z:=Y) (h.nx (aX rfl) (aX rfl) (aX rfl) (aX rfl)) rfl ?_ ?_ ?_ h.dn⟩
 ·rw[oo (aX rfl),h.ls];exact h.hls
 ·rw[h.fs];exact h.g.fs
 ·rw[h.es];exact h.g.es
def TS (h:gb s t S X pc ⟨32,a,b,vv⟩ v e st' l Y)(L:List Ek)(he:cN s.c t s.q ⟨32,a,b,vv⟩ (c9 v.st)=some L)(hel:e∈L):eA s t S ⟨32,a,b,vv⟩ e l Y:=by
 obtain rfl:=Option.some.inj he;obtain rfl:=List.mem_singleton.1 hel;obtain⟨K0,k1,k2,k3⟩:=h.st;obtain⟨k4,k5⟩:=k3 (.inr rfl);have hl:FvL (lz s.q) l:=h.l;refine⟨fun l X=>some (Px l X,0),?_,(Px l Y,0),rfl,fun _=>gb.out (.inr h) h.fs h.es h.ls k4 h.pcN rfl (.inl ⟨rfl,?_,rfl⟩)⟩
 ·show some (Qv s.q,_)=some (((lz s.q).length:Int),_);unfold Qv lz;cases az s.q.res 0<;>rfl
 ·show Fv s.q.res (l.headD v0);unfold lz at hl;cases hr:az s.q.res 0 with
  |true=>
   rw[hr]at hl;obtain rfl:l=[]:=lη hl.len;rw[eqI_t.1 hr];exact(k6 0 v0).2 ⟨⟨rfl,by omega,.inl rfl,.inl rfl,.inl rfl,.inl rfl,by simp[v0],by simp[v0],by simp[v0],by simp[v0]⟩,EK,by simp[v0]⟩
  |false=>
   rw[hr]at hl;obtain⟨w,rfl,hw⟩:=uA hl;exact hw
def TT (h:gb s t S X pc ⟨33,a,b,vv⟩ v e st' l Y)(L:List Ek)(he:cN s.c t s.q ⟨33,a,b,vv⟩ (c9 v.st)=some L)(hel:e∈L):eA s t S ⟨33,a,b,vv⟩ e l Y:=by
 obtain rfl:=Option.some.inj he;obtain rfl:=List.mem_singleton.1 hel;exact⟨_,rfl,(Y,26),rfl,fun h=>absurd h (aX rfl)⟩
def TU (h:gb s t S X pc ⟨34,a,b,vv⟩ v e st' l Y)(L:List Ek)(he:cN s.c t s.q ⟨34,a,b,vv⟩ (c9 v.st)=some L)(hel:e∈L):eA s t S ⟨34,a,b,vv⟩ e l Y:=by
 obtain rfl:=Option.some.inj he;obtain rfl:=List.mem_singleton.1 hel;obtain⟨w,z,rfl,hw,hz⟩:=jL h.l;obtain⟨r,hr,hg⟩:=YC (z:=z) Y.es.length hw;exact⟨_,rfl,sk r Y,by show(oJ 1 [w,z] Y.es.length).map _=_;rw[hr];rfl,h.ask rfl (aX rfl) (aX rfl) (aX rfl) (aX rfl) (aX rfl) hg⟩
def TV (h:gb s t S X pc ⟨35,a,b,vv⟩ v e st' l Y)(L:List Ek)(he:cN s.c t s.q ⟨35,a,b,vv⟩ (c9 v.st)=some L)(hel:e∈L):eA s t S ⟨35,a,b,vv⟩ e l Y:=by
 obtain rfl:=Option.some.inj he;obtain rfl:=List.mem_singleton.1 hel;obtain⟨w,z,u,rfl,hw,hz,hu⟩:=Xh h.l;obtain⟨r,hr,hg⟩:=YD (z:=z) (u:=u) Y.es.length hw;exact⟨_,rfl,sk r Y,by show(oJ 2 [w,z,u] Y.es.length).map _=_;rw[hr];rfl,h.ask rfl (aX rfl) (aX rfl) (aX rfl) (aX rfl) (aX rfl) hg⟩
def TW (h:gb s t S X pc ⟨36,a,b,vv⟩ v e st' l Y)(L:List Ek)(he:cN s.c t s.q ⟨36,a,b,vv⟩ (c9 v.st)=some L)(hel:e∈L):eA s t S ⟨36,a,b,vv⟩ e l Y:=by
 obtain rfl:=Option.some.inj he;obtain rfl:=List.mem_singleton.1 hel;obtain⟨w,rfl,hw⟩:=uA h.l;obtain⟨r,hr,hg⟩:=YE Y.es.length hw;exact⟨_,rfl,sk r Y,by show(oJ 3 [w] Y.es.length).map _=_;rw[hr];rfl,h.ask rfl (aX rfl) (aX rfl) (aX rfl) (aX rfl) (aX rfl) hg⟩
end
end
variable {Y:Xt}
def PH {s:Xs}{t:Ct}{S:List SV}{X:Xt}{pc:Nat}{x:Cd}{v:SV}{e:Ek}{st':LI}{l2:List Va}(hs:gb s t S X pc x v e st' l2 Y)(hky:s.ky.length<=32)(l:List Ek)(he:cN s.c t s.q x (c9 v.st)=some l)(hel:e∈l):eA s t S x e l2 Y:=by
 obtain⟨op,a,b,vv⟩:=x;have ho:1<=op/\op<=36:=XC hs.hin;have hc:op=1\/op=2\/op=3\/op=4\/op=5\/op=6\/op=7\/op=8\/op=9\/op=10\/op=11\/op=12\/op=13\/op=14\/op=15\/op=16\/op=17\/op=18\/op=19\/op=20\/op=21\/op=22\/op=23\/op=24\/op=25\/op=26\/op=27\/op=28\/op=29\/op=30\/op=31\/op=32\/op=33\/op=34\/op=35\/op=36:=by omega
 rcases hc with rfl|rfl|rfl|rfl|rfl|rfl|rfl|rfl|rfl|rfl|rfl|rfl|rfl|rfl|rfl|rfl|rfl|rfl|rfl|rfl|rfl|rfl|rfl|rfl|rfl|rfl|rfl|rfl|rfl|rfl|rfl|rfl|rfl|rfl|rfl|rfl
 ·exact Xk hs l he hel
 ·exact Xl hs l he hel
 ·exact Xm hs l he hel
 ·exact Xo hs l he hel
 ·exact Xp hs l he hel
 ·exact Xq hs l he hel hky
 ·exact Xr hs l he hel
 ·exact Xu hs l he hel
 ·exact Xv hs l he hel
 ·exact Tv hs l he hel
 ·exact Tw hs l he hel
 ·exact Tx hs l he hel
 ·exact Tz hs l he hel
 ·exact TA hs l he hel
 ·exact TB hs l he hel
 ·exact TC hs l he hel
 ·exact TD hs l he hel
 ·exact TE hs l he hel
 ·exact TF hs l he hel
 ·exact TG hs l he hel
 ·exact TH hs l he hel
 ·exact TI hs l he hel
 ·exact TJ hs l he hel
 ·exact TK hs l he hel
 ·exact TL hs l he hel
 ·exact TM hs l he hel
 ·exact TN hs l he hel
 ·exact TO hs l he hel
 ·exact TP hs l he hel
 ·exact TQ hs l he hel
 ·exact TR hs l he hel
 ·exact TS hs l he hel
 ·exact TT hs l he hel
 ·exact TU hs l he hel
 ·exact TV hs l he hel
 ·exact TW hs l he hel
def I2 {s:Xs}{t:Ct}{S:List SV}{X:Xt}(hx:UT s t S)(hky:s.ky.length<=32)(h:Gd s t S X)(hd:X.done=false):∃y,pX s X=some y/\(y.2=0->Gd s t S y.1):=by
 obtain⟨pc,v,hpc,hv,hst,hls⟩:=h.lv hd;have hlen:pc<s.q.code.length:=by rw[<-hx.x.o.n];exact(List.getElem?_eq_some_iff.1 hv).1
 have hc:=lε hlen;have hin:=hx.f.i _ (lρ hlen);generalize s.q.code[pc]=x at hc hin;obtain⟨st',ha,hs2,hto⟩:=hx.x.c pc x v hc hv;obtain⟨l,e,he,hel,hle,hdrop,hst',hcl,-⟩:=HS ha;have hll:=hst.len;have hs:gb s t S X pc x v e st' (X.st.drop (X.st.length - e.1.length)) {X with pc:=X.pc+1,st:=X.st.take (X.st.length - e.1.length)}:=by
  refine⟨hx,h,hc,hv,hpc,hls,hin,hs2,hto,⟨v.st.take (v.st.length - e.1.length),hst',?_,fun ho=>?_⟩,?_,yT ha,rfl,hd⟩
  ·show FvL _ (X.st.take (X.st.length - e.1.length));rw[hll];exact hst.take _
  ·have hz:=hcl ho;refine⟨?_,hz⟩;have:=(hst.take (v.st.length - e.1.length)).len;rw[hz]at this;show X.st.take (X.st.length - e.1.length)=[];rw[hll];exact lη this
  ·have:=hst.drop (v.st.length - e.1.length);rw[hdrop]at this;rw[hll];exact this
 obtain⟨f,hf,y,hy,hg⟩:=PH hs hky l he hel;refine⟨y,?_,hg⟩;unfold pX;rw[hpc,oL,hc,Option.bind_some,hf,Option.bind_some];unfold vp;have h1:(aL 0 (e.1.length:Int)&&aL (e.1.length:Int) (X.st.length:Int))=true:=by
  rw[lγ,bj,bj,lδ,lδ];omega
 show(bif(aL 0 (e.1.length:Int)&&aL (e.1.length:Int) (X.st.length:Int))then _ else _)=_;rw[h1,cond_true,Int.toNat_natCast];exact hy
def ï {s:Xs}{t:Ct}{S:List SV}{X:Xt}(hx:UT s t S)(h:Gd s t S X)(hw:∀y∈s.q.code,Wk y.v):Wx s X:=by
 have:=h.es.n;have h2:=h.st.2;exact⟨h.ls,h.fs.wk,h.st.1,by omega,by omega,hw,hx.f.z.c,h.pc⟩
def Iv {s:Xs}{t:Ct}{S:List SV}(hx:UT s t S)(hky:s.ky.length<=32):Jo s (Gd s t S):=by
 have hw:∀y∈s.q.code,Wk y.v:=fun y hy=>by
  have hin:=hx.f.i y hy;have hv:=hx.v y hy;have hi:=jO hin;cases h1:az y.op 1 with
  |true=>
   rw[h1,cond_true,lγ]at hi;exact xQ (k:=y.v.k) ⟨by unfold jj;rw[hi.1,eqI_t.2 rfl];rfl,hv⟩
  |false=>
   unfold gX at hin;rw[lγ,lγ (az y.op 1||fd y.v v0),h1,Bool.false_or]at hin;have h0:=hin.2.1;unfold fd at h0;simp only[lγ,cE,ma,lδ]at h0;obtain⟨a1,a2,a3,a4,a5⟩:=h0;have:y.v=v0:=by
    obtain⟨op,a,b,k,n,s,I,L⟩:=y;simp only at a1 a2 a3 a4 a5;simp only[a1,a2,a3,a4,a5,v0]
   rw[this];exact VN
 refine⟨fun X h=>ï hx h hw,fun X h hd=>?_,hx.f.q⟩
 obtain⟨y,hy,hg⟩:=I2 hx hky h hd;exact⟨y,hy,fun h0 u=>(hg h0).fu u⟩
def Uz {v:Va}(h:fd v v0=true):v=v0:=by
 unfold fd at h;simp only[lγ,cE,ma,lδ]at h;obtain⟨a1,a2,a3,a4,a5⟩:=h;obtain⟨k,n,s,I,L⟩:=v;simp only at a1 a2 a3 a4 a5;simp only[a1,a2,a3,a4,a5,v0]
def ZR (c:List Ct):Prop:=∀t∈c,∀m∈t.methods,∀y∈m.code,EY y.v
def XM {ks:LI}{a:Nat}{ls:List Va}(hl:ls.length=ks.length)(hb:Dl ((List.range ks.length).map fun i=>a.testBit i) ls ks=true)(hv:∀v∈ls,EY v):jF ks a ls:=⟨hl,fun i k v hk hv'=>by
 obtain⟨h1,rfl⟩:=List.getElem?_eq_some_iff.1 hk;obtain⟨h2,rfl⟩:=List.getElem?_eq_some_iff.1 hv';unfold Dl at hb;have hlen:i<(((List.range ks.length).map fun i=>a.testBit i).zip (ls.zip ks)).length:=by
  rw[qα,qα,lβ,List.length_range];omega
 have:=mε.1 hb _ (lρ hlen);rw[List.getElem_zip,List.getElem_zip]at this;simp only[List.getElem_map,List.getElem_range,qγ,lγ,Bool.not_eq_true']at this;rcases this with h|⟨h,h'⟩
 ·exact .inl ⟨h,hv _ (lρ h2)⟩
 ·exact .inr ⟨Uz h',h⟩⟩
def ZM {c:List Ct}(hc:AJ c){x:Mc}(h:ot c x=true):∃t S q,la c x.ty x.me=some q/\Hi c=0/\dj c x.ty=some t/\t∈c/\dj t.methods x.me=some q/\q∈t.methods/\HI c t q/\Í c t q S/\jG c t q=some S/\∃(pc:Nat) (v:SV),x.pc=(pc:Int)/\S[pc]?=some v/\xC q x.pc=true/\x.ls.length=q.locals.length/\Dl ((List.range q.locals.length).map fun i=>v.set.testBit i) x.ls q.locals=true:=by
 cases hq:la c x.ty x.me with
 |none=>rw[VL hq]at h;cases h
 |some q=>
  rw[VM hq]at h;obtain⟨t,S,g1,g2,g3,g4,g5,g6,g7,g8,g9,g10⟩:=Qb hc hq;simp only[lγ,Bool.not_eq_true',bX,bj,lζ,lδ]at h;obtain⟨h1,h2,h3,h4,h5⟩:=h;obtain⟨v,hv,-,has⟩:=U8 g8 g9 g10.n (p:=x.pc) ⟨by omega,by omega⟩
  rw[has]at h5;obtain⟨p0,-,p2⟩:=jH hv;exact⟨t,S,q,rfl,g1,g2,g3,g4,g5,g6,R2 g6 g7,g7,x.pc.toNat,v,(mσ p0).symm,p2,h3,h4,h5⟩
variable {key:LN} {rp:Va}
def yo {c:List Ct}(hc:AJ c)(hcv:ZR c){x:Mc}{fs:List Va}{fuel:Int}(hx:∀v∈x.ls,EY v)(hfs:∀v∈fs,EY v)(hrp:EY rp)(h:kf c x key fs rp fuel=true):∃t S,UT (S0 c x key) t S/\Gd (S0 c x key) t S (X0 x fs rp)/\key.length<=32/\dj c x.ty=some t/\t∈c/\la c x.ty x.me=some (S0 c x key).q/\jG c t (S0 c x key).q=some S:=by
 unfold kf at h;simp only[lγ,Bool.not_eq_true',bX,lζ]at h;obtain⟨h1,h2,h3,h4,h5,h6⟩:=h;obtain⟨t,S,q,e1,e2,e3,e4,e5,e6,e7,e8,e14,pc,v,e9,e10,e11,e12,e13⟩:=ZM hc h1;have hq:(S0 c x key).q=q:=by unfold S0;rw[e1];rfl
 have hctx:UT (S0 c x key) t S:=⟨by rw[hq];exact e7,by rw[hq];exact e8,by rw[hq];exact hcv t e4 q e6⟩
 have hfv:FvL (t.fields.map Fe.kind) fs:=by
  unfold QV wM at h3;rw[show az (Hi c) 0=true from eqI_t.2 e2,cond_true,e3]at h3;exact FvL.of h3 hfs
 have hlc:=XM e12 e13 hx;have hpl:pc<q.code.length:=by rw[<-e8.o.n];exact(List.getElem?_eq_some_iff.1 e10).1
 have hcl:=e7.z.c;have hrk:Fv (R8 c x) rp:=⟨h6,hrp⟩;have hst:FvL v.st (bif az rp.k 0 then[]else[rp]):=by
  cases hp:az x.pc 0 with
  |true=>
   have hp0:pc=0:=by have:=eqI_t.1 hp;omega
   subst hp0;obtain⟨u,hu,hus,-⟩:=e8.z;rw[e10]at hu;cases hu;unfold R8 at hrk;rw[hp,cond_true]at hrk;have:rp.k=0:=((k6 0 rp).1 hrk).1.1;rw[hus,eqI_t.2 this];trivial
  |false=>
   rw[cE,lζ]at hp;obtain⟨p,rfl⟩:∃p,pc=p+1:=⟨pc - 1,by omega⟩
   unfold xC at e11;rw[show aG 0 x.pc=true from hZ (by omega),cond_true,e9,show((p+1:Nat):Int) - 1=(p:Int) by omega,oL]at e11;have hpc:=lε (show p<q.code.length by omega);rw[hpc]at e11;have hin:=e7.i _ (lρ (show p<q.code.length by omega));generalize q.code[p]=y at hpc e11 hin;have hop:y.op=30:=eqI_t.1 e11;have hpS:p<S.length:=by rw[e8.o.n];omega
   have hS:=lε hpS;generalize S[p]=w at hS;obtain⟨st',ha,hs2,hto⟩:=e8.c p y w hpc hS;obtain⟨l,e,he,hel,-,-,hst',hcl',-⟩:=HS ha;have hp1:((p+1:Nat):Int)∈(eM q p y).1:=by
    rw[QI hs2 (by omega) (by omega) (by omega) (by omega)];exact List.mem_singleton.2 rfl
   obtain⟨u,hu,-,hus,-⟩:=hto _ hp1;rw[Int.toNat_natCast,e10]at hu;cases hu;rw[hus,hst',hcl' (.inl hop),List.nil_append];obtain⟨op,a,b,vv⟩:=y;have hop:op=30:=hop;subst hop;have he:(fA c a b).map (fun q=>[((3::q.params,lz q):Ek)])=some l:=he;cases hz:fA c a b with
   |none=>rw[hz]at he;cases he
   |some z=>
   rw[hz]at he;obtain rfl:=Option.some.inj he;obtain rfl:=List.mem_singleton.1 hel;have haw:R8 c x=z.res:=by
    unfold R8;rw[show az x.pc 0=false by rw[cE];exact mθ hp,cond_false,e1,Option.bind_some,e9,show((p+1:Nat):Int) - 1=(p:Int) by omega,oL,hpc,Option.bind_some];show((fA c a b).getD m0).res=_;rw[hz];rfl
   rw[haw]at hrk;have hk:rp.k=z.res:=((k6 _ rp).1 hrk).1.1;show FvL (lz z) _;unfold lz;rw[<-hk];cases az rp.k 0 with
   |true=>trivial
   |false=>exact⟨hk▸hrk,trivial⟩
 have hsw:=hst.wk;have hsl:=hst.len;have h40:=(e8.o.v v (mδ e10)).1;refine⟨t,S,hctx,⟨hfv,⟨by simp[X0],fun e he=>by cases he⟩,hlc.wk,⟨hsw,by show(bif az rp.k 0 then[]else[rp]:List Va).length<=40;omega⟩,by show 0<=x.pc/\x.pc<=1501;omega,fun _=>⟨pc,v,e9,e10,hst,by rw[hq];exact hlc⟩,fun h=>by cases h⟩,by omega,e3,e4,by rw[hq];exact e1,by rw[hq];exact e14⟩
section
variable {a:Int}
def IH {b c:Int}(h1:c<=a)(h2:c<=b):c<=qX a b:=by unfold qX;cases aG b a<;>assumption
def Gr {b:Int}(h:a<=b):qX a b=a:=by unfold qX;rw[Q5 (by omega)];rfl
def XS {b:Int}(h:b<a):qX a b=b:=by unfold qX;rw[hZ h];rfl
section
variable {s:Xs} {P:Xt->Prop} (hI:Jo s P) (st:List Va) {f1 f2:Int} (h12:f1<=f2)
include hI h12
def Qw:∀(N:Nat) (u:Int) (X:Xt),P X->(X.done=true->f1<=X.fu)->f1+1<=u->u<=f2+1->f2+2<=u+N->f1<=(jk s f2 st N u X).fu
 |0,u,X,_,_,_,h2,h3=>by omega
 |N+1,u,X,hP,hd,h1,h2,h3=>by
  unfold jk;cases hdn:X.done with
  |true=>exact hd hdn
  |false=>
   rw[cond_false];cases hl:aL u f2 with
   |false=>exact IH (by omega) h12
   |true=>
    rw[bj,lδ]at hl;obtain⟨y,hy,hPy⟩:=hI.g X hP hdn;rw[cond_true,hy];simp only;cases he:az y.2 0 with
    |false=>exact IH (by omega) h12
    |true=>exact Qw N (u+1) _ (hPy (eqI_t.1 he) u) (fun _=>by show f1<=u;omega) (by omega) (by omega) (by omega)
def IY (h17:∀X y,P X->pX s X=some y->y.2≠17):∀(N M:Nat) (u:Int) (X:Xt),P X->X.fu<=u - 1->1<=u->u<=f1+1->f1+2<=u+N->f2+2<=u+M->((jk s f1 st N u X).k=3/\(jk s f1 st N u X).er=17/\(jk s f1 st N u X).fu=f1/\f1<=(jk s f2 st M u X).fu)\/(jk s f1 st N u X=jk s f2 st M u X/\(jk s f1 st N u X).fu<=f1/\(jk s f1 st N u X).er≠17)
 |0,_,u,X,_,_,_,h2,h3,_=>by omega
 |_,0,u,X,_,_,_,h2,_,h3=>by omega
 |N+1,M+1,u,X,hP,hfu,h1,h2,h3,h4=>by
  unfold jk;cases hdn:X.done with
  |true=>exact .inr ⟨rfl,by show X.fu<=f1;omega,by show(0:Int)≠17;omega⟩
  |false=>
   simp only[cond_false];cases hl:aL u f1 with
   |false=>
    rw[bj,lζ]at hl;refine .inl ⟨rfl,rfl,XS (by omega),?_⟩;have:=Qw hI st h12 (M+1) u X hP (fun h=>by rw[hdn]at h;cases h) (by omega) (by omega) h4;unfold jk at this;rw[hdn,cond_false]at this;exact this
   |true=>
    rw[bj,lδ]at hl;obtain⟨y,hy,hPy⟩:=hI.g X hP hdn;have hl2:aL u f2=true:=by rw[bj];exact lν (by omega)
    simp only[hl2,cond_true,hy];cases he:az y.2 0 with
    |false=>exact .inr ⟨by simp only[cond_false,Gr hl,Gr (show u<=f2 by omega)],by show qX u f1<=f1;rw[Gr hl];exact hl,h17 X y hP hy⟩
    |true=>exact IY h17 N M (u+1) _ (hPy (eqI_t.1 he) u) (by show u<=u+1 - 1;omega) (by omega) (by omega) (by omega) (by omega)
end
end
def Uu {a b:Int×Int}(h:LZ a=LZ b):a=b:=by
 obtain⟨a1,a2⟩:=a;obtain⟨b1,b2⟩:=b;unfold LZ at h;simp only[lα,lμ,D.tup.injEq,lχ,D.p.injEq,Da.int.injEq,true_and,and_true]at h;rw[h.1,h.2]
def Y3 (o:LN)(x y:Int):yz (fun r=>r.2=0\/r.2=18\/r.2=19) (jT Ñ 0 o x y):=by
 have w0 (a:Int):yz (fun r=>r.2=0\/r.2=18\/r.2=19) (LZ (a,0)):=⟨_,rfl,.inl rfl⟩;have w1 (a:Int):yz (fun r=>r.2=0\/r.2=18\/r.2=19) (LZ (a,18)):=⟨_,rfl,.inr (.inl rfl)⟩;have w2 (a:Int):yz (fun r=>r.2=0\/r.2=18\/r.2=19) (LZ (a,19)):=⟨_,rfl,.inr (.inr rfl)⟩;unfold jT kI kJ kK;repeat' (refine HX (fun _=>?_) (fun _=>?_))
 all_goals first|exact w0 _|exact w1 _|exact w2 _|simp_all
def U5 (o:LN){x:Int}(y:Int)(hx:lB x):(U4 o x y).2≠17:=by
 obtain⟨r,h1,h2⟩:=Y3 o x y;have h3:=(Classical.epsilon_spec (Pu o y hx)).1;have:r=U4 o x y:=Uu (h1.symm.trans h3);rw[<-this];omega
def ZS (f:HJ):Prop:=∀(l:List Va) (Y:Xt),(∀v∈l,Wk v)->∀y,f l Y=some y->y.2≠17
def cF {p:Int×HJ}{u:Bool}{A B:Option (Int×HJ)}(h:(bif u then A else B)=some p)(h1:A=some p->ZS p.2)(h2:B=some p->ZS p.2):ZS p.2:=by
 cases u
 ·exact h2 h
 ·exact h1 h
def VK (o:LN)(v:Va):(eF (QS o v) Y).2≠17:=by
 show(QS o v).2≠17;unfold QS;cases cg o [33]
 ·exact U5 _ _ EK
 ·exact aX rfl
def YG (o:LN){a b:Va}(ha:Wk a):(Q2 o a b).2≠17:=by
 unfold Q2;cases cg o [61,61];rotate_left
 ·exact aX rfl
 cases cg o [33,61];rotate_left
 ·exact aX rfl
 cases cg o [60];rotate_left
 ·exact aX rfl
 cases cg o [60,61];rotate_left
 ·exact aX rfl
 cases cg o [62];rotate_left
 ·exact aX rfl
 cases cg o [62,61];rotate_left
 ·exact aX rfl
 cases cg o [43]&&az a.k 3
 ·exact U5 _ _ ha.n
 ·cases aG 64 (a.s.length+b.s.length:Nat)
  ·exact aX rfl
  ·exact aX rfl
variable {y:Xt×Int}
def ig (o:LN){l:List Va}(hl:∀v∈l,Wk v)(h:pM o l Y=some y):y.2≠17:=by
 match l,hl,h with
 |a::b::r,hl,h=>
  cases h;exact YG o (hl a lυ)
variable {α:Type}
def fc {u:Bool}{A B:Option (α×Int)}{r:α×Int}(h:(bif u then A else B)=some r)(h1:A=some r->r.2≠17)(h2:B=some r->r.2≠17):r.2≠17:=by
 cases u
 ·exact h2 h
 ·exact h1 h
def dQ {x:α}{e:Int}{r:α×Int}(he:decide (e=17)=false)(h:some (x,e)=some r):r.2≠17:=by cases h;exact of_decide_eq_false he
def IF {β:Type}{o:Option β}{f:β->α}{r:α×Int}(h:o.map (fun x=>(f x,(0:Int)))=some r):r.2≠17:=by
 obtain⟨x,-,rfl⟩:=lπ.1 h;exact aX rfl
def ue {o:LN}{l:List Va}{r:Va×Int}(h:jh o l=some r):(eF r Y).2≠17:=by
 show r.2≠17;unfold jh at h;refine fc h (dQ rfl) fun h=>?_
 refine fc h (dQ rfl) fun h=>?_
 match l,h with
 |a::t,h=>
 refine fc h (dQ rfl) fun h=>?_
 refine fc h (dQ rfl) fun h=>?_
 match t,h with
 |b::t2,h=>
 refine fc h (fun h=>fc h (dQ rfl) fun h=>fc h (dQ rfl) (dQ rfl)) fun h=>?_
 refine fc h (dQ rfl) fun h=>?_
 refine fc h (dQ rfl) fun h=>?_
 refine fc h (fun h=>fc h (fun h=>IF h) (fun h=>IF h)) fun h=>?_
 match t2,h with
 |c::_,h=>exact fc h (fun h=>IF h) (fun h=>IF h)
def PV (x:Cd)(l:List Va)(Y:Xt):(Gc x l Y).2≠17:=by
 cases l with
 |nil=>exact aX rfl
 |cons v r=>
  show(bif az v.n 0 then _ else _:Xt×Int).2≠17;cases az v.n 0<;>exact aX rfl
def WM {s:Xs}{x:Cd}{l:List Va}(h:Kh s x l Y=some y):y.2≠17:=by
 match l,h with
 |v::r,h=>
  refine fc h (dQ rfl) fun h=>?_
  obtain⟨t,-,h⟩:=Option.bind_eq_some_iff.1 h;obtain⟨q,-,rfl⟩:=lπ.1 h;exact aX rfl
def FD {q:Int}{l:List Va}{c:Nat}{r:Ef×Int}(h:oJ q l c=some r):(sk r Y).2≠17:=by
 show r.2≠17;match l,h with
 |a::t,h=>
  refine fc h (dQ rfl) fun h=>?_
  refine fc h (dQ rfl) fun h=>?_
  refine fc h (dQ rfl) fun h=>?_
  refine fc h (fun h=>?_) fun h=>?_
  ·match t,h with
   |b::_,h=>exact dQ rfl h
  refine fc h (fun h=>?_) (dQ rfl);match t,h with
  |b::d::_,h=>
   refine fc h (dQ rfl) fun h=>?_
   refine fc h (dQ rfl) fun h=>?_
   refine fc h (dQ rfl) fun h=>?_
   exact fc h (dQ rfl) (dQ rfl)
def XB {s:Xs}{x:Cd}{p:Int×HJ}(h:Gb s x=some p):ZS p.2:=by
 unfold Gb at h;refine cF h (fun h=>by cases h;exact fun l Y hl y h=>by cases h;exact aX rfl) fun h=>?_
 refine cF h (fun h=>by cases h;exact fun l Y hl y h=>by obtain⟨w,-,rfl⟩:=lπ.1 h;exact aX rfl) fun h=>?_
 refine cF h (fun h=>by cases h;exact fun l Y hl y h=>by obtain⟨w,-,rfl⟩:=lπ.1 h;exact aX rfl) fun h=>?_
 refine cF h (fun h=>by cases h;exact fun l Y hl y h=>by cases h;exact aX rfl) fun h=>?_
 refine cF h (fun h=>by cases h;exact fun l Y hl y h=>by obtain⟨w,-,h⟩:=Option.bind_eq_some_iff.1 h;obtain⟨u,-,rfl⟩:=lπ.1 h;exact aX rfl) fun h=>?_
 refine cF h (fun h=>by cases h;exact fun l Y hl y h=>by obtain⟨w,-,h⟩:=Option.bind_eq_some_iff.1 h;obtain⟨u,-,rfl⟩:=lπ.1 h;exact aX rfl) fun h=>?_
 refine cF h (fun h=>by cases h;exact fun l Y hl y h=>by obtain⟨w,-,rfl⟩:=lπ.1 h;exact VK _ _) fun h=>?_
 refine cF h (fun h=>by cases h;exact fun l Y hl y h=>by obtain⟨w,-,rfl⟩:=lπ.1 h;exact VK _ _) fun h=>?_
 refine cF h (fun h=>by cases h;exact fun l Y hl y h=>ig _ hl h) fun h=>?_
 refine cF h (fun h=>by cases h;exact fun l Y hl y h=>ig _ hl h) fun h=>?_
 refine cF h (fun h=>by cases h;exact fun l Y hl y h=>ig _ hl h) fun h=>?_
 refine cF h (fun h=>by cases h;exact fun l Y hl y h=>ig _ hl h) fun h=>?_
 refine cF h (fun h=>by cases h;exact fun l Y hl y h=>ig _ hl h) fun h=>?_
 refine cF h (fun h=>by cases h;exact fun l Y hl y h=>ig _ hl h) fun h=>?_
 refine cF h (fun h=>by cases h;exact fun l Y hl y h=>ig _ hl h) fun h=>?_
 refine cF h (fun h=>by cases h;exact fun l Y hl y h=>ig _ hl h) fun h=>?_
 refine cF h (fun h=>by cases h;exact fun l Y hl y h=>ig _ hl h) fun h=>?_
 refine cF h (fun h=>by cases h;exact fun l Y hl y h=>ig _ hl h) fun h=>?_
 refine cF h (fun h=>by cases h;exact fun l Y hl y h=>ig _ hl h) fun h=>?_
 refine cF h (fun h=>by cases h;exact fun l Y hl y h=>ig _ hl h) fun h=>?_
 refine cF h (fun h=>by cases h;exact fun l Y hl y h=>by obtain⟨r,hr,rfl⟩:=lπ.1 h;exact ue hr) fun h=>?_
 refine cF h (fun h=>by cases h;exact fun l Y hl y h=>by obtain⟨r,hr,rfl⟩:=lπ.1 h;exact ue hr) fun h=>?_
 refine cF h (fun h=>by cases h;exact fun l Y hl y h=>by obtain⟨r,hr,rfl⟩:=lπ.1 h;exact ue hr) fun h=>?_
 refine cF h (fun h=>by cases h;exact fun l Y hl y h=>by obtain⟨r,hr,rfl⟩:=lπ.1 h;exact ue hr) fun h=>?_
 refine cF h (fun h=>by cases h;exact fun l Y hl y h=>by obtain⟨r,hr,rfl⟩:=lπ.1 h;exact ue hr) fun h=>?_
 refine cF h (fun h=>by cases h;exact fun l Y hl y h=>by have h:(jh [105,110,116,115] l).map (fun r=>eF r Y)=some y:=h;obtain⟨r,hr,rfl⟩:=lπ.1 h;exact ue hr) fun h=>?_
 refine cF h (fun h=>by cases h;exact fun l Y hl y h=>by have h:(jh [115,116,114,105,110,103,115] l).map (fun r=>eF r Y)=some y:=h;obtain⟨r,hr,rfl⟩:=lπ.1 h;exact ue hr) fun h=>?_
 refine cF h (fun h=>by cases h;exact fun l Y hl y h=>by cases h;exact PV _ _ _) fun h=>?_
 refine cF h (fun h=>by cases h;exact fun l Y hl y h=>by cases h;exact PV _ _ _) fun h=>?_
 refine cF h (fun h=>?_) fun h=>?_
 ·obtain⟨q,-,h⟩:=lπ.1 h;cases h;exact fun l Y hl y h=>WM h
 refine cF h (fun h=>by cases h;exact fun l Y hl y h=>by cases h;exact aX rfl) fun h=>?_
 refine cF h (fun h=>by cases h;exact fun l Y hl y h=>by cases h;exact aX rfl) fun h=>?_
 refine cF h (fun h=>by cases h;exact fun l Y hl y h=>by cases h;exact aX rfl) fun h=>?_
 refine cF h (fun h=>by cases h;exact fun l Y hl y h=>by obtain⟨r,hr,rfl⟩:=lπ.1 h;exact FD hr) fun h=>?_
 refine cF h (fun h=>by cases h;exact fun l Y hl y h=>by obtain⟨r,hr,rfl⟩:=lπ.1 h;exact FD hr) fun h=>?_
 refine cF h (fun h=>by cases h;exact fun l Y hl y h=>by obtain⟨r,hr,rfl⟩:=lπ.1 h;exact FD hr) fun h=>?_
 cases h
def UC {s:Xs}{X:Xt}(hw:∀v∈X.st,Wk v)(h:pX s X=some y):y.2≠17:=by
 unfold pX at h;obtain⟨x,-,h⟩:=Option.bind_eq_some_iff.1 h;obtain⟨p,hp,h⟩:=Option.bind_eq_some_iff.1 h;unfold vp at h;cases hc:aL 0 p.1&&aL p.1 X.st.length with
 |false=>rw[hc]at h;cases h
 |true=>
  rw[hc,cond_true]at h;exact XB hp _ _ (fun v hv=>hw v (qμ hv)) _ h
section
def lw:Nat:=2000000
def Yr (l:List LN):Bool:=l.all fun t=>!aG 100 (t.length:Int)
def ZL (v:Va):Bool:=!aG 100 (v.s.length:Int)&&(!aG 40 (v.I.length:Int)&&(!aG 40 (v.L.length:Int)&&Yr v.L))
def uQ (l:List Va):Bool:=l.all ZL&&aL (l.length:Int) 20
section
variable {m:Nat} (hm:2000010<=m)
include hm
def ú (l:List Va)(i:Nat)(hi:i<l.length)(hL:l[i].L.length<lw){Er:R}(k1:_->R){Z:R}(hk:∀b,k1 (l.map Va.e,(i:Int),(l[i].L.length:Int),b)=Z):itL (fI (dC lay0.tab m) m Er k1) m (l.map Va.e,(i:Int),0)=bif Yr l[i].L then Z else Er:=by
 have hl:l[i].L.length<2000000:=hL;refine(bA l[i].L (fun q j=>itL (fI (dC lay0.tab m) m Er k1) q (l.map Va.e,(i:Int),j)) (fun t=>aG 100 (t.length:Int)) (fun _=>Er) Z (fun q j hj=>?_) (fun q=>?_) (by omega)).trans ?_
 ·rw[bb];simp only[fI,aU,bf,bw hi,bG,Va.e,FT,show l[i].r.L=l[i].L.map Da.str from rfl,lβ,hZ (show(j:Int)<(l[i].L.length:Int) by omega),be,bw hj,y8,wS (show j<eH by unfold eH;omega)];exact mj _ _ _
 ·rw[bb];simp only[fI,aU,bf,bw hi,bG,Va.e,FT,show l[i].r.L=l[i].L.map Da.str from rfl,lβ,eT,bo];exact hk _
 ·unfold Yr;rw[jY];cases l[i].L.findIdx? fun t=>aG 100 (t.length:Int)<;>rfl
def qp (l:List Va)(hl:l.length<lw)(hL:∀v∈l,v.L.length<lw):Ω (m+1) 11 [pL 5 (l.map Va.e)] []=some (pB (uQ l),[]):=by
 apply JL m (l.map Va.e);unfold xa;have hl':l.length<2000000:=hl;refine(bA l (fun q i=>itL (fH (dC lay0.tab m) m _ _) q (l.map Va.e,i)) (fun v=>!ZL v) (fun _=>some (pB false,[])) (some (pB (aL (l.length:Int) 20),[])) (fun q i hi=>?_) (fun q=>?_) (by omega)).trans ?_
 ·rw[bb];have h2:=fun(k1:_->R) Z hk=>ú hm l i hi (hL _ (lρ hi)) (Er:=some (pB false,[])) k1 (Z:=Z) hk
  simp only[fH,lβ,hZ (show(i:Int)<(l.length:Int) by omega),be,aU,bf,bw hi,bG,Va.e,FT];show iL (aG 100 (l[i].s.length:Int)) _ (iL (aG 40 ((l[i].I.map iE).length:Int)) _ (iL (aG 40 ((l[i].L.map Da.str).length:Int)) _ _))=_;rw[lβ,lβ,h2 _ (itL (fH (dC lay0.tab m) m (some (pB false,[])) (fun x=>some (pB (aL (↑(List.length x.1)) 20),[]))) q (l.map Va.e,((i+1:Nat):Int))) (fun b=>by simp only[wS (show i<eH by unfold eH;omega)])];unfold ZL;cases aG 100 (l[i].s.length:Int)<;>cases aG 40 (l[i].I.length:Int)<;>cases aG 40 (l[i].L.length:Int)<;>cases Yr l[i].L<;>rfl
 ·rw[bb];simp only[fH,lβ,eT,bo]
 ·unfold uQ;rw[gL];cases l.findIdx? fun v=>!ZL v<;>rfl
def vy (v:Va):Bool:=Yr v.L&&(aL (v.s.length:Int) 100&&(aL (v.I.length:Int) 40&&aL (v.L.length:Int) 40))
def Rl (v:Va)(hL:v.L.length<lw):Ω (m+1) 35 [.p v.e] []=dX (vy v):=by
 apply RG m v.r;unfold Hu;have hl:v.L.length<2000000:=hL;refine(bA v.L (fun q j=>itL (jW (dC lay0.tab m) m _ _) q (j,v.r)) (fun t=>aG 100 (t.length:Int)) (fun _=>dX false) (dX (aL (v.s.length:Int) 100&&(aL (v.I.length:Int) 40&&aL (v.L.length:Int) 40))) (fun q j hj=>?_) (fun q=>?_) (by omega)).trans ?_
 ·rw[bb];simp only[jW,show v.r.L=v.L.map Da.str from rfl,lβ,hZ (show(j:Int)<(v.L.length:Int) by omega),be,aU,bf,bw hj,bG,y8,wS (show j<eH by unfold eH;omega)];exact mj _ _ _
 ·rw[bb];simp only[jW,show v.r.L=v.L.map Da.str from rfl,show v.r.I=v.I.map iE from rfl,show v.r.S=v.s from rfl,lβ,eT,bo];cases aL (v.s.length:Int) 100<;>cases aL (v.I.length:Int) 40<;>cases aL (v.L.length:Int) 40<;>rfl
 ·unfold vy Yr;rw[jY];cases v.L.findIdx? fun t=>aG 100 (t.length:Int)<;>rfl
end
end
section
def KH (f:Fe):Bool:=!aG 100 (f.name.length:Int)&&vy f.init
def Gq (m:Cm):Bool:=!aG 100 (m.name.length:Int)&&(!aG 20 (m.params.length:Int)&&(!aG 40 (m.locals.length:Int)&&(!aG 120 (m.code.length:Int)&&m.code.all fun y=>vy y.v)))
def Kq (t:Ct):Bool:=!aG 100 (t.name.length:Int)&&(!aG 20 (t.fields.length:Int)&&(!aG 20 (t.methods.length:Int)&&(t.fields.all KH&&t.methods.all Gq)))
def vz (c:List Ct):Bool:=!aG 20 (c.length:Int)&&c.all Kq
structure Bt (t:Ct):Prop where
 f:t.fields.length<lw
 m:t.methods.length<lw
 fv:∀f∈t.fields,f.init.L.length<lw
 mc:∀m∈t.methods,m.code.length<lw/\∀y∈m.code,y.v.L.length<lw
structure Bc (c:List Ct):Prop where
 n:c.length<lw
 t:∀t∈c,Bt t
section
variable {m:Nat} (hm:2000020<=m)
include hm
def VF (v:Va)(hL:v.L.length<lw):Ω m 35 [.p (.agg v.c)] []=dX (vy v):=by
 obtain⟨k,rfl,hk⟩:=fuel (show 2000019+1<=m from hm);exact Rl (m:=k) (by omega) v hL
variable {Er:R}
def ą (c:List Ct)(t:Ct)(ht:Bt t)(i:Nat)(k0 k1:_->R)(h0:∀x,k0 x=Er):itL (gm (dC lay0.tab m) m k0 k1) m ((i:Int),0,de c,t.r)=bif t.fields.all KH then k1 ((i:Int),(t.fields.length:Int),de c,t.r)else Er:=by
 have hl:t.fields.length<2000000:=ht.f;refine(bA t.fields (fun q j=>itL (gm (dC lay0.tab m) m k0 k1) q ((i:Int),j,de c,t.r)) (fun f=>!KH f) (fun _=>Er) (k1 ((i:Int),(t.fields.length:Int),de c,t.r)) (fun q j hj=>?_) (fun q=>?_) (by omega)).trans ?_
 ·rw[bb];have hs:=aa (VF hm t.fields[j].init (ht.fv _ (lρ hj)));simp only[Va.c]at hs;simp only[gm,show t.r.Fields=t.fields.map Fe.e from rfl,lβ,hZ (show(j:Int)<(t.fields.length:Int) by omega),be,aU,bf,bw hj,bG,YN,Fe.r,hs,aY,aJ,aB,h0,wS (show j<eH by unfold eH;omega)];unfold KH;cases aG 100 (t.fields[j].name.length:Int)<;>cases vy t.fields[j].init<;>rfl
 ·rw[bb];simp only[gm,show t.r.Fields=t.fields.map Fe.e from rfl,lβ,eT,bo]
 ·rw[gL];cases t.fields.findIdx? fun f=>!KH f<;>rfl
def ć (c:List Ct)(t:Ct)(me:Cm)(hl:me.code.length<lw)(hy:∀y∈me.code,y.v.L.length<lw)(i k:Nat)(k0 k1:_->R)(h0:∀x,k0 x=Er):itL (gn (dC lay0.tab m) m k0 k1) m ((i:Int),(k:Int),0,de c,t.r,me.r)=bif me.code.all fun y=>vy y.v then k1 ((i:Int),(k:Int),(me.code.length:Int),de c,t.r,me.r)else Er:=by
 have hl:me.code.length<2000000:=hl;refine(bA me.code (fun q j=>itL (gn (dC lay0.tab m) m k0 k1) q ((i:Int),(k:Int),j,de c,t.r,me.r)) (fun y=>!vy y.v) (fun _=>Er) (k1 ((i:Int),(k:Int),(me.code.length:Int),de c,t.r,me.r)) (fun q j hj=>?_) (fun q=>?_) (by omega)).trans ?_
 ·rw[bb];have hs:=aa (VF hm me.code[j].v (hy _ (lρ hj)));simp only[Va.c]at hs;simp only[gn,show me.r.Code=me.code.map Cd.e from rfl,lβ,hZ (show(j:Int)<(me.code.length:Int) by omega),be,aU,bf,bw hj,bG,Vf,Cd.r,hs,aY,aJ,aB,h0,wS (show j<eH by unfold eH;omega)];cases vy me.code[j].v<;>rfl
 ·rw[bb];simp only[gn,show me.r.Code=me.code.map Cd.e from rfl,lβ,eT,bo]
 ·rw[gL];cases me.code.findIdx? fun y=>!vy y.v<;>rfl
def Ć (c:List Ct)(t:Ct)(ht:Bt t)(i:Nat)(k0 k1:_->R)(h0:∀x,k0 x=Er):itL (fE (dC lay0.tab m) m k0 k1) m ((i:Int),0,de c,t.r)=bif t.methods.all Gq then k1 ((i:Int),(t.methods.length:Int),de c,t.r)else Er:=by
 have hl:t.methods.length<2000000:=ht.m;refine(bA t.methods (fun q j=>itL (fE (dC lay0.tab m) m k0 k1) q ((i:Int),j,de c,t.r)) (fun f=>!Gq f) (fun _=>Er) (k1 ((i:Int),(t.methods.length:Int),de c,t.r)) (fun q j hj=>?_) (fun q=>?_) (by omega)).trans ?_
 ·rw[bb];obtain⟨g1,g2⟩:=ht.mc _ (lρ hj);have h4:=ć hm c t t.methods[j] g1 g2 i j (Er:=Er) (fun x=>k0 (x.1,x.2.1,x.2.2)) (fun x=>itL (fE (dC lay0.tab m) m k0 k1) q (x.1,ag .i64 (x.2.1+1),x.2.2.2.1,x.2.2.2.2.1)) (fun _=>h0 _);simp only[fE,show t.r.Methods=t.methods.map Cm.e from rfl,lβ,hZ (show(j:Int)<(t.methods.length:Int) by omega),be,aU,bf,bw hj,bG,FQ,h0];simp only[h0]at h4;show iL (aG 100 (t.methods[j].name.length:Int)) _ (iL (aG 20 ((t.methods[j].params.map iE).length:Int)) _ (iL (aG 40 ((t.methods[j].locals.map iE).length:Int)) _ (iL (aG 120 ((t.methods[j].code.map Cd.e).length:Int)) _ _)))=_;rw[lβ,lβ,lβ];unfold Gq;rw[show itL (gn (dC lay0.tab m) m _ _) m ((i:Int),(j:Int),0,de c,t.r,t.methods[j].r)=_ from h4];simp only[wS (show j<eH by unfold eH;omega)];cases aG 100 (t.methods[j].name.length:Int)<;>cases aG 20 (t.methods[j].params.length:Int)<;>cases aG 40 (t.methods[j].locals.length:Int)<;>cases aG 120 (t.methods[j].code.length:Int)<;>cases t.methods[j].code.all (fun y=>vy y.v)<;>rfl
 ·rw[bb];simp only[fE,show t.r.Methods=t.methods.map Cm.e from rfl,lβ,eT,bo]
 ·rw[gL];cases t.methods.findIdx? fun f=>!Gq f<;>rfl
def Rb (c:List Ct)(hc:Bc c):Ω (m+1) 10 [.p (de c).e] []=dX (vz c):=by
 apply Ry m (de c);unfold Hm vz;have hl:c.length<2000000:=hc.n;show iL (aG 20 ((c.map Ct.e).length:Int)) _ (itL (eW _ _ _ _ _) _ (0,de c))=_;rw[lβ];have run:itL (eW (dC lay0.tab m) m (fun _=>dX false) (fun _=>dX false) (fun _=>dX true)) m (0,de c)=dX (c.all Kq):=by
  refine(bA c (fun q j=>itL (eW (dC lay0.tab m) m (fun _=>dX false) (fun _=>dX false) (fun _=>dX true)) q (j,de c)) (fun t=>!Kq t) (fun _=>dX false) (dX true) (fun q j hj=>?_) (fun q=>?_) (by omega)).trans ?_
  ·rw[bb];have ht:=hc.t _ (lρ hj);have h3:=Ć hm c c[j] ht j (Er:=dX false) (fun _=>dX false) (fun x=>itL (eW (dC lay0.tab m) m (fun _=>dX false) (fun _=>dX false) (fun _=>dX true)) q (ag .i64 (x.1+1),x.2.2.1)) (fun _=>rfl);have h2:=ą hm c c[j] ht j (Er:=dX false) (fun _=>dX false) (fun x=>itL (fE (dC lay0.tab m) m (fun _=>dX false) (fun x=>itL (eW (dC lay0.tab m) m (fun _=>dX false) (fun _=>dX false) (fun _=>dX true)) q (ag .i64 (x.1+1),x.2.2.1))) m (x.1,0,x.2.2.1,x.2.2.2)) (fun _=>rfl)
   simp only[h3]at h2;simp only[eW,show(de c).Types=c.map Ct.e from rfl,lβ,hZ (show(j:Int)<(c.length:Int) by omega),be,aU,bf,bw hj,bG,Cs];show iL (aG 100 (c[j].name.length:Int)) _ (iL (aG 20 ((c[j].fields.map Fe.e).length:Int)) _ (iL (aG 20 ((c[j].methods.map Cm.e).length:Int)) _ _))=_;rw[lβ,lβ];rw[show itL (gm (dC lay0.tab m) m _ _) m ((j:Int),0,de c,c[j].r)=_ from h2];unfold Kq;simp only[wS (show j<eH by unfold eH;omega)];cases aG 100 (c[j].name.length:Int)<;>cases aG 20 (c[j].fields.length:Int)<;>cases aG 20 (c[j].methods.length:Int)<;>cases c[j].fields.all KH<;>cases c[j].methods.all Gq<;>rfl
  ·rw[bb];simp only[eW,show(de c).Types=c.map Ct.e from rfl,lβ,eT,bo]
  ·rw[gL];cases c.findIdx? fun t=>!Kq t<;>rfl
 cases aG 20 (c.length:Int)with
 |true=>rfl
 |false=>exact run
end
end
def Lw (v:Va):fd v v=true:=by
 unfold fd;simp only[cE,ma,decide_true,Bool.and_self]
variable {m:Nat}
def AO (v:Va)(h:Lg v)(hm:1504<=m):Ω m 48 [.p v.e,.p v.e] []=dX true:=by
 obtain⟨k,rfl⟩:=uz hm;have:=su (n:=k) v v (.inl h.I) (.inl h.L);rw[Lw]at this;exact this
def Mx (l:List Va)(hl:l.length<1501)(hv:∀v∈l,Lg v)(hm:1510<=m):Ω m 101 [pL 5 (l.map Va.e),pL 5 (l.map Va.e),.p (.fn 48 [])] []=dX true:=by
 replace hm:=fuel hm;obtain⟨m,rfl,hm⟩:=hm;apply V9 m (l.map Va.e) (l.map Va.e);unfold MO;rw[lβ,cE,lν rfl,Bool.not_true,bo];refine(bA l (fun q i=>itL (lN (dC lay0.tab m) m _ _) q (l.map Va.e,l.map Va.e,(l.length:Int),i)) (fun _=>false) (fun _=>dX false) (dX true) (fun q i hi=>?_) (fun q=>?_) (by omega)).trans ?_
 ·rw[bb];have hs:=aa (AO l[i] (hv _ (lρ hi)) (m:=m) (by omega));simp only[lN,hZ (show(i:Int)<(l.length:Int) by omega),be,aU,bf,bw hi,bG,Va.e,FT,wS (show i<eH by unfold eH;omega)];refine(hs _).trans ?_;simp only[aY,aJ,aB];rfl
 ·rw[bb];simp only[lN,eT,bo];rfl
 ·rw[mτ.2 fun _ _=>rfl];rfl
def lE (l:List Va)(hl:l.length<1501)(hv:∀v∈l,Lg v)(hm:1511<=m):Ω m 61 [pL 5 (l.map Va.e),pL 5 (l.map Va.e)] []=dX true:=by
 replace hm:=fuel hm;obtain⟨m,rfl,hm⟩:=hm;apply JS m (l.map Va.e) (l.map Va.e);unfold xi;refine(aa (Mx l hl hv hm) _).trans ?_;simp only[aY,aJ];exact bM _ _
def Ms (l:List Ef)(hl:l.length<1501)(hm:1510<=m):Ω m 62 [pL 4 (l.map Ef.e),pL 4 (l.map Ef.e)] []=dX true:=by
 replace hm:=fuel hm;obtain⟨m,rfl,hm⟩:=hm;apply V6 m (l.map Ef.e) (l.map Ef.e);unfold ML;rw[lβ,cE,lν rfl,Bool.not_true,bo];refine(bA l (fun q i=>itL (lK (dC lay0.tab m) m _ _) q (l.map Ef.e,l.map Ef.e,(l.length:Int),i)) (fun _=>false) (fun _=>dX false) (dX true) (fun q i hi=>?_) (fun q=>?_) (by omega)).trans ?_
 ·rw[bb];simp only[lK,hZ (show(i:Int)<(l.length:Int) by omega),be,aU,bf,bw hi,bG,YM,cE,ma,decide_true,wS (show i<eH by unfold eH;omega)];rfl
 ·rw[bb];simp only[lK,eT,bo];rfl
 ·rw[mτ.2 fun _ _=>rfl];rfl
structure Yw (g:HK):Prop where
 v:Lg g.v
 a:g.ar.length<1501/\∀v∈g.ar,Lg v
 l:g.mc.ls.length<1501/\∀v∈g.mc.ls,Lg v
 f:g.fs.length<1501/\∀v∈g.fs,Lg v
 e:g.es.length<1501
def AQ (g:HK)(h:Yw g)(hm:1520<=m):Ω m 27 [.p g.e,.p g.e] []=dX true:=by
 replace hm:=fuel hm;obtain⟨m,rfl,hm⟩:=hm;apply JP m g.r g.r;unfold xf;have h1:=aa (AO g.v h.v (m:=m) (by omega));have h2:=aa (lE g.ar h.a.1 h.a.2 (m:=m) (by omega));have h3:=aa (lE g.mc.ls h.l.1 h.l.2 (m:=m) (by omega));have h4:=aa (lE g.fs h.f.1 h.f.2 (m:=m) (by omega));have h5:=aa (Ms g.es h.e (m:=m) (by omega));simp only[Va.e,Va.c]at h1;simp only[HK.r,cE,ma,decide_true,be,h1,h2,h3,h4,h5,aY,aJ,aB];refine(bM _ _).trans ?_;rfl
structure VB (v:Va):Prop where
 L:v.L.length<lw
 v:EY v
structure LB (l:List Va):Prop where
 n:l.length<lw
 v:∀v∈l,VB v
def zS {l:List Va}(h:uQ l=true):l.length<=20/\∀v∈l,Lg v:=by
 unfold uQ at h;rw[lγ,bj,lδ,mε]at h;refine⟨by omega,fun v hv=>?_⟩
 have:=h.1 v hv;unfold ZL at this;simp only[lγ,Bool.not_eq_true',bX,lζ]at this;exact⟨by omega,by omega⟩
def QE {c:List Ct}(h:vz c=true):AJ c:=by
 unfold vz at h;simp only[lγ,Bool.not_eq_true',bX,lζ,mε]at h;refine⟨by omega,fun t ht=>?_⟩
 have h1:=h.2 t ht;unfold Kq at h1;simp only[lγ,Bool.not_eq_true',bX,lζ,mε]at h1;refine⟨by omega,by omega,fun m hm=>?_⟩
 have h2:=h1.2.2.2.2 m hm;unfold Gq at h2;simp only[lγ,Bool.not_eq_true',bX,lζ]at h2;exact⟨by omega,by omega,by omega⟩
def ø:Yw Ly:=⟨⟨by simp[Ly,v0],by simp[Ly,v0]⟩,⟨by simp[Ly],by simp[Ly]⟩,⟨by simp[Ly,mc0],by simp[Ly,mc0]⟩,⟨by simp[Ly],by simp[Ly]⟩,by simp[Ly]⟩
def ě (e u:Int){fs:List Va}(h:fs.length<1501/\∀v∈fs,Lg v):Yw (lq e u fs):=⟨⟨by simp[lq,v0],by simp[lq,v0]⟩,⟨by simp[lq],by simp[lq]⟩,⟨by simp[lq,mc0],by simp[lq,mc0]⟩,h,by simp[lq]⟩
def Ĳ {s:Xs}{t:Ct}{S:List SV}{X:Xt}(hc:AJ s.c)(ht:t∈s.c)(hx:UT s t S)(h:Gd s t S X)(hd:X.done=true):Yw (Ie s X):=by
 have hfl:=h.fs.len;rw[lβ]at hfl;have hf:X.fs.length<1501/\∀v∈X.fs,Lg v:=⟨by have:=(hc.s t ht).f;omega,fun v hv=>lr (h.fs.wk v hv)⟩
 have he:X.es.length<1501:=by have:=h.es.n;omega
 have hm0:(mc0.ls.length<1501/\∀v∈mc0.ls,Lg v):=⟨by simp[mc0],by simp[mc0]⟩
 rcases h.dn hd with⟨h1,h2,h3⟩|⟨h1,h2,pc,x,v,u,q,-,h4,-,-,h5,h6,h7,-,-,-,h8⟩
 ·refine⟨lr (xQ h2),?_,?_,hf,he⟩
  ·show X.ar.length<1501/\∀v∈X.ar,Lg v;rw[h3];exact⟨by simp,by simp⟩
  ·show(bif az X.ok 2 then(⟨s.ty,s.me,X.pc,X.ls⟩:Mc)else mc0:Mc).ls.length<1501/\∀v∈(bif az X.ok 2 then(⟨s.ty,s.me,X.pc,X.ls⟩:Mc)else mc0:Mc).ls,Lg v;rw[h1];exact hm0
 ·refine⟨?_,⟨?_,fun v hv=>lr (h8.wk v hv)⟩,?_,hf,he⟩
  ·show Lg X.ov;rw[h2];exact⟨by simp[v0],by simp[v0]⟩
  ·show X.ar.length<1501;rw[h8.len];exact((hc.s u (nJ h6)).s q (nJ h7)).p
  ·show(bif az X.ok 2 then(⟨s.ty,s.me,X.pc,X.ls⟩:Mc)else mc0:Mc).ls.length<1501/\∀v∈(bif az X.ok 2 then(⟨s.ty,s.me,X.pc,X.ls⟩:Mc)else mc0:Mc).ls,Lg v;rw[h1];refine⟨?_,fun v hv=>lr (h.ls v hv)⟩
   show X.ls.length<1501;rw[h5.n];exact hx.f.z.l
def P2 {s:Xs}{t:Ct}{S:List SV}(hc:AJ s.c)(ht:t∈s.c)(hx:UT s t S)(hky:s.ky.length<=32){fs:List Va}(hfs:fs.length<1501/\∀v∈fs,Lg v)(f:Int):∀(N:Nat) (u:Int) (X:Xt),Gd s t S X->Yw (jk s f fs N u X)
 |0,u,X,_=>ø
 |N+1,u,X,h=>by
  unfold jk;cases hd:X.done with
  |true=>exact Ĳ hc ht hx h hd
  |false=>
   rw[cond_false];cases aL u f with
   |false=>exact ě _ _ hfs
   |true=>
    obtain⟨y,hy,hg⟩:=I2 hx hky h hd;rw[cond_true,hy];simp only;cases he:az y.2 0 with
    |false=>exact ě _ _ hfs
    |true=>exact P2 hc ht hx hky hfs f N (u+1) _ ((hg (eqI_t.1 he)).fu u)
def Zq {c:List Ct}{x:Mc}{fs:List Va}{f1 f2:Int}(h1:0<=f1/\f1<=20000)(h2:0<=f2/\f2<=20000):kf c x key fs rp f1=kf c x key fs rp f2:=by
 unfold kf;rw[Q5 (show ¬f1<0 by omega),Q5 (show ¬f2<0 by omega),Q5 (show ¬20000<f1 by omega),Q5 (show ¬20000<f2 by omega)]
def X6 {c:List Ct}(hc:AJ c)(hcv:ZR c){x:Mc}{fs:List Va}{fuel:Int}(hx:∀v∈x.ls,EY v)(hfs:∀v∈fs,EY v)(hrp:EY rp)(h:kf c x key fs rp fuel=true):∃P,Jo (S0 c x key) P/\P (X0 x fs rp):=by
 obtain⟨t,S,h1,h2,h3,-⟩:=yo hc hcv hx hfs hrp h;exact⟨_,Iv h1 h3,h2⟩
def VH {p:Int}(h:0<=p){k:Int}(hk:0<k):0<=Int.tmod p k/\Int.tmod p k<k:=⟨Int.tmod_nonneg _ h,Int.tmod_lt_of_pos _ hk⟩
def Je (c:List Ct)(x:Mc)(key:LN)(fs:List Va)(rp:Va)(p5 p6:Int)(hbc:Bc c)(hcv:ZR c)(hxs:LB x.ls)(hfs:LB fs)(hrp:VB rp)(h5:0<=p5)(h6:0<=p6)(hm:2000100<=m)(haw:Ω m 9 [] []=some (pB true,[])):Ω (m+1) 7 [.p (de c).e,.p x.e,pS key,pL 5 (fs.map Va.e),.p rp.e,.p (.int .u16 p5),.p (.int .u16 p6)] []=dX true:=by
 apply JI m (de c) x.r key (fs.map Va.e) rp.r p5 p6;unfold w8;obtain⟨k,rfl,hk⟩:=fuel (show 2000099+1<=m from hm);have a1:=aa haw;rw[a1];simp only[aY,aJ,aB,Bool.not_true,bo];refine(aa (Rb (m:=k) (by omega) c hbc) _).trans ?_;simp only[aY,aJ,aB];cases hsm:vz c with
 |false=>rfl
 |true=>
 rw[Bool.not_true,bo];refine(aa (qp (m:=k) (by omega) x.ls hxs.n fun v hv=>(hxs.v v hv).L) _).trans ?_;simp only[aY,aJ,aB];cases hlx:uQ x.ls with
 |false=>rfl
 |true=>
 rw[Bool.not_true,bo,aa (qp (m:=k) (by omega) fs hfs.n fun v hv=>(hfs.v v hv).L)];simp only[aY,aJ,aB];cases hlf:uQ fs with
 |false=>rfl
 |true=>
 rw[Bool.not_true,bo];refine(aa (qp (m:=k) (by omega) [rp] (by simp[lw]) fun v hv=>by rw[List.mem_singleton.1 hv];exact hrp.L) _).trans ?_;simp only[aY,aJ,aB];cases hlr:uQ [rp]with
 |false=>rfl
 |true=>
 rw[Bool.not_true,bo];cases hkey:aG 100 (key.length:Int)with
 |true=>rfl
 |false=>
 rw[bo];obtain⟨x1,x2⟩:=zS hlx;obtain⟨f1,f2⟩:=zS hlf;have hrl:=(zS hlr).2 rp lυ;have hsz:=QE hsm;obtain⟨t1,t2⟩:=VH h5 (show(0:Int)<1000 by omega);obtain⟨t3,t4⟩:=VH h6 (show(0:Int)<1000 by omega);have w1:ag .i64 (Int.tmod p5 1000)=Int.tmod p5 1000:=fO (by omega) (by omega);have w2:ag .i64 (Int.tmod p6 1000)=Int.tmod p6 1000:=fO (by omega) (by omega);have w3:ag .i64 (Int.tmod p5 1000+Int.tmod p6 1000)=Int.tmod p5 1000+Int.tmod p6 1000:=fO (by omega) (by omega);generalize hn1:Int.tmod p5 1000=n1 at*
 generalize hn2:Int.tmod p6 1000=n2 at*
 have hx':∀v∈x.ls,EY v:=fun v hv=>(hxs.v v hv).v
 have hf':∀v∈fs,EY v:=fun v hv=>(hfs.v v hv).v
 have r1:=fun n=>aa (VU (m:=k+1) hsz x key fs rp n (by omega) (by omega) x2 f2 hrl (X6 hsz hcv hx' hf' hrp.v) (by omega))
 rw[w1,w2,w3];refine(r1 n1 _).trans ?_;rw[c3,aR,aY];show cG (Lt c x key fs rp n1).1.r.e _=_;have dS:∀(g:HK) K,cG g.r.e K=K g.r:=fun _ _=>rfl
 rw[dS];simp only[aR,aY,bW,aB];refine(r1 (n1+n2) _).trans ?_;rw[c3,aR,aY];show cG (Lt c x key fs rp (n1+n2)).1.r.e _=_;rw[dS];simp only[aR,aY,bW,aB];unfold Lt;rw[Zq (f1:=n1+n2) (f2:=n1) ⟨by omega,by omega⟩ ⟨by omega,by omega⟩];cases hok:kf c x key fs rp n1 with
 |false=>rfl
 |true=>
 obtain⟨t,S,q1,q2,q3,q4,q5,-⟩:=yo hsz hcv hx' hf' hrp.v hok;have hI:=Iv q1 q3;have two:=IY hI fs (f1:=n1) (f2:=n1+n2) (by omega) (fun X y hX hy=>UC hX.st.1 hy) (n1.toNat+1) ((n1+n2).toNat+1) 1 (X0 x fs rp) q2 (by show(0:Int)<=0;omega) (by omega) (by omega) (by omega) (by omega);have hlg:=P2 (fs:=fs) hsz q5 q1 q3 ⟨by omega,f2⟩ n1 (n1.toNat+1) 1 (X0 x fs rp) q2
 simp only[cond_true];generalize jk (S0 c x key) n1 fs (n1.toNat+1) 1 (X0 x fs rp)=g1 at two hlg;generalize jk (S0 c x key) (n1+n2) fs ((n1+n2).toNat+1) 1 (X0 x fs rp)=g2 at two;show iL (!az 0 0) _ (iL (!az 0 0) _ (iL (az g1.k 3) (iL (az g1.er 17) (iL (az g1.fu n1) _ _) _) _))=_;rw[show az 0 0=true from rfl,Bool.not_true,bo,bo];rcases two with⟨b1,b2,b3,b4⟩|⟨rfl,b2,b3⟩
 ·rw[b1,b2,b3,eqI_t.2 rfl,eqI_t.2 rfl,eqI_t.2 rfl,be,be,be];show some (D.p (.bool (aL n1 g2.fu)),_)=_;rw[show aL n1 g2.fu=true by rw[bj];exact lν b4]
 ·have hs:=aa (AQ g1 hlg (m:=k+1) (by omega));have hle:aL g1.fu n1=true:=by rw[bj];exact lν b2
  rw[show az g1.er 17=false by rw[cE];exact mθ b3,bo];have ji:(dC lay0.tab (k+1) 27 [.p g1.e,.p g1.e] [] fun d43 o44=>
      dP d43 fun x45=>
      aH x45 fun b46=>
      af o44<|
      iL b46
       (some ((pB (aL g1.fu n1)),[]))
       (some ((pB false),[])))=dX true:=by
   rw[hs,aY,aJ,aB,hle];rfl
  cases az g1.k 3
  ·exact ji
  ·exact ji
section
def Ti:LN->LN->Bool
 |[],[]=>true
 |a::r,b::s=>Nat.beq a b&&Ti r s
 |_,_=>false
def Il:∀{a b:LN},Ti a b=true->a=b
 |[],[],_=>rfl
 |[],_::_,h=>by cases h
 |_::_,[],h=>by cases h
 |a::r,b::s,h=>by
  simp only[Ti,lγ]at h;rw[lθ h.1,Il h.2]
def qS (P:Program)(k:IntKind)(t:TypeId):Bool:=match P.underlying t with|some (.int k')=>decide (k'=k)|_=>false
def uF (P:Program)(t:TypeId):Bool:=match P.underlying t with|some .string=>true|_=>false
def mq (P:Program)(t e z:Nat):Bool:=match P.underlying t with|some (.slice e')=>Nat.beq e' e&&Nat.beq (P.cellsOf e) z|_=>false
def mt (P:Program)(t:Nat)(ts:LN):Bool:=match P.underlying t with|some (.struct fs)=>Ti (fs.toList.map (·.type)) ts|_=>false
def zm (C:TypeId->LD->Prop):List TypeId->LD->Prop
 |[],xs=>xs=[]
 |t::r,xs=>∃ys zs,xs=ys++zs/\C t ys/\zm C r zs
def ut {C:TypeId->LD->Prop}:∀{fs:List Field} {xs:LD},pf C fs xs->zm C (fs.map (·.type)) xs
 |[],_,h=>h
 |f::r,xs,⟨ys,zs,h1,h2,h3⟩=>⟨ys,zs,h1,h2,ut h3⟩
section
variable {P:Program} {B:TypeId->Nat} {n t:Nat} {xs:LD} {x:Da}
def ii {k:IntKind}(h:qS P k t=true)(hc:bZ P B (n+1) t xs):∃i,xs=[.int k i]/\(Lit.int k i).wf=true:=by
 unfold qS at h;simp only[bZ]at hc;split at h
 ·rename_i hu;rw[hu]at hc;have:=of_decide_eq_true h;subst this;exact hc
 ·cases h
def q9 (h:uF P t=true)(hc:bZ P B (n+1) t xs):∃s,xs=[.str s]:=by
 unfold uF at h;simp only[bZ]at hc;split at h
 ·rename_i hu;rw[hu]at hc;obtain⟨s,rfl,_⟩:=hc;exact⟨s,rfl⟩
 ·cases h
def vQ {e z:Nat}(h:mq P t e z=true)(hc:bZ P B (n+1) t xs):∃es,xs=[.slice z es]/\es.length<=B e/\∀x∈es,gf P (bZ P B n) e x:=by
 unfold mq at h;simp only[bZ]at hc;split at h
 ·rename_i hu;rw[hu]at hc;rw[lγ]at h;obtain⟨es,rfl,_,h2,h3⟩:=hc;have h4:=lθ h.1;subst h4;rw[lθ h.2];exact⟨es,rfl,h2,h3⟩
 ·cases h
variable {ts:LN}
def vR (h:mt P t ts=true)(hc:bZ P B (n+1) t xs):zm (bZ P B n) ts xs:=by
 unfold mt at h;simp only[bZ]at hc;split at h
 ·rename_i hu;rw[hu]at hc;rw[<-Il h];exact ut hc
 ·cases h
def nN {C:TypeId->LD->Prop}(h:mt P t ts=true)(hc:gf P C t x):∃cs,x= .agg cs/\C t cs:=by
 unfold mt at h;unfold gf at hc;split at h
 ·rename_i hu;have:gA P t=true:=by unfold gA;rw[hu]
  rw[this]at hc;exact hc
 ·cases h
def Ia {k:IntKind}{C:TypeId->LD->Prop}(h:qS P k t=true)(hc:gf P C t x):C t [x]:=by
 unfold qS at h;unfold gf at hc;split at h
 ·rename_i hu;have:gA P t=false:=by unfold gA;rw[hu]
  rw[this]at hc;exact hc
 ·cases h
def Ib {C:TypeId->LD->Prop}(h:uF P t=true)(hc:gf P C t x):C t [x]:=by
 unfold uF at h;unfold gf at hc;split at h
 ·rename_i hu;have:gA P t=false:=by unfold gA;rw[hu]
  rw[this]at hc;exact hc
 ·cases h
end
def hC {α:Type}{f:α->Da}{Q:α->Prop}:∀{es:LD},(∀x∈es,∃a,x=f a/\Q a)->∃l:List α,es=l.map f/\∀a∈l,Q a
 |[],_=>⟨[],rfl,fun _ h=>by cases h⟩
 |x::es,h=>by
  obtain⟨a,rfl,ha⟩:=h x (lυ ..);obtain⟨l,rfl,hl⟩:=hC (es:=es) fun y hy=>h y (mα _ hy)
  refine⟨a::l,rfl,fun b hb=>?_⟩
  rcases lω.1 hb with rfl|hb
  ·exact ha
  ·exact hl b hb
noncomputable section
abbrev Bn:TypeId->Nat:=fun _=>1048576
abbrev CT (n t:Nat)(xs:LD):Prop:=bZ prog0 Bn n t xs
abbrev DT (n t:Nat)(x:Da):Prop:=gf prog0 (bZ prog0 Bn n) t x
def LY:qS prog0 .i64 3=true:=by kernel_rfl
def Vw:uF prog0 9=true:=by kernel_rfl
def ô:mq prog0 42 3 1=true:=by kernel_rfl
def õ:mq prog0 43 9 1=true:=by kernel_rfl
def Vy:mt prog0 45 [3,3,9,42,43]=true:=by kernel_rfl
def PT:mq prog0 25 45 5=true:=by kernel_rfl
def Vt:mt prog0 87 [9,3,45]=true:=by kernel_rfl
def XD:mq prog0 58 87 7=true:=by kernel_rfl
def Vu:mt prog0 89 [3,3,3,45]=true:=by kernel_rfl
def XE:mq prog0 62 89 8=true:=by kernel_rfl
def Zc:mt prog0 64 [9,42,3,42,62]=true:=by kernel_rfl
def Zd:mq prog0 59 64 5=true:=by kernel_rfl
def Ze:mt prog0 61 [9,58,59]=true:=by kernel_rfl
def Zf:mq prog0 22 61 3=true:=by kernel_rfl
def PS:mt prog0 24 [22]=true:=by kernel_rfl
def Vv:mt prog0 27 [3,3,3,25]=true:=by kernel_rfl
def Vx:qS prog0 .u16 57=true:=by kernel_rfl
variable {xs:LD}
def WB {n:Nat}(h:CT (n+2) 43 xs):∃l:List LN,xs=[.slice 1 (l.map .str)]/\l.length<=1048576:=by
 obtain⟨es,rfl,h1,h2⟩:=vQ õ h;obtain⟨l,rfl,_⟩:=hC (f:=Da.str) (Q:=fun _=>True) (es:=es) fun x hx=>by
  obtain⟨i,e⟩:=q9 Vw (Ib Vw (h2 x hx));simp only[lχ,and_true]at e;exact⟨i,e,trivial⟩
 exact⟨l,rfl,by simpa using h1⟩
def WY {P:Program}{t e z:Nat}{x:Da}{C:TypeId->LD->Prop}(h:mq P t e z=true)(hc:gf P C t x):C t [x]:=by
 unfold mq at h;unfold gf at hc;split at h
 ·rename_i hu;have:gA P t=false:=by unfold gA;rw[hu]
  rw[this]at hc;exact hc
 ·cases h
def Vs {i:Int}(h:(Lit.int .i64 i).wf=true):lB i:=by
 simp only[Lit.wf,lγ,lδ]at h;have h1:IntKind.i64.min= -9223372036854775808:=rfl;have h2:IntKind.i64.max=9223372036854775807:=rfl;rw[h1,h2]at h;exact⟨by omega,by omega⟩
def y6 {n:Nat}(h:CT (n+2) 42 xs):∃l:LI,xs=[.slice 1 (l.map iE)]/\∀i∈l,lB i:=by
 obtain⟨es,rfl,h1,h2⟩:=vQ ô h;obtain⟨l,rfl,hl⟩:=hC (f:=iE) (Q:=lB) (es:=es) fun x hx=>by
  obtain⟨i,e,hw⟩:=ii LY (Ia LY (h2 x hx));simp only[lχ,and_true]at e;exact⟨i,e,Vs hw⟩
 exact⟨l,rfl,hl⟩
def Oz {n:Nat}(h:CT (n+3) 45 xs):∃v:Va,xs=v.c/\VB v:=by
 obtain⟨_,_,rfl,h1,_,_,rfl,h2,_,_,rfl,h3,_,_,rfl,h4,_,_,rfl,h5,rfl⟩:=vR Vy h;obtain⟨k,rfl,_⟩:=ii LY h1;obtain⟨m,rfl,hm⟩:=ii LY h2;obtain⟨s,rfl⟩:=q9 Vw h3;obtain⟨I,rfl,hI⟩:=y6 h4;obtain⟨L,rfl,hL⟩:=WB h5;exact⟨⟨k,m,s,I,L⟩,rfl,by show L.length<2000000;omega,Vs hm,hI⟩
def Vl {n:Nat}{x:Da}(h:DT (n+3) 45 x):∃v:Va,x=v.e/\VB v:=by
 obtain⟨cs,rfl,g⟩:=nN Vy h;obtain⟨v,rfl,hv⟩:=Oz g;exact⟨v,rfl,hv⟩
def OA {n:Nat}(h:CT (n+4) 25 xs):∃l:List Va,xs=[.slice 5 (l.map Va.e)]/\LB l:=by
 obtain⟨es,rfl,h1,h2⟩:=vQ PT h;obtain⟨l,rfl,hl⟩:=hC (f:=Va.e) (Q:=VB) (es:=es) fun x hx=>Vl (h2 x hx)
 rw[lβ]at h1;exact⟨l,rfl,by show l.length<2000000;exact Nat.lt_of_le_of_lt h1 (by decide),hl⟩
def YU {n:Nat}{x:Da}(h:DT (n+4) 87 x):∃a:Fe,x=a.e/\VB a.init:=by
 obtain⟨cs,rfl,g⟩:=nN Vt h;obtain⟨_,_,rfl,h1,_,_,rfl,h2,_,_,rfl,h3,rfl⟩:=vR Vt g;obtain⟨s,rfl⟩:=q9 Vw h1;obtain⟨k,rfl,_⟩:=ii LY h2;obtain⟨v,rfl,hv⟩:=Oz h3;exact⟨⟨s,k,v⟩,rfl,hv⟩
def YV {n:Nat}{x:Da}(h:DT (n+4) 89 x):∃a:Cd,x=a.e/\VB a.v:=by
 obtain⟨cs,rfl,g⟩:=nN Vu h;obtain⟨_,_,rfl,h1,_,_,rfl,h2,_,_,rfl,h3,_,_,rfl,h4,rfl⟩:=vR Vu g;obtain⟨o,rfl,_⟩:=ii LY h1;obtain⟨a,rfl,_⟩:=ii LY h2;obtain⟨b,rfl,_⟩:=ii LY h3;obtain⟨v,rfl,hv⟩:=Oz h4;exact⟨⟨o,a,b,v⟩,rfl,hv⟩
def Õ {n:Nat}{x:Da}(h:DT (n+6) 64 x):∃a:Cm,x=a.e/\a.code.length<lw/\∀y∈a.code,VB y.v:=by
 obtain⟨cs,rfl,g⟩:=nN Zc h;obtain⟨_,_,rfl,h1,_,_,rfl,h2,_,_,rfl,h3,_,_,rfl,h4,_,_,rfl,h5,rfl⟩:=vR Zc g;obtain⟨s,rfl⟩:=q9 Vw h1;obtain⟨ps,rfl,_⟩:=y6 h2;obtain⟨k,rfl,_⟩:=ii LY h3;obtain⟨ls,rfl,_⟩:=y6 h4;obtain⟨is,rfl,hl,h5⟩:=vQ XE h5;obtain⟨is,rfl,hv⟩:=hC (f:=Cd.e) (Q:=fun a=>VB a.v) (es:=is) fun x hx=>YV (h5 x hx)
 rw[lβ]at hl;exact⟨⟨s,ps,k,ls,is⟩,rfl,Nat.lt_of_le_of_lt hl (by decide),hv⟩
def Ö {n:Nat}{x:Da}(h:DT (n+8) 61 x):∃a:Ct,x=a.e/\Bt a/\∀m∈a.methods,∀y∈m.code,EY y.v:=by
 obtain⟨cs,rfl,g⟩:=nN Ze h;obtain⟨_,_,rfl,h1,_,_,rfl,h2,_,_,rfl,h3,rfl⟩:=vR Ze g;obtain⟨s,rfl⟩:=q9 Vw h1;obtain⟨fs,rfl,hf,h2⟩:=vQ XD h2;obtain⟨ms,rfl,hm,h3⟩:=vQ Zd h3;obtain⟨fs,rfl,hv⟩:=hC (f:=Fe.e) (Q:=fun a=>VB a.init) (es:=fs) fun x hx=>YU (h2 x hx)
 obtain⟨ms,rfl,hw⟩:=hC (f:=Cm.e) (Q:=fun a=>a.code.length<lw/\∀y∈a.code,VB y.v) (es:=ms) fun x hx=>Õ (h3 x hx)
 rw[lβ]at hf hm;exact⟨⟨s,fs,ms⟩,rfl,⟨Nat.lt_of_le_of_lt hf (by decide),Nat.lt_of_le_of_lt hm (by decide),fun f h=>(hv f h).L,fun m h=>⟨(hw m h).1,fun y hy=>((hw m h).2 y hy).L⟩⟩,fun m h y hy=>((hw m h).2 y hy).v⟩
def WW {n:Nat}{x:Da}(h:DT (n+10) 24 x):∃c:List Ct,x=(de c).e/\Bc c/\ZR c:=by
 obtain⟨cs,rfl,g⟩:=nN PS h;obtain⟨_,_,rfl,h1,rfl⟩:=vR PS g;obtain⟨ts,rfl,hl,h1⟩:=vQ Zf h1;obtain⟨c,rfl,hp⟩:=hC (f:=Ct.e) (Q:=fun a=>Bt a/\∀m∈a.methods,∀y∈m.code,EY y.v) (es:=ts) fun x hx=>Ö (h1 x hx)
 rw[lβ]at hl;exact⟨c,rfl,⟨Nat.lt_of_le_of_lt hl (by decide),fun t ht=>(hp t ht).1⟩,fun t ht=>(hp t ht).2⟩
def YW {n:Nat}{x:Da}(h:DT (n+5) 27 x):∃m:Mc,x=m.e/\LB m.ls:=by
 obtain⟨cs,rfl,g⟩:=nN Vv h;obtain⟨_,_,rfl,h1,_,_,rfl,h2,_,_,rfl,h3,_,_,rfl,h4,rfl⟩:=vR Vv g;obtain⟨a,rfl,_⟩:=ii LY h1;obtain⟨b,rfl,_⟩:=ii LY h2;obtain⟨c,rfl,_⟩:=ii LY h3;obtain⟨l,rfl,hl⟩:=OA h4;exact⟨⟨a,b,c,l⟩,rfl,hl⟩
def YX {n:Nat}{x:Da}(h:DT (n+1) 9 x):∃s,x= .str s:=by
 obtain⟨s,e⟩:=q9 Vw (Ib Vw h);simp only[lχ,and_true]at e;exact⟨s,e⟩
def WX {n:Nat}{x:Da}(h:DT (n+4) 25 x):∃l:List Va,x= .slice 5 (l.map Va.e)/\LB l:=by
 obtain⟨l,e,h1⟩:=OA (WY PT h);simp only[lχ,and_true]at e;exact⟨l,e,h1⟩
def Vk {n:Nat}{x:Da}(h:DT (n+1) 57 x):∃i,x= .int .u16 i/\0<=i/\i<=65535:=by
 obtain⟨i,e,hw⟩:=ii Vx (Ia Vx h);simp only[lχ,and_true]at e;simp only[Lit.wf,lγ,lδ]at hw;have h1:IntKind.u16.min=0:=rfl;have h2:IntKind.u16.max=65535:=rfl;rw[h1,h2]at hw;exact⟨i,e,hw.1,hw.2⟩
def call0_ok (L:Letters)(N:Nat):dZ prog0 globs0 (Ω N):=pd (P:=prog0) (G:=globs0) uT (lay0.okM L mvG) N
def Rc {n:Nat}:Ω (n+1) 9 [] []=some (pB true,[]):=by kernel_rfl
end
end
def run_VMFuel:∀xs,Pw (gf prog0 (bZ prog0 Bn 12)) [24,27,9,25,45,57,57] xs->∃N,Ω N 7 (xs.map .p) []=some (pB true,[]):=by
 intro xs h;obtain⟨x1,r1,rfl,h1,h⟩:=h.cons_inv;obtain⟨x2,r2,rfl,h2,h⟩:=h.cons_inv;obtain⟨x3,r3,rfl,h3,h⟩:=h.cons_inv;obtain⟨x4,r4,rfl,h4,h⟩:=h.cons_inv;obtain⟨x5,r5,rfl,h5,h⟩:=h.cons_inv;obtain⟨x6,r6,rfl,h6,h⟩:=h.cons_inv;obtain⟨x7,r7,rfl,h7,h⟩:=h.cons_inv;obtain rfl:=h.nil_inv;obtain⟨c,rfl,hc,hv⟩:=WW (n:=2) h1;obtain⟨x,rfl,hx⟩:=YW (n:=7) h2;obtain⟨key,rfl⟩:=YX (n:=11) h3;obtain⟨fs,rfl,hf⟩:=WX (n:=8) h4;obtain⟨rp,rfl,hr⟩:=Vl (n:=9) h5;obtain⟨p5,rfl,hp,_⟩:=Vk (n:=11) h6;obtain⟨p6,rfl,hq,_⟩:=Vk (n:=11) h7;exact⟨2000100+1,Je (m:=2000100) c x key fs rp p5 p6 hc hv hx hf hr hp hq (Nat.le_refl _) (Rc (n:=2000099))⟩
end
end Go.Ab
