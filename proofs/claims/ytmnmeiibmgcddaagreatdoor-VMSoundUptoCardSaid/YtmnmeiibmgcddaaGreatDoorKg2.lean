import Derived.Test.YtmnmeiibmgcddaaGreatDoorKg1
import Derived.Test.YtmnmeiibmgcddaaGreatDoorOg2
import Derived.Test.YtmnmeiibmgcddaaGreatDoorOg3
set_option linter.all false
namespace Go.Ab
open Go
set_option maxRecDepth 100000
noncomputable section
section
def lr {v:Va}(h:Wk v):Lg v:=⟨by have:=h.I;omega,by have:=h.L;omega⟩
def Qv (q:Cm):Int:=bif az q.res 0 then 0 else 1
abbrev HJ:=List Va->Xt->Option (Xt×Int)
def Gb (s:Xs)(x:Cd):Option (Int×HJ):=
 bif az x.op 1 then some (0,fun _ X=>some (fo X x.v,0))else
 bif az x.op 2 then some (0,fun _ X=>(dj X.ls x.a).map fun v=>(fo X v,0))else
 bif az x.op 4 then some (0,fun _ X=>(dj X.fs x.a).map fun v=>(fo X v,0))else
 bif az x.op 6 then some (0,fun _ X=>some (fo X ⟨3,0,s.ky,[],[]⟩,0))else
 bif az x.op 3 then some (1,fun l X=>l.head?.bind fun v=>(dj X.ls x.a).map fun _=>({X with ls:=X.ls.set x.a.toNat v},0))else
 bif az x.op 5 then some (1,fun l X=>l.head?.bind fun v=>(dj X.fs x.a).map fun _=>({X with fs:=X.fs.set x.a.toNat v},0))else
 bif az x.op 7 then some (1,fun l X=>l.head?.map fun v=>eF (QS [45] v) X)else
 bif az x.op 8 then some (1,fun l X=>l.head?.map fun v=>eF (QS [33] v) X)else
 bif az x.op 9 then some (2,pM [43])else
 bif az x.op 10 then some (2,pM [43])else
 bif az x.op 11 then some (2,pM [45])else
 bif az x.op 12 then some (2,pM [42])else
 bif az x.op 13 then some (2,pM [47])else
 bif az x.op 14 then some (2,pM [37])else
 bif az x.op 15 then some (2,pM [61,61])else
 bif az x.op 16 then some (2,pM [33,61])else
 bif az x.op 17 then some (2,pM [60])else
 bif az x.op 18 then some (2,pM [60,61])else
 bif az x.op 19 then some (2,pM [62])else
 bif az x.op 20 then some (2,pM [62,61])else
 bif az x.op 21 then some (1,fun l X=>(jh [108,101,110] l).map fun r=>eF r X)else
 bif az x.op 22 then some (2,fun l X=>(jh [97,116] l).map fun r=>eF r X)else
 bif az x.op 23 then some (2,fun l X=>(jh [97,112,112,101,110,100] l).map fun r=>eF r X)else
 bif az x.op 24 then some (3,fun l X=>(jh [115,101,116] l).map fun r=>eF r X)else
 bif az x.op 25 then some (1,fun l X=>(jh [115,116,114] l).map fun r=>eF r X)else
 bif az x.op 26 then some (x.a,fun l X=>(jh [105,110,116,115] l).map fun r=>eF r X)else
 bif az x.op 27 then some (x.a,fun l X=>(jh [115,116,114,105,110,103,115] l).map fun r=>eF r X)else
 bif az x.op 28 then some (0,fun l X=>some (Gc x l X))else
 bif az x.op 29 then some (1,fun l X=>some (Gc x l X))else
 bif az x.op 30 then(fA s.c x.a x.b).map fun q=>(1+(q.params.length:Int),Kh s x)else
 bif az x.op 31 then some (1,fun _ X=>some (X,0))else
 bif az x.op 32 then some (Qv s.q,fun l X=>some (Px l X,0))else
 bif az x.op 33 then some (0,fun _ X=>some (X,26))else
 bif az x.op 34 then some (2,fun l X=>(oJ 1 l X.es.length).map fun r=>sk r X)else
 bif az x.op 35 then some (3,fun l X=>(oJ 2 l X.es.length).map fun r=>sk r X)else
 bif az x.op 36 then some (1,fun l X=>(oJ 3 l X.es.length).map fun r=>sk r X)else
 none
def vp (i:Int)(f:HJ)(X:Xt):Option (Xt×Int):=bif aL 0 i&&aL i X.st.length then f (X.st.drop (X.st.length - i.toNat)) {X with pc:=X.pc+1,st:=X.st.take (X.st.length - i.toNat)}else none
def pX (s:Xs)(X:Xt):Option (Xt×Int):=(dj s.q.code X.pc).bind fun x=>(Gb s x).bind fun p=>vp p.1 p.2 X
structure Wx (s:Xs)(X:Xt):Prop where
 ls:∀v∈X.ls,Wk v
 fs:∀v∈X.fs,Wk v
 st:∀v∈X.st,Wk v
 n:X.st.length<=100
 e:X.es.length<=100
 x:∀y∈s.q.code,Wk y.v
 c:s.q.code.length<1501
 p:0<=X.pc/\X.pc<=1501
def ñ (c:Xn)(r:Int):List Ob:=c.bx 2:: .tabO 6 r::(c.rs++[.box [.box 0 0]])
def EP (s:Xs)(r:Int)(G:R)(y:Xt×Int):Prop:=∃J',G=some (pI y.2,ñ (y.1.x s J') r)
variable {y:Xt×Int}
def cD {s:Xs}{r:Int}{b:Bool}{A B:R}{p q:Option (Int×HJ)}{X:Xt}(h:((bif b then p else q).bind fun p=>vp p.1 p.2 X)=some y)(h1:(p.bind fun p=>vp p.1 p.2 X)=some y->EP s r A y)(h2:(q.bind fun p=>vp p.1 p.2 X)=some y->EP s r B y):EP s r (iL b A B) y:=by
 cases b
 ·exact h2 h
 ·exact h1 h
section
variable {m:Nat} (s:Xs) (X:Xt) (J:LD) (x:Cd) (r:Int) (w:Wx s X) (hm:1520<=m)
include w hm
variable {g:Nat} {cap:List D} {f:HJ}
def Yc {i:Int}(h:vp i f X=some y)(hd:∀(Y:Xt) J l,Wx s {Y with pc:=0}->(∀v∈l,Wk v)->l.length<=100->Y.st.length<1501->ko s g cap x l (f l Y) Y J m):EP s r (ZD (dC lay0.tab m) (X.x s J) x.r r g cap i) y:=by
 unfold vp at h;cases hc:aL 0 i&&aL i X.st.length with
 |false=>rw[hc]at h;cases h
 |true=>
 rw[hc,cond_true]at h;rw[lγ,bj,bj,lδ,lδ]at hc;have hn:=w.n;have hp:=w.p;obtain⟨k,rfl⟩:=Int.eq_ofNat_of_zero_le hc.1;have hk:k<=X.st.length:=by omega
 rw[Int.toNat_natCast]at h;have hw1:ag .i64 ((X.st.length:Int) - (k:Int))=((X.st.length - k:Nat):Int):=by rw[fO (by omega) (by omega)];omega
 have hw2:ag .i64 (X.pc+1)=X.pc+1:=fO (by omega) (by omega);have l0:aL 0 ((X.st.length - k:Nat):Int)=true:=by rw[bj];exact lν (by omega)
 have l1:aL ((X.st.length - k:Nat):Int) (X.st.length:Int)=true:=by rw[bj];exact lν (by omega)
 have key:∀(L:LD) (n:Nat),List.take n (List.drop 0 L)=(X.st.drop (X.st.length - k)).map Va.e->EP s r (Ã (dC lay0.tab m) (X.x s J) x.r r g cap (k:Int) (X.x s J).st L n) y:=fun L n hL=>by
  have hY:=hd {X with pc:=X.pc+1,st:=X.st.take (X.st.length - k)} ((X.st.drop (X.st.length - k)).map Va.e++J) (X.st.drop (X.st.length - k)) ⟨w.ls,w.fs,fun v hv=>w.st v (qθ hv),by show(X.st.take (X.st.length - k)).length<=100;rw[mγ];omega,w.e,w.x,w.c,show(0:Int)<=0/\(0:Int)<=1501 by omega⟩ (fun v hv=>w.st v (qμ hv)) (by rw[mυ];omega) (by show(X.st.take (X.st.length - k)).length<1501;rw[mγ];omega) y h
  obtain⟨J',hJ⟩:=hY;refine⟨J',?_⟩;unfold Ã;show iL (aL 0 (ag .i64 ((X.st.length:Int) - (k:Int)))) (iL (aL (ag .i64 ((X.st.length:Int) - (k:Int))) (X.st.length:Int)) _ _) _=_;rw[hw1,l0,l1,be,be,hL];have e:({(X.x s J)with aP:=(ag .i64 ((X.x s J).aP+1)),sn:=(Int.toNat (ag .i64 (((X.x s J).sn:Int) - (k:Int))) - 0),st:=(X.x s J).st}:Xn)=Xt.x s {X with pc:=X.pc+1,st:=X.st.take (X.st.length - k)} ((X.st.drop (X.st.length - k)).map Va.e++J):=by
   rw[show ag .i64 ((X.x s J).aP+1)=X.pc+1 from hw2,show Int.toNat (ag .i64 (((X.x s J).sn:Int) - (k:Int))) - 0=(X.st.take (X.st.length - k)).length by rw[show((X.x s J).sn:Int)=(X.st.length:Int)from rfl,hw1,mγ];omega];have h3:(X.x s J).st=(X.st.take (X.st.length - k)).map Va.e++((X.st.drop (X.st.length - k)).map Va.e++J):=by
    rw[<-mξ,<-List.map_append,List.take_append_drop];rfl
   rw[h3];rfl
  rw[e];refine(aa hJ _).trans ?_;rw[aY,bW,OT];rfl
 have hX:EP s r (Å (dC lay0.tab m) (X.x s J) x.r r g cap (k:Int)) y:=by
  unfold Å;have e1:0+Int.toNat (ag .i64 (((X.x s J).sn:Int) - (k:Int)))=X.st.length - k:=by rw[show((X.x s J).sn:Int)=(X.st.length:Int)from rfl,hw1,Nat.zero_add,Int.toNat_natCast]
  have e2:(X.x s J).sn - Int.toNat (ag .i64 (((X.x s J).sn:Int) - (k:Int)))=k:=by
   rw[show((X.x s J).sn:Int)=(X.st.length:Int)from rfl,hw1,Int.toNat_natCast];show X.st.length - _=_;omega
  rw[e1,e2];have hlen:X.st.length - k+k<=(X.x s J).st.length:=by
   show _<=(X.st.map Va.e++J).length;rw[mη,lβ];omega
  rw[aa (UU (X.x s J).st (X.st.length - k) k hlen (by omega) (m:=m) (by omega)),eC];simp only[aR,eE,aB];refine key _ _ ?_;rw[List.drop_zero,List.take_take,Nat.min_self];show List.take k (List.drop (X.st.length - k) (X.st.map Va.e++J))=_;rw[List.drop_append_of_le_length (by rw[lβ];omega),List.take_append_of_le_length (by rw[mυ,lβ];omega),<-List.map_drop,lκ (by rw[lβ,mυ];omega)]
 unfold ZD;show EP s r (iL (aL 0 (ag .i64 ((X.st.length:Int) - (k:Int)))) (iL (aL (ag .i64 ((X.st.length:Int) - (k:Int))) (X.st.length:Int)) (iL (Nat.beq (Int.toNat (ag .i64 ((X.st.length:Int) - (k:Int)))) X.st.length) (iL _ _ _) _) _) _) y;rw[hw1,l0,l1,be,be,Int.toNat_natCast];cases hb:Nat.beq (X.st.length - k) X.st.length with
 |false=>exact hX
 |true=>
  rw[be];cases Nat.blt 0 (List.length (X.x s J).st)with
  |false=>exact hX
  |true=>
   rw[be,aa (Yt [] (by simp) (m:=m) (by omega)),eC];simp only[aR,eE,aB];refine key _ _ ?_;have:=lθ hb;rw[this,List.drop_length];rfl
def fj {i:Int}(h:((some (i,f)).bind fun p:Int×HJ=>vp p.1 p.2 X)=some y)(hd:∀(Y:Xt) J l,Wx s {Y with pc:=0}->(∀v∈l,Wk v)->l.length<=100->Y.st.length<1501->ko s g cap x l (f l Y) Y J m):EP s r (mD (dC lay0.tab m) (X.x s J) x.r r i g cap) y:=by
 have hc:Ω m 235 [.p x.r.e,.p (.ptr (.agg [.int .i64 i]))] []=some (pI i,[]):=by
  obtain⟨m,rfl,-⟩:=fuel (show 1519+1<=m from hm);apply JW m x.r i;rfl
 unfold mD;rw[aa hc];simp only[aY,bW,aB];exact Yc s X J x r w hm h hd
def ZE (h:((some (x.a,f)).bind fun p:Int×HJ=>vp p.1 p.2 X)=some y)(hd:∀(Y:Xt) J l,Wx s {Y with pc:=0}->(∀v∈l,Wk v)->l.length<=100->Y.st.length<1501->ko s g cap x l (f l Y) Y J m):EP s r (Ä (dC lay0.tab m) (X.x s J) x.r r g cap) y:=by
 have hc:Ω m 234 [.p x.r.e] []=some (pI x.a,[]):=by
  obtain⟨m,rfl,-⟩:=fuel (show 1519+1<=m from hm);apply JY m x.r;rfl
 unfold Ä;rw[aa hc];simp only[aY,bW,aB];exact Yc s X J x r w hm h hd
def ĉ (hq:∀q,fA s.c x.a x.b=some q->q.params.length<1501)(h:(((fA s.c x.a x.b).map fun q=>(1+(q.params.length:Int),f)).bind fun p:Int×HJ=>vp p.1 p.2 X)=some y)(hd:∀(Y:Xt) J l,Wx s {Y with pc:=0}->(∀v∈l,Wk v)->l.length<=100->Y.st.length<1501->ko s g [] x l (f l Y) Y J m):EP s r (Ĉ (dC lay0.tab m) (X.x s J) x.r r g) y:=by
 cases hc:fA s.c x.a x.b with
 |none=>rw[hc]at h;cases h
 |some q=>
 have hql:=hq q hc;rw[hc]at h;unfold fA at hc;cases ht:dj s.c x.a with
 |none=>rw[ht]at hc;cases hc
 |some t=>
 rw[ht,Option.bind_some]at hc;have hp:=w.p;have e:({(X.x s J)with aP:=(ag .i64 ((X.x s J).aP+1))}:Xn)=Xt.x s {X with pc:=X.pc+1} J:=by
  rw[show ag .i64 ((X.x s J).aP+1)=X.pc+1 from fO (by show _<=X.pc+1;omega) (by show X.pc+1<_;omega)];rfl
 have h7:Ω m 161 [.p x.r.e,.box 0 0] (.box [.box 1 0]::(Xt.x s {X with pc:=X.pc+1} J).hp 1)=some (pI (1+(q.params.length:Int)),.box [.box 1 0]::(Xt.x s {X with pc:=X.pc+1} J).hp 1):=by
  obtain⟨m,rfl,hm'⟩:=fuel (show 1519+1<=m from hm);apply RW m (Xt.x s {X with pc:=X.pc+1} J) x.r;unfold HH;refine(aa (wU s {X with pc:=X.pc+1} J x ht hc (m:=m) (by omega)) _).trans ?_;simp only[c3,aR,aY,Cs,FQ,aB];refine(bM _ _).trans ?_;rw[show ag .i64 (1+((q.r.Params.length:Nat):Int))=1+(q.params.length:Int) by rw[show q.r.Params.length=q.params.length from lβ ..];exact fO (by omega) (by omega)];rfl
 unfold Ĉ;rw[e];have h7':=aa h7;show EP s r (dC lay0.tab m 161 [.p x.r.e,.box 0 0] (.box [.box 1 0]::(Xt.x s {X with pc:=X.pc+1} J).hp 1) _) y;rw[h7'];simp only[aY,bW];have h8:∀(a:List Ob) (K:R),cf a a K=K:=bM;rw[show ∀K,cf ([.box [.box 1 0]]++(Xt.x s {X with pc:=X.pc+1} J).hp 1) (.box [.box 1 0]::(Xt.x s {X with pc:=X.pc+1} J).hp 1) K=K from fun K=>bM _ K,Po,be]
 exact Yc s X J x r w hm h hd
end
def Rq {m:Nat}(s:Xs)(X:Xt)(J:LD)(w:Wx s X)(hq:∀x∈s.q.code,∀q,fA s.c x.a x.b=some q->q.params.length<1501)(hm:1521<=m)(h:pX s X=some y):EP s (Qv s.q) (Ω m 96 [.box 0 0,.map 1] (ñ (X.x s J) (Qv s.q))) y:=by
 replace hm:=fuel hm;obtain⟨m,rfl,hm⟩:=hm;unfold pX at h;cases hx:dj s.q.code X.pc with
 |none=>rw[hx]at h;cases h
 |some x=>
 rw[hx,Option.bind_some]at h;have hxm:=nJ hx;have hxl:=lr (w.x x hxm);suffices hs:EP s (Qv s.q) (yF (dC lay0.tab m) m (X.x s J) (Qv s.q)) y by
  obtain⟨J',hJ⟩:=hs;exact⟨J',RP m (X.x s J) (Qv s.q) _ hJ⟩
 unfold yF;show EP s (Qv s.q) (cL (bU (s.q.code.map Cd.e) X.pc) _) y;rw[aU,bf,hx,bG,Vf];show EP s (Qv s.q) (iL (az x.op 1) _ _) y;unfold Gb at h;refine cD h (fun h=>fj s X J x _ w hm h fun Y K l wY hl hll hst=>L2 s Y K x l hxl hst (by omega)) fun h=>?_
 refine cD h (fun h=>fj s X J x _ w hm h fun Y K l wY hl hll hst=>L3 s Y K x l (fun v hv=>lr (wY.ls v hv)) hst (by omega)) fun h=>?_
 refine cD h (fun h=>fj s X J x _ w hm h fun Y K l wY hl hll hst=>L4 s Y K x l (fun v hv=>lr (wY.fs v hv)) hst (by omega)) fun h=>?_
 refine cD h (fun h=>fj s X J x _ w hm h fun Y K l wY hl hll hst=>L5 s Y K x l hst (by omega)) fun h=>?_
 refine cD h (fun h=>fj s X J x _ w hm h fun Y K l wY hl hll hst=>L6 s Y K x l (fun v hv=>lr (hl v hv)) (by omega)) fun h=>?_
 refine cD h (fun h=>fj s X J x _ w hm h fun Y K l wY hl hll hst=>L7 s Y K x l (fun v hv=>lr (hl v hv)) (by omega)) fun h=>?_
 refine cD h (fun h=>fj s X J x _ w hm h fun Y K l wY hl hll hst=>wN s Y K x l [45] hst (by omega)) fun h=>?_
 refine cD h (fun h=>fj s X J x _ w hm h fun Y K l wY hl hll hst=>wN s Y K x l [33] hst (by omega)) fun h=>?_
 refine cD h (fun h=>fj s X J x _ w hm h fun Y K l wY hl hll hst=>bY s Y K x l [43] hl hst (by omega)) fun h=>?_
 refine cD h (fun h=>fj s X J x _ w hm h fun Y K l wY hl hll hst=>bY s Y K x l [43] hl hst (by omega)) fun h=>?_
 refine cD h (fun h=>fj s X J x _ w hm h fun Y K l wY hl hll hst=>bY s Y K x l [45] hl hst (by omega)) fun h=>?_
 refine cD h (fun h=>fj s X J x _ w hm h fun Y K l wY hl hll hst=>bY s Y K x l [42] hl hst (by omega)) fun h=>?_
 refine cD h (fun h=>fj s X J x _ w hm h fun Y K l wY hl hll hst=>bY s Y K x l [47] hl hst (by omega)) fun h=>?_
 refine cD h (fun h=>fj s X J x _ w hm h fun Y K l wY hl hll hst=>bY s Y K x l [37] hl hst (by omega)) fun h=>?_
 refine cD h (fun h=>fj s X J x _ w hm h fun Y K l wY hl hll hst=>bY s Y K x l [61,61] hl hst (by omega)) fun h=>?_
 refine cD h (fun h=>fj s X J x _ w hm h fun Y K l wY hl hll hst=>bY s Y K x l [33,61] hl hst (by omega)) fun h=>?_
 refine cD h (fun h=>fj s X J x _ w hm h fun Y K l wY hl hll hst=>bY s Y K x l [60] hl hst (by omega)) fun h=>?_
 refine cD h (fun h=>fj s X J x _ w hm h fun Y K l wY hl hll hst=>bY s Y K x l [60,61] hl hst (by omega)) fun h=>?_
 refine cD h (fun h=>fj s X J x _ w hm h fun Y K l wY hl hll hst=>bY s Y K x l [62] hl hst (by omega)) fun h=>?_
 refine cD h (fun h=>fj s X J x _ w hm h fun Y K l wY hl hll hst=>bY s Y K x l [62,61] hl hst (by omega)) fun h=>?_
 refine cD h (fun h=>fj s X J x _ w hm h fun Y K l wY hl hll hst=>eN s Y K x l [108,101,110] hl hll hst (by omega)) fun h=>?_
 refine cD h (fun h=>fj s X J x _ w hm h fun Y K l wY hl hll hst=>eN s Y K x l [97,116] hl hll hst (by omega)) fun h=>?_
 refine cD h (fun h=>fj s X J x _ w hm h fun Y K l wY hl hll hst=>eN s Y K x l [97,112,112,101,110,100] hl hll hst (by omega)) fun h=>?_
 refine cD h (fun h=>fj s X J x _ w hm h fun Y K l wY hl hll hst=>eN s Y K x l [115,101,116] hl hll hst (by omega)) fun h=>?_
 refine cD h (fun h=>fj s X J x _ w hm h fun Y K l wY hl hll hst=>eN s Y K x l [115,116,114] hl hll hst (by omega)) fun h=>?_
 refine cD h (fun h=>ZE s X J x _ w hm h fun Y K l wY hl hll hst=>eN s Y K x l [105,110,116,115] hl hll hst (by omega)) fun h=>?_
 refine cD h (fun h=>ZE s X J x _ w hm h fun Y K l wY hl hll hst=>eN s Y K x l [115,116,114,105,110,103,115] hl hll hst (by omega)) fun h=>?_
 refine cD h (fun h=>fj s X J x _ w hm h fun Y K l wY hl hll hst=>Hl s Y K x l (by omega)) fun h=>?_
 refine cD h (fun h=>fj s X J x _ w hm h fun Y K l wY hl hll hst=>Hl s Y K x l (by omega)) fun h=>?_
 refine cD h (fun h=>ĉ s X J x _ w hm (hq x hxm) h fun Y K l wY hl hll hst=>Q7 s Y K x l (fun v hv=>lr (hl v hv)) (by omega) (by omega)) fun h=>?_
 refine cD h (fun h=>fj s X J x _ w hm h fun Y K l wY hl hll hst=>Q8 s Y K x l (by omega)) fun h=>?_
 refine cD h (fun h=>fj s X J x _ w hm h fun Y K l wY hl hll hst=>Ja s Y K x l (fun v hv=>lr (hl v hv)) (by omega)) fun h=>?_
 refine cD h (fun h=>fj s X J x _ w hm h fun Y K l wY hl hll hst=>Q9 s Y K x l (by omega)) fun h=>?_
 refine cD h (fun h=>fj s X J x _ w hm h fun Y K l wY hl hll hst=>qm s Y K x l 1 (by have:=wY.e;simp only at this;omega) (by omega)) fun h=>?_
 refine cD h (fun h=>fj s X J x _ w hm h fun Y K l wY hl hll hst=>qm s Y K x l 2 (by have:=wY.e;simp only at this;omega) (by omega)) fun h=>?_
 refine cD h (fun h=>fj s X J x _ w hm h fun Y K l wY hl hll hst=>qm s Y K x l 3 (by have:=wY.e;simp only at this;omega) (by omega)) fun h=>?_
 cases h
end
def LU (n:Int):Da:= .fn 235 [.ptr (.agg [.int .i64 n])]
variable {m:Nat}
def eO (n:Int)(hm:1<=m):Ω m 159 [pI n] []=some (.p (LU n),[]):=by
 replace hm:=fuel hm;obtain⟨m,rfl,hm⟩:=hm;apply Nr m n;rfl
def LV (n:Int)(K:LD->R):cV 235 (LU n) K=K [.ptr (.agg [.int .i64 n])]:=rfl
def Mz (hm:2<=m):Ω m 147 [.p (.fn 148 [])] []=some (.p (.agg [LU 0,.fn 225 [.ptr (.agg [.fn 148 []])]]),[]):=by
 replace hm:=fuel hm;obtain⟨m,rfl,hm⟩:=hm;apply Nt m;unfold Bl;rw[aa (eO (m:=m) 0 hm)];rw[aY,LV,aR,aB,aB];rfl
def MA (hm:2<=m):Ω m 147 [.p (.fn 149 [])] []=some (.p (.agg [LU 0,.fn 225 [.ptr (.agg [.fn 149 []])]]),[]):=by
 replace hm:=fuel hm;obtain⟨m,rfl,hm⟩:=hm;apply Nu m;unfold Bm;rw[aa (eO (m:=m) 0 hm)];rw[aY,LV,aR,aB,aB];rfl
def MB (hm:2<=m):Ω m 147 [.p (.fn 150 [])] []=some (.p (.agg [LU 0,.fn 225 [.ptr (.agg [.fn 150 []])]]),[]):=by
 replace hm:=fuel hm;obtain⟨m,rfl,hm⟩:=hm;apply Nv m;unfold Bp;rw[aa (eO (m:=m) 0 hm)];rw[aY,LV,aR,aB,aB];rfl
def MC (hm:2<=m):Ω m 147 [.p (.fn 151 [])] []=some (.p (.agg [LU 0,.fn 225 [.ptr (.agg [.fn 151 []])]]),[]):=by
 replace hm:=fuel hm;obtain⟨m,rfl,hm⟩:=hm;apply Nw m;unfold Bq;rw[aa (eO (m:=m) 0 hm)];rw[aY,LV,aR,aB,aB];rfl
def MD (hm:2<=m):Ω m 152 [.p (.fn 153 [])] []=some (.p (.agg [LU 1,.fn 226 [.ptr (.agg [.fn 153 []])]]),[]):=by
 replace hm:=fuel hm;obtain⟨m,rfl,hm⟩:=hm;apply Nz m;unfold Bu;rw[aa (eO (m:=m) 1 hm)];rw[aY,LV,aR,aB,aB];rfl
def ME (hm:2<=m):Ω m 152 [.p (.fn 154 [])] []=some (.p (.agg [LU 1,.fn 226 [.ptr (.agg [.fn 154 []])]]),[]):=by
 replace hm:=fuel hm;obtain⟨m,rfl,hm⟩:=hm;apply NA m;unfold Bv;rw[aa (eO (m:=m) 1 hm)];rw[aY,LV,aR,aB,aB];rfl
def Jk (o:LN)(hm:2<=m):Ω m 155 [pS o] []=some (.p (.agg [LU 1,.fn 227 [.ptr (.agg [.str o])]]),[]):=by
 replace hm:=fuel hm;obtain⟨m,rfl,hm⟩:=hm;apply Ny m o;unfold Bs;rw[aa (eO (m:=m) 1 hm)];rw[aY,LV,aR,aB,aB];rfl
def yE (o:LN)(hm:2<=m):Ω m 156 [pS o] []=some (.p (.agg [LU 2,.fn 230 [.ptr (.agg [.str o])]]),[]):=by
 replace hm:=fuel hm;obtain⟨m,rfl,hm⟩:=hm;apply BX m o;unfold rj;rw[aa (eO (m:=m) 2 hm)];rw[aY,LV,aR,aB,aB];rfl
def re (o:LN)(n:Int)(hm:2<=m):Ω m 157 [pS o,pI n] []=some (.p (.agg [LU n,.fn 232 [.ptr (.agg [.str o])]]),[]):=by
 replace hm:=fuel hm;obtain⟨m,rfl,hm⟩:=hm;apply Ft m o n;unfold tt;rw[aa (eO (m:=m) n hm)];rw[aY,LV,aR,aB,aB];rfl
def Ji (q n:Int)(hm:2<=m):Ω m 167 [pI q,pI n] []=some (.p (.agg [LU n,.fn 236 [.ptr (.agg [.int .i64 q])]]),[]):=by
 replace hm:=fuel hm;obtain⟨m,rfl,hm⟩:=hm;apply Np m q n;unfold Bi;rw[aa (eO (m:=m) n hm)];rw[aY,LV,aR,aB,aB];rfl
def Đ (cs:LD)(K:LD->R):cV 232 (.fn 232 cs) K=K cs:=rfl
def Jj (o:LN)(hm:3<=m):Ω m 158 [pS o] []=some (.p (.agg [.fn 234 [],.fn 232 [.ptr (.agg [.str o])]]),[]):=by
 replace hm:=fuel hm;obtain⟨m,rfl,hm⟩:=hm;apply Ns m o;unfold Bk;rw[aa (re (m:=m) o 0 hm)];simp only[aY,OM,aR,aB,LV,Đ]
def MI (c:Xn)(hm:4<=m):Ω m 95 [.box 0 0] (c.hp 0)=some (.map 5,c.hp 0++[.tabO 6 (bif az c.mr 0 then 0 else 1),.box [.box 0 0]]):=by
 replace hm:=fuel hm;obtain⟨m,rfl,hm⟩:=hm;apply NJ m c;unfold BE kT;simp only[aa (Mz (m:=m) (by omega)),aa (MA (m:=m) (by omega)),aa (MB (m:=m) (by omega)),aa (MC (m:=m) (by omega)),aa (MD (m:=m) (by omega)),aa (ME (m:=m) (by omega)),aa (Jk (m:=m) _ (by omega)),aa (yE (m:=m) _ (by omega)),aa (re (m:=m) _ _ (by omega)),aa (Jj (m:=m) _ (by omega)),aa (Ji (m:=m) _ _ (by omega)),aa (eO (m:=m) _ (by omega)),aY,OM,aR,aB,LV,Đ];cases az c.mr 0<;>rfl
def ϓ (x:Ct)(s:LN)(hm:1<=m):Ω m 80 [.p x.e,.box 0 0] [.box [pS s]]=some (pB (cg x.name s),[.box [pS s]]):=by
 replace hm:=fuel hm;obtain⟨m,rfl,hm⟩:=hm;apply ϕ m x.r s;unfold ŵ;show iL (cg x.name s) _ _=_;cases cg x.name s<;>rfl
def j_ (l:List Ct)(s:LN)(hl:l.length<1501)(hm:1510<=m):Ω m 139 [pL 3 (l.map Ct.e),.fn 80 [.box 0 0]] [.box [pS s]]=some (pI (CW (l.findIdx? fun t=>cg t.name s)),[.box [pS s]]):=by
 replace hm:=fuel hm;obtain⟨m,rfl,hm⟩:=hm;apply n_ m (l.map Ct.e) s;unfold Ϗ;refine(bA l (fun k i=>itL (Ř _ m _ _) k (l.map Ct.e,((l.map Ct.e).length:Int),i,s)) (fun t=>cg t.name s) (fun i=>some (pI i,[.box [pS s]])) (some (pI (-1),[.box [pS s]])) (fun k i hi=>?_) (fun k=>?_) (by omega)).trans ?_
 ·rw[bb];have h:=aa (ϓ l[i] s (m:=m) (by omega));simp only[Ř,lβ,hZ (show((i:Int)<(l.length:Int)) by omega),be,aU,bf,bw hi,bG,Cs,wS (show i<eH by unfold eH;omega)];refine(h _).trans ?_;simp only[aY,aJ];refine(bM _ _).trans ?_;exact mj _ _ _
 ·rw[bb];simp only[Ř,lβ,eT,bo]
 ·cases l.findIdx? fun t=>cg t.name s<;>rfl
def Ϧ (l:List Ct)(s:LN)(hl:l.length<1501)(hm:1511<=m):Ω m 79 [pL 3 (l.map Ct.e),.fn 80 [.box 0 0]] [.box [pS s]]=some (.tup [pI ((l.findIdx? fun t=>cg t.name s).getD 0:Nat),pB (l.findIdx? fun t=>cg t.name s).isSome],[.box [pS s]]):=by
 replace hm:=fuel hm;obtain⟨m,rfl,hm⟩:=hm;apply ϲ m (l.map Ct.e) s;unfold ž;rw[aa (j_ l s hl hm)];simp only[aY,bW];refine(bM _ _).trans ?_;cases l.findIdx? fun t=>cg t.name s with
 |none=>rfl
 |some j=>
  rw[show aL 0 (CW (some j))=true by rw[bj];simp[CW],show aG (CW (some j)) 0=false from Q5 (by simp[CW])];rfl
def Ζ (x:Cm)(s:LN)(hm:1<=m):Ω m 82 [.p x.e,.box 0 0] [.box [pS s]]=some (pB (cg x.name s),[.box [pS s]]):=by
 replace hm:=fuel hm;obtain⟨m,rfl,hm⟩:=hm;apply Κ m x.r s;unfold š;show iL (cg x.name s) _ _=_;cases cg x.name s<;>rfl
def ϧ (l:List Cm)(s:LN)(hl:l.length<1501)(hm:1510<=m):Ω m 140 [pL 5 (l.map Cm.e),.fn 82 [.box 0 0]] [.box [pS s]]=some (pI (CW (l.findIdx? fun t=>cg t.name s)),[.box [pS s]]):=by
 replace hm:=fuel hm;obtain⟨m,rfl,hm⟩:=hm;apply ϳ m (l.map Cm.e) s;unfold ſ;refine(bA l (fun k i=>itL (Ŕ _ m _ _) k (l.map Cm.e,((l.map Cm.e).length:Int),i,s)) (fun t=>cg t.name s) (fun i=>some (pI i,[.box [pS s]])) (some (pI (-1),[.box [pS s]])) (fun k i hi=>?_) (fun k=>?_) (by omega)).trans ?_
 ·rw[bb];have h:=aa (Ζ l[i] s (m:=m) (by omega));simp only[Ŕ,lβ,hZ (show((i:Int)<(l.length:Int)) by omega),be,aU,bf,bw hi,bG,FQ,wS (show i<eH by unfold eH;omega)];refine(h _).trans ?_;simp only[aY,aJ];refine(bM _ _).trans ?_;exact mj _ _ _
 ·rw[bb];simp only[Ŕ,lβ,eT,bo]
 ·cases l.findIdx? fun t=>cg t.name s<;>rfl
def Υ (l:List Cm)(s:LN)(hl:l.length<1501)(hm:1511<=m):Ω m 81 [pL 5 (l.map Cm.e),.fn 82 [.box 0 0]] [.box [pS s]]=some (.tup [pI ((l.findIdx? fun t=>cg t.name s).getD 0:Nat),pB (l.findIdx? fun t=>cg t.name s).isSome],[.box [pS s]]):=by
 replace hm:=fuel hm;obtain⟨m,rfl,hm⟩:=hm;apply Ψ m (l.map Cm.e) s;unfold Ű;rw[aa (ϧ l s hl hm)];simp only[aY,bW];refine(bM _ _).trans ?_;cases l.findIdx? fun t=>cg t.name s with
 |none=>rfl
 |some j=>
  rw[show aL 0 (CW (some j))=true by rw[bj];simp[CW],show aG (CW (some j)) 0=false from Q5 (by simp[CW])];rfl
def ϥ (c:List Ct)(s:LN)(hl:c.length<1501)(hm:1512<=m):Ω m 36 [.p (de c).e,pS s] []=some (.tup [pI ((c.findIdx? fun t=>cg t.name s).getD 0:Nat),pB (c.findIdx? fun t=>cg t.name s).isSome],[]):=by
 replace hm:=fuel hm;obtain⟨m,rfl,hm⟩:=hm;apply ϱ m (de c) s;unfold Ž;refine(aa (Ϧ c s hl hm) _).trans ?_;simp only[c3,aR,aY,bW,aJ,aB];refine(bM _ _).trans ?_;cases(c.findIdx? fun t=>cg t.name s).isSome<;>rfl
def Τ (t:Ct)(s:LN)(hl:t.methods.length<1501)(hm:1512<=m):Ω m 37 [.p t.e,pS s] []=some (.tup [pI ((t.methods.findIdx? fun t=>cg t.name s).getD 0:Nat),pB (t.methods.findIdx? fun t=>cg t.name s).isSome],[]):=by
 replace hm:=fuel hm;obtain⟨m,rfl,hm⟩:=hm;apply Χ m t.r s;unfold ů;refine(aa (Υ t.methods s hl hm) _).trans ?_;simp only[c3,aR,aY,bW,aJ,aB];refine(bM _ _).trans ?_;cases(t.methods.findIdx? fun t=>cg t.name s).isSome<;>rfl
def mc0:Mc:=⟨0,0,0,[]⟩
def G_ (c:List Ct)(ty me:LN)(l:List Va):Mc×Int:=
 bif az (Hi c) 0 then
  match c.findIdx? fun t=>cg t.name ty with
  |none=>(mc0,14)
  |some i=>match c[i]? with
   |none=>(mc0,14)
   |some t=>match t.methods.findIdx? fun t=>cg t.name me with
    |none=>(mc0,14)
    |some j=>match t.methods[j]? with
     |none=>(mc0,14)
     |some q=>bif uw l q.params then(⟨i,j,0,l++List.replicate (q.locals.length - l.length) v0⟩,0)else(mc0,15)
 else(mc0,1)
def w_ {c:List Ct}(hc:AJ c)(ty me:LN)(l:List Va)(hl:l.length<1501)(hv:∀v∈l,Lg v)(hm:400003<=m):Ω m 12 [.p (de c).e,pS ty,pS me,pL 5 (l.map Va.e)] []=some (.tup [.p (G_ c ty me l).1.e,pI (G_ c ty me l).2],[]):=by
 replace hm:=fuel hm;obtain⟨m,rfl,hm⟩:=hm;apply C_ m (de c) ty me (l.map Va.e);unfold ϫ G_;refine(aa (wO hc (m:=m) (by omega)) _).trans ?_;simp only[aY,bW,aB];cases hv0:az (Hi c) 0 with
 |false=>rfl
 |true=>
  have hve:=Č (eqI_t.1 hv0);rw[Bool.not_true,bo,cond_true];refine(aa (ϥ c ty hc.n (m:=m) (by omega)) _).trans ?_;simp only[c3,aR,aY,bW,aJ,aB];cases h1:c.findIdx? fun t=>cg t.name ty with
  |none=>rfl
  |some i=>
   have hi:i<c.length:=(qη.1 h1).1;have hct:=lρ hi;have hzt:=hc.s _ hct;rw[show(some i).isSome=true from rfl,be,show(some i).getD 0=i from rfl,show(de c).Types=c.map Ct.e from rfl];simp only[lε hi,aU,bf,bw hi,bG,Cs];refine(aa (Τ c[i] me hzt.m (m:=m) (by omega)) _).trans ?_;simp only[c3,aR,aY,bW,aJ,aB];cases h2:c[i].methods.findIdx? fun t=>cg t.name me with
   |none=>rfl
   |some j=>
    have hj:j<c[i].methods.length:=(qη.1 h2).1;have hfo:=zU hc hct (lρ hj) (sL hve.1 _ hct _ (lρ hj));simp only[lε hj];rw[show(some j).isSome=true from rfl,be,show(some j).getD 0=j from rfl,show c[i].r.Methods=c[i].methods.map Cm.e from rfl];simp only[aU,bf,bw hj,bG,FQ];refine(aa (k_ l c[i].methods[j].params hl (m:=m) (by omega)) _).trans ?_;simp only[aY,aJ,aB];cases hfit:uw l c[i].methods[j].params with
    |false=>rfl
    |true=>
     have hlen:l.length=c[i].methods[j].params.length:=by
      by_cases h:l.length=c[i].methods[j].params.length
      ·exact h
      ·rw[CL l _ h]at hfit;cases hfit
     have hll:=hfo.l;have hpl:=congrArg List.length hfo.pl;rw[mγ]at hpl;have hc1:(aL 0 (c[i].methods[j].locals.length:Int)&&aL (c[i].methods[j].locals.length:Int) (c[i].methods[j].locals.length:Int)&&Nat.ble (c[i].methods[j].locals.length*80) 281474976710656&&aL (c[i].methods[j].locals.length:Int) 9223372036854775807)=true:=by
      simp only[lγ,bj,Nat.ble_eq,lδ];omega
     rw[be,show c[i].methods[j].r.Locals=c[i].methods[j].locals.map iE from rfl,lβ,Int.toNat_natCast,hc1,be,aa (qq l hl hv (m:=m) (by omega)),eC];simp only[aR,eE,aB,List.drop_zero];rw[lκ (l:=l.map Va.e) (by rw[lβ];exact Nat.le_refl _),lκ (l:=l.map Va.e) (by rw[lβ];omega)];have hrep:∀n,List.replicate n (Da.agg [Da.int .i64 0,Da.int .i64 0,Da.str [],Da.slice 1 [],Da.slice 1 []])=(List.replicate n v0).map Va.e:=fun n=>by rw[List.map_replicate];rfl
     have goal:∀L:LD,L=(l++List.replicate (c[i].methods[j].locals.length - l.length) v0).map Va.e->(some (.tup [.p (.agg [.int .i64 i,.int .i64 j,.int .i64 0,.slice 5 L]),pI 0],[]):R)=some (.tup [.p (Mc.e ⟨i,j,0,l++List.replicate (c[i].methods[j].locals.length - l.length) v0⟩),pI 0],[]):=fun L h=>by subst h;rfl
     cases hl0:l with
     |nil=>
      subst hl0;refine goal _ ?_;rw[hrep,lκ (by rw[lβ,mμ];exact Nat.le_refl _)];rfl
     |cons a r=>
      rw[<-hl0];rw[show(l.map Va.e).isEmpty=false by rw[hl0];rfl,bo];refine goal _ ?_;rw[hrep];unfold splice;rw[lκ]
      ·rw[List.take_zero,List.nil_append,lβ,Nat.zero_add,List.map_append,<-List.map_drop,List.drop_replicate]
      ·simp only[mη,lβ,mυ,mμ,mγ];omega
structure HK where
 k:Int
 v:Va
 (tT tK mn:LN)
 ar:List Va
 er:Int
 mc:Mc
 fs:List Va
 es:List Ef
 fu:Int
def HK.r (g:HK):cd:=⟨g.k,g.v.k,g.v.n,g.v.s,g.v.I.map iE,g.v.L.map .str,g.tT,g.tK,g.mn,g.ar.map Va.e,g.er,g.mc.ty,g.mc.me,g.mc.pc,g.mc.ls.map Va.e,g.fs.map Va.e,g.es.map Ef.e,g.fu⟩
def HK.e (g:HK):Da:=g.r.e
def Ly:HK:=⟨0,v0,[],[],[],[],0,mc0,[],[],0⟩
def lq (er fu:Int)(fs:List Va):HK:=⟨3,v0,[],[],[],[],er,mc0,fs,[],fu⟩
def qX (a b:Int):Int:=bif aG b a then b else a
def Ie (s:Xs)(X:Xt):HK:=⟨X.ok,X.ov,X.tT,X.tK,X.mn,X.ar,0,bif az X.ok 2 then⟨s.ty,s.me,X.pc,X.ls⟩else mc0,X.fs,X.es,X.fu⟩
def jk (s:Xs)(fuel:Int)(start:List Va):Nat->Int->Xt->HK
 |0,_,_=>Ly
 |n+1,u,X=>bif X.done then Ie s X else bif aL u fuel then
   (match pX s X with
   |none=>Ly
   |some y=>bif az y.2 0 then jk s fuel start n (u+1) {y.1 with fu:=u}else lq y.2 (qX u fuel) start)
  else lq 17 (qX u fuel) start
structure Jo (s:Xs)(P:Xt->Prop):Prop where
 w:∀X,P X->Wx s X
 g:∀X,P X->X.done=false->∃y,pX s X=some y/\(y.2=0->∀u,P {y.1 with fu:=u})
 q:∀x∈s.q.code,∀q,fA s.c x.a x.b=some q->q.params.length<1501
def Q6 (G:R)(g:HK):Prop:=∃a b c d e,G=some (.p g.e,[a,b,c,d,e])
def QL:qK (.tabO 6 0) (.tabO 6 0)=true:=by kernel_rfl
def YS (c:Xn)(r:Int)(K:Xn->Int->R):ZX (c.bx 2:: .tabO 6 r::(c.rs++[.box [.box 0 0]])) K=K c r:=Vi 6 r (fun r=>K c r) QL
def YT (c:Xn)(r:Int)(K:Xn->Int->R):ZY (c.hp 0++[.tabO 6 r,.box [.box 0 0]]) K=K c r:=Vi 6 r (fun r=>K c r) QL
def Ey {m:Nat}(s:Xs)(P:Xt->Prop)(hI:Jo s P)(fuel:Int)(hf:fuel<1000000)(start:List Va)(hm:1521<=m)(k0 k1 k2:_->R)
  (h0:∀X J er u r,Q6 (k0 (Xt.x s X J,[],[],[],[],er,start.length,qX u fuel,r,start.map Va.e)) (lq er (qX u fuel) start))
  (h1:∀X J u r,Q6 (k1 (Xt.x s X J,[],[],[],[],start.length,qX u fuel,r,start.map Va.e)) (lq 17 (qX u fuel) start))
  (h2:∀X J u b r,Q6 (k2 (fuel,start.length,u,b,Xt.x s X J,[],[],[],[],r,start.map Va.e)) (Ie s X)):
  ∀(n q:Nat) (u:Int) (X:Xt) (J:LD),P X->1<=u->u<=fuel+1->fuel+2<=u+n->n<=q->Q6 (itL (lO (dC lay0.tab m) m k0 k1 k2) q (fuel,start.length,u,Xt.x s X J,[],[],[],[],Qv s.q,start.map Va.e)) (jk s fuel start n u X)
 |0,q,u,X,J,_,h1u,hn,hu,_=>by exfalso;omega
 |n+1,q+1,u,X,J,hP,h1u,hn,hu,hq=>by
  rw[bb];unfold jk;show Q6 (lO _ _ _ _ _ _ _) _;unfold lO;show Q6 (iL (!X.done) _ _) _;cases hd:X.done with
  |true=>exact h2 X J u _ _
  |false=>
   rw[Bool.not_false,be,cond_false];cases hl:aL u fuel with
   |false=>exact h1 X J u _
   |true=>
    rw[bj,lδ]at hl;obtain⟨y,hy,hPy⟩:=hI.g X hP hd;obtain⟨J',hJ⟩:=Rq s X J (hI.w X hP) hI.q hm hy;rw[be,cond_true,hy];simp only;have hJ2:=aa hJ;unfold ñ at hJ2;rw[hJ2,aY,bW,YS];cases he:az y.2 0 with
    |false=>exact h0 y.1 J' y.2 u _
    |true=>
     rw[Bool.not_true,bo,cond_true,fO (by omega) (by omega)];exact Ey s P hI fuel hf start hm k0 k1 k2 h0 h1 h2 n q (u+1) {y.1 with fu:=u} J' (hPy (eqI_t.1 he) u) (by omega) (by omega) (by omega) (by omega)
def VW (s:Xs)(P:Xt->Prop)(hI:Jo s P)(fuel:Int)(hf:0<=fuel/\fuel<1000000)(X:Xt)(J:LD)(hP:P X)(hl:X.fs.length<1501)(hm:1000010<=m):Q6 (Ω m 57 [.box 0 0,pI fuel] ((X.x s J).hp 0)) (jk s fuel X.fs (fuel.toNat+1) 1 X):=by
 obtain⟨m,rfl,hm⟩:=Go.Ab.fuel hm;suffices hs:Q6 (EX (dC lay0.tab m) m (X.x s J) fuel) (jk s fuel X.fs (fuel.toNat+1) 1 X) by
  obtain⟨a,b,c,d,e,h⟩:=hs;exact⟨a,b,c,d,e,Wc m (X.x s J) fuel _ h⟩
 unfold EX;rw[aa (MI (X.x s J) (m:=m) (by omega)),show ∀K,YP 5 (.map 5) K=K from fun _=>rfl,YT];have hv:∀v∈X.fs,Lg v:=fun v hv=>lr ((hI.w X hP).fs v hv)
 have hc:=aa (EU X.fs hl hv (m:=m) (by omega));rw[show(X.x s J).fn=X.fs.length from rfl,show(X.x s J).fs=X.fs.map Va.e from rfl,hc,eC];simp only[aR,eE,aB];have e:(Xn.mk (X.x s J).ct (X.x s J).mn (X.x s J).mp (X.x s J).mr (X.x s J).ml (X.x s J).mc (X.x s J).aT (X.x s J).aM (X.x s J).aP (X.x s J).ln (X.x s J).ky X.fs.length (X.x s J).sn (X.x s J).en (X.x s J).dn (X.x s J).oK (X.x s J).vK (X.x s J).vN (X.x s J).vS (X.x s J).vI (X.x s J).vL (X.x s J).tT (X.x s J).tK (X.x s J).me (X.x s J).ar (X.x s J).er (X.x s J).oT (X.x s J).oM (X.x s J).oP (X.x s J).ol (X.x s J).of (X.x s J).oe (X.x s J).fu (X.x s J).ls (X.fs.map Va.e) (X.x s J).st (X.x s J).es)=X.x s J:=rfl;have tkA:List.take X.fs.length (X.fs.map Va.e)=X.fs.map Va.e:=lκ (by rw[lβ];exact Nat.le_refl _);refine Ey s P hI fuel hf.2 X.fs (by omega) _ _ _ (fun Y K er u r=>?_) (fun Y K u r=>?_) (fun Y K u b r=>?_) (fuel.toNat+1) m 1 X J hP (by omega) (by omega) (by omega) (by omega)
 ·rw[List.drop_zero,tkA];exact⟨_,_,_,_,_,rfl⟩
 ·rw[List.drop_zero,tkA];exact⟨_,_,_,_,_,rfl⟩
 ·show Q6 (iL (az Y.ok 2) _ _) _;unfold Ie;have t1:List.take Y.ls.length (Y.ls.map Va.e)=Y.ls.map Va.e:=lκ (by rw[lβ];exact Nat.le_refl _);have t2:List.take Y.fs.length (Y.fs.map Va.e)=Y.fs.map Va.e:=lκ (by rw[lβ];exact Nat.le_refl _);have t3:List.take Y.es.length (Y.es.map Ef.e)=Y.es.map Ef.e:=lκ (by rw[lβ];exact Nat.le_refl _);simp only[List.drop_zero,show(Xt.x s Y K).ln=Y.ls.length from rfl,show(Xt.x s Y K).ls=Y.ls.map Va.e from rfl,show(Xt.x s Y K).fn=Y.fs.length from rfl,show(Xt.x s Y K).fs=Y.fs.map Va.e from rfl,show(Xt.x s Y K).en=Y.es.length from rfl,show(Xt.x s Y K).es=Y.es.map Ef.e from rfl,t1,t2,t3];cases az Y.ok 2 with
  |true=>exact⟨_,_,_,_,_,rfl⟩
  |false=>exact⟨_,_,_,_,_,rfl⟩
def kf (c:List Ct)(x:Mc)(key:LN)(fs:List Va)(rp:Va)(fuel:Int):Bool:=ot c x&&(!aG 32 key.length&&(QV c x.ty fs&&(!aG fuel 0&&(!aG 20000 fuel&&jj rp (R8 c x)))))
def X0 (x:Mc)(fs:List Va)(rp:Va):Xt:=⟨x.pc,x.ls,fs,bif az rp.k 0 then[]else[rp],[],false,0,v0,[],[],[],[],0⟩
def S0 (c:List Ct)(x:Mc)(key:LN):Xs:=⟨c,(la c x.ty x.me).getD m0,x.ty,x.me,key⟩
def Lt (c:List Ct)(x:Mc)(key:LN)(fs:List Va)(rp:Va)(fuel:Int):HK×Int:=bif kf c x key fs rp fuel then(jk (S0 c x key) fuel fs (fuel.toNat+1) 1 (X0 x fs rp),0)else(Ly,1)
def Un {c:List Ct}(hc:AJ c)(x:Mc)(key:LN)(fs:List Va)(rp:Va)(fuel:Int)(hfs:fs.length<1501)(hm:400020<=m)(k0:_->R):oD (dC lay0.tab m) m k0 (key,fs.map Va.e,fuel,(bif ot c x then R8 c x else 0),ot c x,de c,x.r,rp.r,[],[],[],[])=k0 (key,fs.map Va.e,fuel,!kf c x key fs rp fuel,de c,x.r,rp.r,[],[],[],[]):=by
 unfold oD kf;have h1:=aa (VV hc x.ty fs hfs (m:=m) (by omega));change ∀k,dC lay0.tab m _ [.p (.agg [.slice 3 (de c).Types]),pI x.r.Type_,_] [] k=_ at h1;have h2:=fun k=>aa (yD rp k (m:=m) (by omega))
 change ∀k K,dC lay0.tab m _ [.p rp.r.e,_] [] K=_ at h2
 simp only[h1,h2,aY,aJ,aB];cases ot c x<;>cases aG 32 (key.length:Int)<;>cases QV c x.ty fs<;>cases aG fuel 0<;>cases aG 20000 fuel<;>rfl
def VU {c:List Ct}(hc:AJ c)(x:Mc)(key:LN)(fs:List Va)(rp:Va)(fuel:Int)(hfs:fs.length<1501)(hll:x.ls.length<1501)(hlv:∀v∈x.ls,Lg v)(hfv:∀v∈fs,Lg v)(hrv:Lg rp)(hI:kf c x key fs rp fuel=true->∃P,Jo (S0 c x key) P/\P (X0 x fs rp))(hm:1000020<=m):Ω m 24 [.p (de c).e,.p x.e,pS key,pL 5 (fs.map Va.e),.p rp.e,pI fuel] []=some (.tup [.p (Lt c x key fs rp fuel).1.e,pI (Lt c x key fs rp fuel).2],[]):=by
 obtain⟨m,rfl,hm⟩:=Go.Ab.fuel hm;apply Wa m (de c) x.r key (fs.map Va.e) rp.r fuel;unfold MP Lt;refine(aa (Jf hc x (m:=m) (by omega)) _).trans ?_;simp only[c3,aR,aY,bW,aJ,aB];rw[Un hc x key fs rp fuel hfs (by omega)];cases hok:kf c x key fs rp fuel with
 |false=>rfl
 |true=>
  obtain⟨P,hP,hP0⟩:=hI hok;rw[Bool.not_true,bo,cond_true];refine(aa (rg hc x (m:=m) (by omega)) _).trans ?_;simp only[c3,aR,aY,FQ,aJ,aB];have hfl:0<=fuel/\fuel<1000000:=by
   unfold kf at hok;simp only[lγ,Bool.not_eq_true',bX,lζ]at hok;omega
  rw[aa (qq fs hfs hfv (m:=m) (by omega)),eC];simp only[aR,eE,aB];rw[show x.r.Locals=x.ls.map Va.e from rfl,aa (qq x.ls hll hlv (m:=m) (by omega)),eC];simp only[aR,eE,aB];obtain⟨a,b,c',d,e,hrun⟩:=VW (m:=m) (S0 c x key) P hP fuel hfl (X0 x fs rp) [] hP0 hfs (by omega);have hrun2:=aa hrun;show iL (!az rp.k 0) _ _=_;cases hk:az rp.k 0 with
  |true=>
   rw[Bool.not_true,bo];have ex:(X0 x fs rp).x (S0 c x key) []=(⟨c.map Ct.e,((la c x.ty x.me).getD m0).name,((la c x.ty x.me).getD m0).params.map iE,((la c x.ty x.me).getD m0).res,((la c x.ty x.me).getD m0).locals.map iE,((la c x.ty x.me).getD m0).code.map Cd.e,x.ty,x.me,x.pc,x.ls.length,key,fs.length,0,0,false,0,0,0,[],[],[],[],[],[],[],0,0,0,0,[],[],[],0,x.ls.map Va.e,fs.map Va.e,[],[]⟩:Xn):=by
    unfold X0;rw[hk];rfl
   rw[ex]at hrun2;refine(hrun2 _).trans ?_;simp only[aY,aR,aB];rfl
  |false=>
   rw[Bool.not_false,be];refine(aa (gQ rp hrv (m:=m) (by omega)) _).trans ?_;simp only[Va.cl,Va.ch,nM,aR,aY,bW,iU,eC,aB,eE];have hpu:=aa (AR (S0 c x key) ⟨x.pc,x.ls,fs,[],[],false,0,v0,[],[],[],[],0⟩ [] rp (by simp) (m:=m) (by omega));refine(hpu _).trans ?_;rw[c3,aB,Vj];have ex:(X0 x fs rp)=fo ⟨x.pc,x.ls,fs,[],[],false,0,v0,[],[],[],[],0⟩ rp:=by
    unfold X0 fo;rw[hk];rfl
   rw[ex]at hrun2;refine(hrun2 _).trans ?_;simp only[aY,aR,aB];rw[ex];rfl
def FvL:LI->List Va->Prop
 |[],[]=>True
 |k::r,v::l=>Fv k v/\FvL r l
 |_,_=>False
def FvL.len:∀{ks:LI} {l:List Va},FvL ks l->l.length=ks.length
 |[],[],_=>rfl
 |k::r,v::l,h=>by simp only[List.length_cons,FvL.len h.2]
def FvL.wk:∀{ks:LI} {l:List Va},FvL ks l->∀v∈l,Wk v
 |[],[],_,v,hv=>by cases hv
 |k::r,u::l,h,v,hv=>by
  rcases lω.1 hv with rfl|hv
  ·exact xQ h.1
  ·exact FvL.wk h.2 v hv
def FvL.app:∀{a b:LI} {x y:List Va},FvL a x->FvL b y->FvL (a++b) (x++y)
 |[],_,[],_,_,h=>h
 |_::_,_,_::_,_,h,g=>⟨h.1,FvL.app h.2 g⟩
def FvL.take:∀{ks:LI} {l:List Va} (n:Nat),FvL ks l->FvL (ks.take n) (l.take n)
 |[],[],n,_=>by rw[List.take_nil,List.take_nil];trivial
 |_::_,_::_,0,_=>trivial
 |_::_,_::_,n+1,h=>⟨h.1,FvL.take n h.2⟩
def FvL.drop:∀{ks:LI} {l:List Va} (n:Nat),FvL ks l->FvL (ks.drop n) (l.drop n)
 |[],[],n,_=>by rw[List.drop_nil,List.drop_nil];trivial
 |_::_,_::_,0,h=>h
 |_::_,_::_,n+1,h=>FvL.drop n h.2
def FvL.fit:∀{ks:LI} {l:List Va},FvL ks l->uw l ks=true
 |[],[],_=>rfl
 |k::r,v::l,h=>by show(jj v k&&uw l r)=true;rw[h.1.1,FvL.fit h.2];rfl
def EY (v:Va):Prop:=lB v.n/\∀x∈v.I,lB x
def FvL.of:∀{ks:LI} {l:List Va},uw l ks=true->(∀v∈l,EY v)->FvL ks l
 |[],[],_,_=>trivial
 |k::r,v::l,h,hv=>by
  have h:(jj v k&&uw l r)=true:=h;rw[lγ]at h;exact⟨⟨h.1,hv v lυ⟩,FvL.of h.2 fun u hu=>hv u (mα _ hu)⟩
 |[],_::_,h,_=>by cases h
 |_::_,[],h,_=>by cases h
def FvL.get:∀{ks:LI} {l:List Va} {i:Nat} {k:Int},FvL ks l->ks[i]?=some k->∃v,l[i]?=some v/\Fv k v
 |_::_,v::_,0,_,h,e=>by cases e;exact⟨v,rfl,h.1⟩
 |_::_,_::_,i+1,k,h,e=>FvL.get (i:=i) (k:=k) h.2 e
 |[],[],i,k,_,e=>by simp at e
def FvL.set:∀{ks:LI} {l:List Va} {i:Nat} {k:Int} {v:Va},FvL ks l->ks[i]?=some k->Fv k v->FvL ks (l.set i v)
 |_::_,_::_,0,_,_,h,e,hv=>by cases e;exact⟨hv,h.2⟩
 |_::_,_::_,i+1,_,_,h,e,hv=>⟨h.1,FvL.set h.2 e hv⟩
 |[],[],i,k,v,_,e,_=>by simp at e
def FvL.same:∀{k:Int} {n:Nat} {l:List Va},FvL (List.replicate n k) l->∀v∈l,Fv k v
 |k,0,[],_,v,hv=>by cases hv
 |k,n+1,u::l,h,v,hv=>by
  rcases lω.1 hv with rfl|hv
  ·exact h.1
  ·exact FvL.same (n:=n) h.2 v hv
structure jF (ks:LI)(set:Nat)(ls:List Va):Prop where
 n:ls.length=ks.length
 a:∀(i:Nat) (k:Int) (v:Va),ks[i]?=some k->ls[i]?=some v->Fv k v\/(v=v0/\set.testBit i=false)
variable {ks:LI}
def jF.sub {a b:Nat}{ls:List Va}(h:jF ks b ls)(hs:a &&& b=a):jF ks a ls:=⟨h.n,fun i k v hk hv=>by
 rcases h.a i k v hk hv with h|⟨h,hb⟩
 ·exact .inl h
 ·refine .inr ⟨h,?_⟩;have:=congrArg (fun n=>Nat.testBit n i) hs;simp only[Nat.testBit_and,hb,Bool.and_false]at this;exact this.symm⟩
def jF.wk {a:Nat}{ls:List Va}(h:jF ks a ls):∀v∈ls,Wk v:=fun v hv=>by
 obtain⟨i,hi,rfl⟩:=qι hv;have hk:i<ks.length:=by rw[<-h.n];exact hi
 rcases h.a i ks[i] ls[i] (lε hk) (lε hi)with h|⟨h,-⟩
 ·exact xQ h
 ·rw[h];exact VN
def jF.set {ks:LI}{a:Nat}{ls:List Va}{i:Nat}{k:Int}{v:Va}(h:jF ks a ls)(hk:ks[i]?=some k)(hv:Fv k v):jF ks (a ||| 2 ^ i) (ls.set i v):=⟨by rw[List.length_set];exact h.n,fun j q u hq hu=>by
 by_cases hj:j=i
 ·subst hj;rw[hk]at hq;cases hq;have hl:j<ls.length:=by rw[h.n];exact(List.getElem?_eq_some_iff.1 hk).1
  rw[mψ hl]at hu;cases hu;exact .inl hv
 ·rw[mρ (fun e=>hj e.symm)]at hu;rcases h.a j q u hq hu with h|⟨h,hb⟩
  ·exact .inl h
  ·refine .inr ⟨h,?_⟩;rw[Nat.testBit_or,hb,Nat.testBit_two_pow_of_ne (fun e=>hj e.symm)];rfl⟩
structure VX (e:Ef):Prop where
 k:1<=e.k/\e.k<=3
 n:1<=e.n.length/\e.n.length<=32
 r:e.k=2->1<=e.a/\1<=e.b
 c:e.k=3->e.a=0/\e.b=0
structure AS (l:List Ef):Prop where
 n:l.length<=16
 a:∀e∈l,VX e
def UX (s:Xs)(S:List SV)(X:Xt):Prop:=(X.ok=1/\Fv s.q.res X.ov/\X.ar=[])\/(X.ok=2/\X.ov=v0/\∃(pc:Nat) (x:Cd) (v:SV) (t:Ct) (q:Cm),X.pc=((pc+1:Nat):Int)/\s.q.code[pc]?=some x/\x.op=30/\S[pc+1]?=some v/\jF s.q.locals v.set X.ls/\dj s.c x.a=some t/\dj t.methods x.b=some q/\X.tT=t.name/\X.mn=q.name/\X.tK.length<=32/\FvL q.params X.ar)
structure Gd (s:Xs)(t:Ct)(S:List SV)(X:Xt):Prop where
 fs:FvL (t.fields.map Fe.kind) X.fs
 es:AS X.es
 ls:∀v∈X.ls,Wk v
 st:(∀v∈X.st,Wk v)/\X.st.length<=40
 pc:0<=X.pc/\X.pc<=1501
 lv:X.done=false->∃(pc:Nat) (v:SV),X.pc=(pc:Int)/\S[pc]?=some v/\FvL v.st X.st/\jF s.q.locals v.set X.ls
 dn:X.done=true->UX s S X
def Gd.fu {s t S X}(h:Gd s t S X)(u:Int):Gd s t S {X with fu:=u}:=⟨h.fs,h.es,h.ls,h.st,h.pc,h.lv,h.dn⟩
structure UT (s:Xs)(t:Ct)(S:List SV):Prop where
 f:HI s.c t s.q
 x:Í s.c t s.q S
 v:∀y∈s.q.code,EY y.v
def HS {c t m x}{K K':LI}(h:tZ c t m x K=some (K',true)):∃l e,cN c t m x (c9 K)=some l/\e∈l/\e.1.length<=K.length/\K.drop (K.length - e.1.length)=e.1/\K'=K.take (K.length - e.1.length)++e.2/\(x.op=30\/x.op=32->K.take (K.length - e.1.length)=[])/\(K=[]->x.op≠15/\x.op≠16/\x.op≠31):=by
 unfold tZ at h;cases hb:K.isEmpty&&(az x.op 15||(az x.op 16||az x.op 31))with
 |true=>rw[hb]at h;cases h
 |false=>
  rw[hb,cond_false]at h;cases he:cN c t m x (c9 K)with
  |none=>rw[he]at h;cases h
  |some l=>
   rw[he]at h;have h:=Option.some.inj h;have last:K=[]->x.op≠15/\x.op≠16/\x.op≠31:=fun e=>by
    subst e;simp only[List.isEmpty_nil,Bool.true_and,qε,cE,lζ]at hb;exact⟨hb.1,hb.2.1,hb.2.2⟩
   have go:∀l:List Ek,wd x.op K l=(K',true)->∃e,e∈l/\e.1.length<=K.length/\K.drop (K.length - e.1.length)=e.1/\K'=K.take (K.length - e.1.length)++e.2/\(x.op=30\/x.op=32->K.take (K.length - e.1.length)=[]):=by
    intro l;induction l with
    |nil=>intro h;cases h
    |cons e r ih=>
     intro h;unfold wd at h;revert h;by_cases h1:K.length<e.1.length
     ·rw[lν h1];intro h;obtain⟨e',h1,h2⟩:=ih h;exact⟨e',mα _ h1,h2⟩
     ·rw[mθ h1];by_cases h2:K.drop (K.length - e.1.length)=e.1
      ·rw[lν h2];cases h3:decide (0<K.length - e.1.length)&&(az x.op 32||az x.op 30)with
       |true=>intro h;cases h
       |false=>
        intro h;simp only[cond_true,cond_false,lμ,lδ]at h;refine⟨e,lυ,by omega,h2,h.1.symm,fun ho=>?_⟩
        rw[Bool.and_eq_false_iff,lζ,qε,cE,cE,lζ,lζ]at h3;have:K.length - e.1.length=0:=by omega
        rw[this,List.take_zero]
      ·rw[mθ h2];intro h;obtain⟨e',h1,h2⟩:=ih h;exact⟨e',mα _ h1,h2⟩
   obtain⟨e,h1,h2,h3,h4,h5⟩:=go l h;exact⟨l,e,rfl,h1,h2,h3,h4,h5,last⟩
variable {pc:Nat}
def QI {m:Cm}{x:Cd}(h:(eM m pc x).2=true)(h1:x.op≠32)(h2:x.op≠33)(h3:x.op≠28)(h4:x.op≠29):(eM m pc x).1=[((pc+1:Nat):Int)]:=by
 have e:∀{k:Int},x.op≠k->az x.op k=false:=fun h=>by rw[cE];exact mθ h
 unfold eM at h ⊢
 rw[e h1,e h2,e h3,e h4]at h ⊢
 revert h
 cases decide (pc+1=m.code.length)with
 |true=>intro h;cases h
 |false=>intro _;rfl
section
variable {a:Int}
def uA {l:List Va}(h:FvL [a] l):∃x,l=[x]/\Fv a x:=by
 match l,h with
 |[x],h=>exact⟨x,rfl,h.1⟩
def jL {b:Int}{l:List Va}(h:FvL [a,b] l):∃x y,l=[x,y]/\Fv a x/\Fv b y:=by
 match l,h with
 |[x,y],h=>exact⟨x,y,rfl,h.1,h.2.1⟩
def Xh {b c:Int}{l:List Va}(h:FvL [a,b,c] l):∃x y z,l=[x,y,z]/\Fv a x/\Fv b y/\Fv c z:=by
 match l,h with
 |[x,y,z],h=>exact⟨x,y,z,rfl,h.1,h.2.1,h.2.2.1⟩
structure gb (s:Xs)(t:Ct)(S:List SV)(X:Xt)(pc:Nat)(x:Cd)(v:SV)(e:Ek)(st':LI)(l:List Va)(Y:Xt):Prop where
 hx:UT s t S
 g:Gd s t S X
 hc:s.q.code[pc]?=some x
 hv:S[pc]?=some v
 hpc:X.pc=(pc:Int)
 hls:jF s.q.locals v.set X.ls
 hin:gX s.c t s.q x=true
 s2:(eM s.q pc x).2=true
 to:∀k∈(eM s.q pc x).1,Has S k.toNat st' (lA x v.set)
 st:∃K0,st'=K0++e.2/\FvL K0 Y.st/\(x.op=30\/x.op=32->Y.st=[]/\K0=[])
 l:FvL e.1 l
 le:st'.length<=40
 y:Y={X with pc:=X.pc+1,st:=Y.st}
 d:X.done=false
def gb.nxt {s t S X pc x v e st' l Y}(h:gb s t S X pc x v e st' l Y){Z:Xt}(h1:Z.pc∈(eM s.q pc x).1)(h2:FvL st' Z.st)(h3:jF s.q.locals (lA x v.set) Z.ls)(h4:FvL (t.fields.map Fe.kind) Z.fs)(h5:AS Z.es)(h6:Z.done=false):Gd s t S Z:=by
 have hpl:pc<s.q.code.length:=(List.getElem?_eq_some_iff.1 h.hc).1;obtain⟨u,hu,-,hus,hub⟩:=h.to _ h1;obtain⟨r1,r2⟩:=(QH h.hin hpl h.s2).1 _ h1;have hcl:=h.hx.f.z.c;have hl:=h.le;refine⟨h4,h5,h3.wk,⟨h2.wk,by rw[h2.len];exact hl⟩,⟨r1,by omega⟩,fun _=>⟨Z.pc.toNat,u,(mσ r1).symm,hu,hus▸h2,h3.sub hub⟩,fun hd=>by rw[h6]at hd;cases hd⟩
def oo {x:Cd}{set:Nat}(h:x.op≠3):lA x set=set:=by
 unfold lA;rw[show az x.op 3=false by rw[cE];exact mθ h];rfl
section
variable {s:Xs} {t:Ct} {S:List SV} {X:Xt} {pc:Nat} {x:Cd} {v:SV} {e:Ek} {st':LI} {l:List Va} {Y:Xt} (h:gb s t S X pc x v e st' l Y)
include h
def gb.ls:Y.ls=X.ls:=by rw[h.y]
def gb.fs:Y.fs=X.fs:=by rw[h.y]
def gb.es:Y.es=X.es:=by rw[h.y]
def gb.dn:Y.done=false:=by rw[h.y];exact h.d
def gb.pcN:Y.pc=((pc+1:Nat):Int):=by rw[h.y];show X.pc+1=_;rw[h.hpc];omega
def gb.nx (h1:x.op≠32)(h2:x.op≠33)(h3:x.op≠28)(h4:x.op≠29):Y.pc∈(eM s.q pc x).1:=by
 rw[QI h.s2 h1 h2 h3 h4,h.pcN];exact List.mem_singleton.2 rfl
def gb.psh {k:Int}{w:Va}(he:e.2=[k])(hw:Fv k w)(h0:x.op≠3)(h1:x.op≠32)(h2:x.op≠33)(h3:x.op≠28)(h4:x.op≠29):Gd s t S (fo Y w):=by
 obtain⟨K0,k1,k2,-⟩:=h.st;refine h.nxt (Z:=fo Y w) (h.nx h1 h2 h3 h4) ?_ ?_ ?_ ?_ h.dn
 ·rw[k1,he];exact k2.app ⟨hw,trivial⟩
 ·rw[oo h0];show jF _ _ Y.ls;rw[h.ls];exact h.hls
 ·show FvL _ Y.fs;rw[h.fs];exact h.g.fs
 ·show AS Y.es;rw[h.es];exact h.g.es
def gb.pshR {k:Int}{r:Va×Int}(he:e.2=[k])(hw:VY k r)(h0:x.op≠3)(h1:x.op≠32)(h2:x.op≠33)(h3:x.op≠28)(h4:x.op≠29):(eF r Y).2=0->Gd s t S (eF r Y).1:=fun hz=>by
 have hz:r.2=0:=hz;unfold eF;rw[eqI_t.2 hz];exact h.psh he (hw hz) h0 h1 h2 h3 h4
def gb.pop (he:e.2=[]){Z:Xt}(hp:Z.pc∈(eM s.q pc x).1)(hs:Z.st=Y.st)(hl:jF s.q.locals (lA x v.set) Z.ls)(hf:FvL (t.fields.map Fe.kind) Z.fs)(hes:AS Z.es)(hd:Z.done=false):Gd s t S Z:=by
 obtain⟨K0,k1,k2,-⟩:=h.st;refine h.nxt hp ?_ hl hf hes hd;rw[k1,he,mκ,hs];exact k2
def gb.ask (he:e.2=[])(h0:x.op≠3)(h1:x.op≠32)(h2:x.op≠33)(h3:x.op≠28)(h4:x.op≠29){r:Ef×Int}(hr:r.2=0->VX r.1/\Y.es.length<16):(sk r Y).2=0->Gd s t S (sk r Y).1:=fun hz=>by
 have hz:r.2=0:=hz;obtain⟨g1,g2⟩:=hr hz;unfold sk;rw[eqI_t.2 hz];refine h.pop he (Z:={Y with es:=Y.es++[r.1]}) (h.nx h1 h2 h3 h4) rfl ?_ ?_ ⟨?_,fun y hy=>?_⟩ h.dn
 ·rw[oo h0];show jF _ _ Y.ls;rw[h.ls];exact h.hls
 ·show FvL _ Y.fs;rw[h.fs];exact h.g.fs
 ·show(Y.es++[r.1]).length<=16;rw[mη];simp only[List.length_singleton];omega
 ·rcases qδ.1 hy with hy|hy
  ·rw[h.es]at hy;exact h.g.es.a y hy
  ·rw[List.mem_singleton.1 hy];exact g1
end
def eA (s:Xs)(t:Ct)(S:List SV)(x:Cd)(e:Ek)(l:List Va)(Y:Xt):Prop:=∃f,Gb s x=some ((e.1.length:Int),f)/\∃y,f l Y=some y/\(y.2=0->Gd s t S y.1)
def aX {n k:Int}(h:decide (n=k)=false):n≠k:=of_decide_eq_false h
variable {st':LI} {Y:Xt} {vv:Va}
def Xk {s:Xs}{t:Ct}{S:List SV}{X:Xt}{v:SV}{e:Ek}{l:List Va}{b:Int}(h:gb s t S X pc ⟨1,a,b,vv⟩ v e st' l Y)(L:List Ek)(he:cN s.c t s.q ⟨1,a,b,vv⟩ (c9 v.st)=some L)(hel:e∈L):eA s t S ⟨1,a,b,vv⟩ e l Y:=by
 obtain rfl:=Option.some.inj he;obtain rfl:=List.mem_singleton.1 hel;have hi:=jO h.hin;have hi:(ra vv&&!az vv.k 0)=true:=hi;rw[lγ]at hi;have hw:Fv vv.k vv:=⟨by unfold jj;rw[hi.1,eqI_t.2 rfl];rfl,h.hx.v _ (mδ h.hc)⟩
 exact⟨_,rfl,_,rfl,fun _=>h.psh rfl hw (aX rfl) (aX rfl) (aX rfl) (aX rfl) (aX rfl)⟩
def Xl {s:Xs}{t:Ct}{S:List SV}{X:Xt}{v:SV}{e:Ek}{l:List Va}{b:Int}(h:gb s t S X pc ⟨2,a,b,vv⟩ v e st' l Y)(L:List Ek)(he:cN s.c t s.q ⟨2,a,b,vv⟩ (c9 v.st)=some L)(hel:e∈L):eA s t S ⟨2,a,b,vv⟩ e l Y:=by
 have he:(dj s.q.locals a).map (fun k=>[(([],[k]):Ek)])=some L:=he;cases hk:dj s.q.locals a with
 |none=>rw[hk]at he;cases he
 |some k=>
 rw[hk]at he;obtain rfl:=Option.some.inj he;obtain rfl:=List.mem_singleton.1 hel;obtain⟨g1,g2,g3⟩:=jH hk;have hlen:=h.hls.n;obtain⟨w,hw,hwm⟩:=iR (l:=X.ls) (x:=a) ⟨g1,by omega⟩
 obtain⟨-,-,hw2⟩:=jH hw;have hbit:v.set.testBit a.toNat=true:=h.hx.x.l pc _ v h.hc h.hv rfl;have hfv:Fv k w:=by
  rcases h.hls.a a.toNat k w g3 hw2 with h|⟨-,h⟩
  ·exact h
  ·rw[hbit]at h;cases h
 refine⟨_,rfl,(fo Y w,0),?_,fun _=>h.psh rfl hfv (aX rfl) (aX rfl) (aX rfl) (aX rfl) (aX rfl)⟩
 show(dj Y.ls a).map _=_;rw[h.ls,hw];rfl
def Xo {s:Xs}{t:Ct}{S:List SV}{X:Xt}{v:SV}{e:Ek}{l:List Va}{b:Int}(h:gb s t S X pc ⟨4,a,b,vv⟩ v e st' l Y)(L:List Ek)(he:cN s.c t s.q ⟨4,a,b,vv⟩ (c9 v.st)=some L)(hel:e∈L):eA s t S ⟨4,a,b,vv⟩ e l Y:=by
 have he:(dj t.fields a).map (fun f=>[(([],[f.kind]):Ek)])=some L:=he;cases hk:dj t.fields a with
 |none=>rw[hk]at he;cases he
 |some k=>
 rw[hk]at he;obtain rfl:=Option.some.inj he;obtain rfl:=List.mem_singleton.1 hel;obtain⟨g1,g2,g3⟩:=jH hk;obtain⟨w,hw,hfv⟩:=h.g.fs.get (i:=a.toNat) (k:=k.kind) (by rw[lξ,g3];rfl);refine⟨_,rfl,(fo Y w,0),?_,fun _=>h.psh rfl hfv (aX rfl) (aX rfl) (aX rfl) (aX rfl) (aX rfl)⟩
 show(dj Y.fs a).map _=_;rw[h.fs];unfold dj;rw[if_pos g1,hw];rfl
def Xq {s:Xs}{t:Ct}{S:List SV}{X:Xt}{v:SV}{e:Ek}{l:List Va}{b:Int}(h:gb s t S X pc ⟨6,a,b,vv⟩ v e st' l Y)(L:List Ek)(he:cN s.c t s.q ⟨6,a,b,vv⟩ (c9 v.st)=some L)(hel:e∈L)(hky:s.ky.length<=32):eA s t S ⟨6,a,b,vv⟩ e l Y:=by
 obtain rfl:=Option.some.inj he;obtain rfl:=List.mem_singleton.1 hel;exact⟨_,rfl,_,rfl,fun _=>h.psh rfl (fv3.2 ⟨s.ky,rfl,by omega⟩) (aX rfl) (aX rfl) (aX rfl) (aX rfl) (aX rfl)⟩
def Xm {s:Xs}{t:Ct}{S:List SV}{X:Xt}{v:SV}{e:Ek}{l:List Va}{b:Int}(h:gb s t S X pc ⟨3,a,b,vv⟩ v e st' l Y)(L:List Ek)(he:cN s.c t s.q ⟨3,a,b,vv⟩ (c9 v.st)=some L)(hel:e∈L):eA s t S ⟨3,a,b,vv⟩ e l Y:=by
 have he:(dj s.q.locals a).map (fun k=>[(([k],[]):Ek)])=some L:=he;cases hk:dj s.q.locals a with
 |none=>rw[hk]at he;cases he
 |some k=>
 rw[hk]at he;obtain rfl:=Option.some.inj he;obtain rfl:=List.mem_singleton.1 hel;obtain⟨g1,g2,g3⟩:=jH hk;obtain⟨w,rfl,hw⟩:=uA h.l;have hlen:=h.hls.n;obtain⟨z,hz,-⟩:=iR (l:=X.ls) (x:=a) ⟨g1,by omega⟩
 refine⟨_,rfl,({Y with ls:=Y.ls.set a.toNat w},0),?_,fun _=>h.pop rfl (Z:={Y with ls:=Y.ls.set a.toNat w}) (h.nx (aX rfl) (aX rfl) (aX rfl) (aX rfl)) rfl ?_ ?_ ?_ h.dn⟩
 ·show(some w).bind _=_;rw[Option.bind_some,h.ls,hz];rfl
 ·show jF _ (v.set ||| 2 ^ a.toNat) (Y.ls.set a.toNat w);rw[h.ls];exact h.hls.set g3 hw
 ·show FvL _ Y.fs;rw[h.fs];exact h.g.fs
 ·show AS Y.es;rw[h.es];exact h.g.es
def Xp {s:Xs}{t:Ct}{S:List SV}{X:Xt}{v:SV}{e:Ek}{l:List Va}{b:Int}(h:gb s t S X pc ⟨5,a,b,vv⟩ v e st' l Y)(L:List Ek)(he:cN s.c t s.q ⟨5,a,b,vv⟩ (c9 v.st)=some L)(hel:e∈L):eA s t S ⟨5,a,b,vv⟩ e l Y:=by
 have he:(dj t.fields a).map (fun f=>[(([f.kind],[]):Ek)])=some L:=he;cases hk:dj t.fields a with
 |none=>rw[hk]at he;cases he
 |some k=>
 rw[hk]at he;obtain rfl:=Option.some.inj he;obtain rfl:=List.mem_singleton.1 hel;obtain⟨g1,g2,g3⟩:=jH hk;obtain⟨w,rfl,hw⟩:=uA h.l;obtain⟨z,hz,-⟩:=h.g.fs.get (i:=a.toNat) (k:=k.kind) (by rw[lξ,g3];rfl);refine⟨_,rfl,({Y with fs:=Y.fs.set a.toNat w},0),?_,fun _=>h.pop rfl (Z:={Y with fs:=Y.fs.set a.toNat w}) (h.nx (aX rfl) (aX rfl) (aX rfl) (aX rfl)) rfl ?_ ?_ ?_ h.dn⟩
 ·show(some w).bind _=_;rw[Option.bind_some,h.fs];unfold dj;rw[if_pos g1,hz];rfl
 ·rw[oo (aX rfl)];show jF _ _ Y.ls;rw[h.ls];exact h.hls
 ·show FvL _ (Y.fs.set a.toNat w);rw[h.fs];exact h.g.fs.set (by rw[lξ,g3];rfl) hw
 ·show AS Y.es;rw[h.es];exact h.g.es
def Xr {s:Xs}{t:Ct}{S:List SV}{X:Xt}{v:SV}{e:Ek}{l:List Va}{b:Int}(h:gb s t S X pc ⟨7,a,b,vv⟩ v e st' l Y)(L:List Ek)(he:cN s.c t s.q ⟨7,a,b,vv⟩ (c9 v.st)=some L)(hel:e∈L):eA s t S ⟨7,a,b,vv⟩ e l Y:=by
 obtain rfl:=Option.some.inj he;obtain rfl:=List.mem_singleton.1 hel;obtain⟨w,rfl,hw⟩:=uA h.l;exact⟨_,rfl,_,rfl,h.pshR rfl Yh (aX rfl) (aX rfl) (aX rfl) (aX rfl) (aX rfl)⟩
def Xu {s:Xs}{t:Ct}{S:List SV}{X:Xt}{v:SV}{e:Ek}{l:List Va}{b:Int}(h:gb s t S X pc ⟨8,a,b,vv⟩ v e st' l Y)(L:List Ek)(he:cN s.c t s.q ⟨8,a,b,vv⟩ (c9 v.st)=some L)(hel:e∈L):eA s t S ⟨8,a,b,vv⟩ e l Y:=by
 obtain rfl:=Option.some.inj he;obtain rfl:=List.mem_singleton.1 hel;obtain⟨w,rfl,hw⟩:=uA h.l;exact⟨_,rfl,_,rfl,h.pshR rfl Yi (aX rfl) (aX rfl) (aX rfl) (aX rfl) (aX rfl)⟩
def Xv {s:Xs}{t:Ct}{S:List SV}{X:Xt}{v:SV}{e:Ek}{l:List Va}{b:Int}(h:gb s t S X pc ⟨9,a,b,vv⟩ v e st' l Y)(L:List Ek)(he:cN s.c t s.q ⟨9,a,b,vv⟩ (c9 v.st)=some L)(hel:e∈L):eA s t S ⟨9,a,b,vv⟩ e l Y:=by
 obtain rfl:=Option.some.inj he;obtain rfl:=List.mem_singleton.1 hel;obtain⟨w,z,rfl,hw,hz⟩:=jL h.l;exact⟨_,rfl,_,rfl,h.pshR rfl (Ci _ (.inl rfl) hw) (aX rfl) (aX rfl) (aX rfl) (aX rfl) (aX rfl)⟩
def Tw {s:Xs}{t:Ct}{S:List SV}{X:Xt}{v:SV}{e:Ek}{l:List Va}{b:Int}(h:gb s t S X pc ⟨11,a,b,vv⟩ v e st' l Y)(L:List Ek)(he:cN s.c t s.q ⟨11,a,b,vv⟩ (c9 v.st)=some L)(hel:e∈L):eA s t S ⟨11,a,b,vv⟩ e l Y:=by
 obtain rfl:=Option.some.inj he;obtain rfl:=List.mem_singleton.1 hel;obtain⟨w,z,rfl,hw,hz⟩:=jL h.l;exact⟨_,rfl,_,rfl,h.pshR rfl (Ci _ (.inr (.inl rfl)) hw) (aX rfl) (aX rfl) (aX rfl) (aX rfl) (aX rfl)⟩
def Tx {s:Xs}{t:Ct}{S:List SV}{X:Xt}{v:SV}{e:Ek}{l:List Va}{b:Int}(h:gb s t S X pc ⟨12,a,b,vv⟩ v e st' l Y)(L:List Ek)(he:cN s.c t s.q ⟨12,a,b,vv⟩ (c9 v.st)=some L)(hel:e∈L):eA s t S ⟨12,a,b,vv⟩ e l Y:=by
 obtain rfl:=Option.some.inj he;obtain rfl:=List.mem_singleton.1 hel;obtain⟨w,z,rfl,hw,hz⟩:=jL h.l;exact⟨_,rfl,_,rfl,h.pshR rfl (Ci _ (.inr (.inr (.inl rfl))) hw) (aX rfl) (aX rfl) (aX rfl) (aX rfl) (aX rfl)⟩
def Tz {s:Xs}{t:Ct}{S:List SV}{X:Xt}{v:SV}{e:Ek}{l:List Va}{b:Int}(h:gb s t S X pc ⟨13,a,b,vv⟩ v e st' l Y)(L:List Ek)(he:cN s.c t s.q ⟨13,a,b,vv⟩ (c9 v.st)=some L)(hel:e∈L):eA s t S ⟨13,a,b,vv⟩ e l Y:=by
 obtain rfl:=Option.some.inj he;obtain rfl:=List.mem_singleton.1 hel;obtain⟨w,z,rfl,hw,hz⟩:=jL h.l;exact⟨_,rfl,_,rfl,h.pshR rfl (Ci _ (.inr (.inr (.inr (.inl rfl)))) hw) (aX rfl) (aX rfl) (aX rfl) (aX rfl) (aX rfl)⟩
def TA {s:Xs}{t:Ct}{S:List SV}{X:Xt}{v:SV}{e:Ek}{l:List Va}{b:Int}(h:gb s t S X pc ⟨14,a,b,vv⟩ v e st' l Y)(L:List Ek)(he:cN s.c t s.q ⟨14,a,b,vv⟩ (c9 v.st)=some L)(hel:e∈L):eA s t S ⟨14,a,b,vv⟩ e l Y:=by
 obtain rfl:=Option.some.inj he;obtain rfl:=List.mem_singleton.1 hel;obtain⟨w,z,rfl,hw,hz⟩:=jL h.l;exact⟨_,rfl,_,rfl,h.pshR rfl (Ci _ (.inr (.inr (.inr (.inr rfl)))) hw) (aX rfl) (aX rfl) (aX rfl) (aX rfl) (aX rfl)⟩
def Tv {s:Xs}{t:Ct}{S:List SV}{X:Xt}{v:SV}{e:Ek}{l:List Va}{b:Int}(h:gb s t S X pc ⟨10,a,b,vv⟩ v e st' l Y)(L:List Ek)(he:cN s.c t s.q ⟨10,a,b,vv⟩ (c9 v.st)=some L)(hel:e∈L):eA s t S ⟨10,a,b,vv⟩ e l Y:=by
 obtain rfl:=Option.some.inj he;obtain rfl:=List.mem_singleton.1 hel;obtain⟨w,z,rfl,hw,hz⟩:=jL h.l;exact⟨_,rfl,_,rfl,h.pshR rfl (Wu hw hz) (aX rfl) (aX rfl) (aX rfl) (aX rfl) (aX rfl)⟩
def TB {s:Xs}{t:Ct}{S:List SV}{X:Xt}{v:SV}{e:Ek}{l:List Va}{b:Int}(h:gb s t S X pc ⟨15,a,b,vv⟩ v e st' l Y)(L:List Ek)(he:cN s.c t s.q ⟨15,a,b,vv⟩ (c9 v.st)=some L)(hel:e∈L):eA s t S ⟨15,a,b,vv⟩ e l Y:=by
 obtain rfl:=Option.some.inj he;obtain rfl:=List.mem_singleton.1 hel;obtain⟨w,z,rfl,hw,hz⟩:=jL h.l;exact⟨_,rfl,_,rfl,h.pshR rfl (jJ _ (.inl rfl)) (aX rfl) (aX rfl) (aX rfl) (aX rfl) (aX rfl)⟩
def TC {s:Xs}{t:Ct}{S:List SV}{X:Xt}{v:SV}{e:Ek}{l:List Va}{b:Int}(h:gb s t S X pc ⟨16,a,b,vv⟩ v e st' l Y)(L:List Ek)(he:cN s.c t s.q ⟨16,a,b,vv⟩ (c9 v.st)=some L)(hel:e∈L):eA s t S ⟨16,a,b,vv⟩ e l Y:=by
 obtain rfl:=Option.some.inj he;obtain rfl:=List.mem_singleton.1 hel;obtain⟨w,z,rfl,hw,hz⟩:=jL h.l;exact⟨_,rfl,_,rfl,h.pshR rfl (jJ _ (.inr (.inl rfl))) (aX rfl) (aX rfl) (aX rfl) (aX rfl) (aX rfl)⟩
def TD {s:Xs}{t:Ct}{S:List SV}{X:Xt}{v:SV}{e:Ek}{l:List Va}{b:Int}(h:gb s t S X pc ⟨17,a,b,vv⟩ v e st' l Y)(L:List Ek)(he:cN s.c t s.q ⟨17,a,b,vv⟩ (c9 v.st)=some L)(hel:e∈L):eA s t S ⟨17,a,b,vv⟩ e l Y:=by
 obtain rfl:=Option.some.inj he;simp only[lω,List.not_mem_nil,or_false]at hel;rcases hel with rfl|rfl
 ·obtain⟨w,z,rfl,hw,hz⟩:=jL h.l;exact⟨_,rfl,_,rfl,h.pshR rfl (jJ _ (.inr (.inr (.inl rfl)))) (aX rfl) (aX rfl) (aX rfl) (aX rfl) (aX rfl)⟩
 ·obtain⟨w,z,rfl,hw,hz⟩:=jL h.l;exact⟨_,rfl,_,rfl,h.pshR rfl (jJ _ (.inr (.inr (.inl rfl)))) (aX rfl) (aX rfl) (aX rfl) (aX rfl) (aX rfl)⟩
def TE {s:Xs}{t:Ct}{S:List SV}{X:Xt}{v:SV}{e:Ek}{l:List Va}{b:Int}(h:gb s t S X pc ⟨18,a,b,vv⟩ v e st' l Y)(L:List Ek)(he:cN s.c t s.q ⟨18,a,b,vv⟩ (c9 v.st)=some L)(hel:e∈L):eA s t S ⟨18,a,b,vv⟩ e l Y:=by
 obtain rfl:=Option.some.inj he;simp only[lω,List.not_mem_nil,or_false]at hel;rcases hel with rfl|rfl
 ·obtain⟨w,z,rfl,hw,hz⟩:=jL h.l;exact⟨_,rfl,_,rfl,h.pshR rfl (jJ _ (.inr (.inr (.inr (.inl rfl))))) (aX rfl) (aX rfl) (aX rfl) (aX rfl) (aX rfl)⟩
 ·obtain⟨w,z,rfl,hw,hz⟩:=jL h.l;exact⟨_,rfl,_,rfl,h.pshR rfl (jJ _ (.inr (.inr (.inr (.inl rfl))))) (aX rfl) (aX rfl) (aX rfl) (aX rfl) (aX rfl)⟩
def TF {s:Xs}{t:Ct}{S:List SV}{X:Xt}{v:SV}{e:Ek}{l:List Va}{b:Int}(h:gb s t S X pc ⟨19,a,b,vv⟩ v e st' l Y)(L:List Ek)(he:cN s.c t s.q ⟨19,a,b,vv⟩ (c9 v.st)=some L)(hel:e∈L):eA s t S ⟨19,a,b,vv⟩ e l Y:=by
 obtain rfl:=Option.some.inj he;simp only[lω,List.not_mem_nil,or_false]at hel;rcases hel with rfl|rfl
 ·obtain⟨w,z,rfl,hw,hz⟩:=jL h.l;exact⟨_,rfl,_,rfl,h.pshR rfl (jJ _ (.inr (.inr (.inr (.inr (.inl rfl)))))) (aX rfl) (aX rfl) (aX rfl) (aX rfl) (aX rfl)⟩
 ·obtain⟨w,z,rfl,hw,hz⟩:=jL h.l;exact⟨_,rfl,_,rfl,h.pshR rfl (jJ _ (.inr (.inr (.inr (.inr (.inl rfl)))))) (aX rfl) (aX rfl) (aX rfl) (aX rfl) (aX rfl)⟩
def TG {s:Xs}{t:Ct}{S:List SV}{X:Xt}{v:SV}{e:Ek}{l:List Va}{b:Int}(h:gb s t S X pc ⟨20,a,b,vv⟩ v e st' l Y)(L:List Ek)(he:cN s.c t s.q ⟨20,a,b,vv⟩ (c9 v.st)=some L)(hel:e∈L):eA s t S ⟨20,a,b,vv⟩ e l Y:=by
 obtain rfl:=Option.some.inj he;simp only[lω,List.not_mem_nil,or_false]at hel;rcases hel with rfl|rfl
 ·obtain⟨w,z,rfl,hw,hz⟩:=jL h.l;exact⟨_,rfl,_,rfl,h.pshR rfl (jJ _ (.inr (.inr (.inr (.inr (.inr (rfl))))))) (aX rfl) (aX rfl) (aX rfl) (aX rfl) (aX rfl)⟩
 ·obtain⟨w,z,rfl,hw,hz⟩:=jL h.l;exact⟨_,rfl,_,rfl,h.pshR rfl (jJ _ (.inr (.inr (.inr (.inr (.inr (rfl))))))) (aX rfl) (aX rfl) (aX rfl) (aX rfl) (aX rfl)⟩
def TH {s:Xs}{t:Ct}{S:List SV}{X:Xt}{v:SV}{e:Ek}{l:List Va}{b:Int}(h:gb s t S X pc ⟨21,a,b,vv⟩ v e st' l Y)(L:List Ek)(he:cN s.c t s.q ⟨21,a,b,vv⟩ (c9 v.st)=some L)(hel:e∈L):eA s t S ⟨21,a,b,vv⟩ e l Y:=by
 obtain rfl:=Option.some.inj he;simp only[lω,List.not_mem_nil,or_false]at hel;rcases hel with rfl|rfl|rfl
 ·obtain⟨w,rfl,hw⟩:=uA h.l;obtain⟨r,hr,hg⟩:=FH hw;exact⟨_,rfl,eF r Y,by show(jh _ _).map _=_;rw[hr];rfl,h.pshR rfl hg (aX rfl) (aX rfl) (aX rfl) (aX rfl) (aX rfl)⟩
 ·obtain⟨w,rfl,hw⟩:=uA h.l;obtain⟨r,hr,hg⟩:=FH hw;exact⟨_,rfl,eF r Y,by show(jh _ _).map _=_;rw[hr];rfl,h.pshR rfl hg (aX rfl) (aX rfl) (aX rfl) (aX rfl) (aX rfl)⟩
 ·obtain⟨w,rfl,hw⟩:=uA h.l;obtain⟨r,hr,hg⟩:=FH hw;exact⟨_,rfl,eF r Y,by show(jh _ _).map _=_;rw[hr];rfl,h.pshR rfl hg (aX rfl) (aX rfl) (aX rfl) (aX rfl) (aX rfl)⟩
def TI {s:Xs}{t:Ct}{S:List SV}{X:Xt}{v:SV}{e:Ek}{l:List Va}{b:Int}(h:gb s t S X pc ⟨22,a,b,vv⟩ v e st' l Y)(L:List Ek)(he:cN s.c t s.q ⟨22,a,b,vv⟩ (c9 v.st)=some L)(hel:e∈L):eA s t S ⟨22,a,b,vv⟩ e l Y:=by
 obtain rfl:=Option.some.inj he;simp only[lω,List.not_mem_nil,or_false]at hel;rcases hel with rfl|rfl
 ·obtain⟨w,z,rfl,hw,hz⟩:=jL h.l;obtain⟨r,hr,hg⟩:=Wv hw hz;exact⟨_,rfl,eF r Y,by show(jh _ _).map _=_;rw[hr];rfl,h.pshR rfl hg (aX rfl) (aX rfl) (aX rfl) (aX rfl) (aX rfl)⟩
 ·obtain⟨w,z,rfl,hw,hz⟩:=jL h.l;obtain⟨r,hr,hg⟩:=Ww hw hz;exact⟨_,rfl,eF r Y,by show(jh _ _).map _=_;rw[hr];rfl,h.pshR rfl hg (aX rfl) (aX rfl) (aX rfl) (aX rfl) (aX rfl)⟩
def TJ {s:Xs}{t:Ct}{S:List SV}{X:Xt}{v:SV}{e:Ek}{l:List Va}{b:Int}(h:gb s t S X pc ⟨23,a,b,vv⟩ v e st' l Y)(L:List Ek)(he:cN s.c t s.q ⟨23,a,b,vv⟩ (c9 v.st)=some L)(hel:e∈L):eA s t S ⟨23,a,b,vv⟩ e l Y:=by
 obtain rfl:=Option.some.inj he;simp only[lω,List.not_mem_nil,or_false]at hel;rcases hel with rfl|rfl
 ·obtain⟨w,z,rfl,hw,hz⟩:=jL h.l;obtain⟨r,hr,hg⟩:=Sk hw hz;exact⟨_,rfl,eF r Y,by show(jh _ _).map _=_;rw[hr];rfl,h.pshR rfl hg (aX rfl) (aX rfl) (aX rfl) (aX rfl) (aX rfl)⟩
 ·obtain⟨w,z,rfl,hw,hz⟩:=jL h.l;obtain⟨r,hr,hg⟩:=Sl hw hz;exact⟨_,rfl,eF r Y,by show(jh _ _).map _=_;rw[hr];rfl,h.pshR rfl hg (aX rfl) (aX rfl) (aX rfl) (aX rfl) (aX rfl)⟩
def TK {s:Xs}{t:Ct}{S:List SV}{X:Xt}{v:SV}{e:Ek}{l:List Va}{b:Int}(h:gb s t S X pc ⟨24,a,b,vv⟩ v e st' l Y)(L:List Ek)(he:cN s.c t s.q ⟨24,a,b,vv⟩ (c9 v.st)=some L)(hel:e∈L):eA s t S ⟨24,a,b,vv⟩ e l Y:=by
 obtain rfl:=Option.some.inj he;simp only[lω,List.not_mem_nil,or_false]at hel;rcases hel with rfl|rfl
 ·obtain⟨w,z,q,rfl,hw,hz,hq⟩:=Xh h.l;obtain⟨r,hr,hg⟩:=Sm hw hz hq;exact⟨_,rfl,eF r Y,by show(jh _ _).map _=_;rw[hr];rfl,h.pshR rfl hg (aX rfl) (aX rfl) (aX rfl) (aX rfl) (aX rfl)⟩
 ·obtain⟨w,z,q,rfl,hw,hz,hq⟩:=Xh h.l;obtain⟨r,hr,hg⟩:=Sn hw hz hq;exact⟨_,rfl,eF r Y,by show(jh _ _).map _=_;rw[hr];rfl,h.pshR rfl hg (aX rfl) (aX rfl) (aX rfl) (aX rfl) (aX rfl)⟩
def TL {s:Xs}{t:Ct}{S:List SV}{X:Xt}{v:SV}{e:Ek}{l:List Va}{b:Int}(h:gb s t S X pc ⟨25,a,b,vv⟩ v e st' l Y)(L:List Ek)(he:cN s.c t s.q ⟨25,a,b,vv⟩ (c9 v.st)=some L)(hel:e∈L):eA s t S ⟨25,a,b,vv⟩ e l Y:=by
 obtain rfl:=Option.some.inj he;obtain rfl:=List.mem_singleton.1 hel
 ·obtain⟨w,rfl,hw⟩:=uA h.l;obtain⟨r,hr,hg⟩:=Wy hw;exact⟨_,rfl,eF r Y,by show(jh _ _).map _=_;rw[hr];rfl,h.pshR rfl hg (aX rfl) (aX rfl) (aX rfl) (aX rfl) (aX rfl)⟩
def TM {s:Xs}{t:Ct}{S:List SV}{X:Xt}{v:SV}{e:Ek}{l:List Va}{b:Int}(h:gb s t S X pc ⟨26,a,b,vv⟩ v e st' l Y)(L:List Ek)(he:cN s.c t s.q ⟨26,a,b,vv⟩ (c9 v.st)=some L)(hel:e∈L):eA s t S ⟨26,a,b,vv⟩ e l Y:=by
 obtain rfl:=Option.some.inj he;obtain rfl:=List.mem_singleton.1 hel;have hi:fD a 17=true:=jO h.hin;have hr:0<=a/\a<17:=EJ (n:=17) hi;have hl:=h.l.len;rw[mμ]at hl;have hl:l.length=a.toNat:=hl;obtain⟨r,hr2,hg⟩:=So (by omega) h.l.same;refine⟨fun l X=>(jh [105,110,116,115] l).map fun r=>eF r X,?_,eF r Y,by show(jh _ _).map _=_;rw[hr2];rfl,h.pshR rfl hg (aX rfl) (aX rfl) (aX rfl) (aX rfl) (aX rfl)⟩
 show Gb s _=some (((List.replicate a.toNat _).length:Int),_);rw[mμ,mσ hr.1];rfl
def TN {s:Xs}{t:Ct}{S:List SV}{X:Xt}{v:SV}{e:Ek}{l:List Va}{b:Int}(h:gb s t S X pc ⟨27,a,b,vv⟩ v e st' l Y)(L:List Ek)(he:cN s.c t s.q ⟨27,a,b,vv⟩ (c9 v.st)=some L)(hel:e∈L):eA s t S ⟨27,a,b,vv⟩ e l Y:=by
 obtain rfl:=Option.some.inj he;obtain rfl:=List.mem_singleton.1 hel;have hi:fD a 17=true:=jO h.hin;have hr:0<=a/\a<17:=EJ (n:=17) hi;have hl:=h.l.len;rw[mμ]at hl;have hl:l.length=a.toNat:=hl;obtain⟨r,hr2,hg⟩:=FI (by omega) h.l.same;refine⟨fun l X=>(jh [115,116,114,105,110,103,115] l).map fun r=>eF r X,?_,eF r Y,by show(jh _ _).map _=_;rw[hr2];rfl,h.pshR rfl hg (aX rfl) (aX rfl) (aX rfl) (aX rfl) (aX rfl)⟩
 show Gb s _=some (((List.replicate a.toNat _).length:Int),_);rw[mμ,mσ hr.1];rfl
end
section
def AM (c:Nat)(o:Option (Ef×Int)):Prop:=∃r,o=some r/\(r.2=0->VX r.1/\c<16)
def gt {c:Nat}{b:Bool}{A B:Option (Ef×Int)}(h:b=true->AM c A)(g:b=false->AM c B):AM c (bif b then A else B):=by cases b;exact g rfl;exact h rfl
def gu {c:Nat}{e:Int}(h:e≠0):AM c (some (LW,e)):=⟨_,rfl,fun g=>absurd g h⟩
def Gs {s:LN}(h:cg s []=false)(g:aG 32 (s.length:Int)=false):1<=s.length/\s.length<=32:=by
 rw[ma,lζ]at h;rw[bX,lζ]at g;cases s with
 |nil=>exact absurd rfl h
 |cons a r=>simp only[List.length_cons]at g ⊢;omega
variable {w:Va}
def YC {z:Va}(c:Nat)(hw:Fv 3 w):AM c (oJ 1 [w,z] c):=by
 refine gt (fun _=>gu (aX rfl)) fun h1=>?_
 refine gt (fun _=>gu (aX rfl)) fun h2=>?_
 refine gt (fun _=>gu (aX rfl)) fun h3=>?_
 rw[bj,lζ]at h1;exact⟨(⟨1,w.s,z.n,0⟩,0),rfl,fun _=>⟨⟨⟨by show(1:Int)<=1;omega,by show(1:Int)<=3;omega⟩,Gs h2 h3,(fun h=>absurd h (aX rfl)),(fun h=>absurd h (aX rfl))⟩,by omega⟩⟩
def YD {z u:Va}(c:Nat)(hw:Fv 3 w):AM c (oJ 2 [w,z,u] c):=by
 refine gt (fun _=>gu (aX rfl)) fun h1=>?_
 refine gt (fun _=>gu (aX rfl)) fun h2=>?_
 refine gt (fun _=>gu (aX rfl)) fun h3=>?_
 rw[bj,lζ]at h1;show AM c (bif aG z.n 1 then some (LW,5)else bif aG 1073741824 z.n then some (LW,5)else bif aG u.n 1 then some (LW,5)else bif aG 1073741824 u.n then some (LW,5)else some (⟨2,w.s,z.n,u.n⟩,0));refine gt (fun _=>gu (aX rfl)) fun h4=>?_
 refine gt (fun _=>gu (aX rfl)) fun h5=>?_
 refine gt (fun _=>gu (aX rfl)) fun h6=>?_
 refine gt (fun _=>gu (aX rfl)) fun h7=>?_
 rw[bX,lζ]at h4 h6;exact⟨_,rfl,fun _=>⟨⟨⟨by show(1:Int)<=2;omega,by show(2:Int)<=3;omega⟩,Gs h2 h3,(fun _=>⟨by show 1<=z.n;omega,by show 1<=u.n;omega⟩),(fun h=>absurd h (aX rfl))⟩,by omega⟩⟩
def YE (c:Nat)(hw:Fv 3 w):AM c (oJ 3 [w] c):=by
 refine gt (fun _=>gu (aX rfl)) fun h1=>?_
 refine gt (fun _=>gu (aX rfl)) fun h2=>?_
 refine gt (fun _=>gu (aX rfl)) fun h3=>?_
 rw[bj,lζ]at h1;exact⟨(⟨3,w.s,0,0⟩,0),rfl,fun _=>⟨⟨⟨by show(1:Int)<=3;omega,by show(3:Int)<=3;omega⟩,Gs h2 h3,(fun h=>absurd h (aX rfl)),(fun _=>⟨rfl,rfl⟩)⟩,by omega⟩⟩
section
variable {s:Xs} {t:Ct} {S:List SV} {X:Xt} {pc:Nat} {v:SV} {e:Ek} {st':LI} {l:List Va} {Y:Xt} {a b:Int} {vv:Va}
def TO (h:gb s t S X pc ⟨28,a,b,vv⟩ v e st' l Y)(L:List Ek)(he:cN s.c t s.q ⟨28,a,b,vv⟩ (c9 v.st)=some L)(hel:e∈L):eA s t S ⟨28,a,b,vv⟩ e l Y:=by
 obtain rfl:=Option.some.inj he;obtain rfl:=List.mem_singleton.1 hel;obtain rfl:l=[]:=lη h.l.len;refine⟨_,rfl,({Y with pc:=a},0),rfl,fun _=>h.pop rfl (Z:={Y with pc:=a}) (List.mem_singleton.2 rfl) rfl ?_ ?_ ?_ h.dn⟩
 ·rw[oo (aX rfl)];show jF _ _ Y.ls;rw[h.ls];exact h.hls
 ·show FvL _ Y.fs;rw[h.fs];exact h.g.fs
 ·show AS Y.es;rw[h.es];exact h.g.es
def TP (h:gb s t S X pc ⟨29,a,b,vv⟩ v e st' l Y)(L:List Ek)(he:cN s.c t s.q ⟨29,a,b,vv⟩ (c9 v.st)=some L)(hel:e∈L):eA s t S ⟨29,a,b,vv⟩ e l Y:=by
 obtain rfl:=Option.some.inj he;obtain rfl:=List.mem_singleton.1 hel;obtain⟨w,rfl,hw⟩:=uA h.l;have h2:=h.s2;have hsu:(eM s.q pc ⟨29,a,b,vv⟩).1=[((pc+1:Nat):Int),a]:=by
  have e1:eM s.q pc ⟨29,a,b,vv⟩=bif decide (pc+1=s.q.code.length)then([],false)else([((pc+1:Nat):Int),a],true):=rfl
  rw[e1]at h2 ⊢
  revert h2
  cases decide (pc+1=s.q.code.length)with
  |true=>intro h;cases h
  |false=>intro _;rfl
 have q1:jF s.q.locals (lA ⟨29,a,b,vv⟩ v.set) Y.ls:=by rw[oo (aX rfl),h.ls];exact h.hls
 have q2:FvL (t.fields.map Fe.kind) Y.fs:=by rw[h.fs];exact h.g.fs
 have q3:AS Y.es:=by rw[h.es];exact h.g.es
 refine⟨_,rfl,Gc ⟨29,a,b,vv⟩ [w] Y,rfl,fun _=>?_⟩
 have e2:Gc ⟨29,a,b,vv⟩ [w] Y=bif az w.n 0 then({Y with pc:=a},0)else(Y,0):=rfl
 rw[e2];cases az w.n 0 with
 |true=>exact h.pop rfl (Z:={Y with pc:=a}) (by rw[hsu];exact mα _ lυ) rfl q1 q2 q3 h.dn
 |false=>exact h.pop rfl (Z:=Y) (by rw[hsu,h.pcN];exact lυ) rfl q1 q2 q3 h.dn
def gb.out (h:gb s t S X pc ⟨30,a,b,vv⟩ v e st' l Y\/gb s t S X pc ⟨32,a,b,vv⟩ v e st' l Y){Z:Xt}(hfs:Z.fs=X.fs)(hes:Z.es=X.es)(hls:Z.ls=X.ls)(hst:Z.st=[])(hpc:Z.pc=((pc+1:Nat):Int))(hd:Z.done=true)(ho:UX s S Z):Gd s t S Z:=by
 have k:Gd s t S X/\s.q.code[pc]?≠none/\s.q.code.length<1501:=by
  rcases h with h|h
  ·exact⟨h.g,by rw[h.hc];simp,h.hx.f.z.c⟩
  ·exact⟨h.g,by rw[h.hc];simp,h.hx.f.z.c⟩
 obtain⟨g,k2,k3⟩:=k;have hp:pc<s.q.code.length:=by
  by_cases hh:pc<s.q.code.length
  ·exact hh
  ·exact absurd (lτ (by omega)) k2
 refine⟨by rw[hfs];exact g.fs,by rw[hes];exact g.es,by rw[hls];exact g.ls,by rw[hst];simp,by rw[hpc];omega,(fun h=>by rw[hd]at h;cases h),fun _=>ho⟩
def TQ (h:gb s t S X pc ⟨30,a,b,vv⟩ v e st' l Y)(L:List Ek)(he:cN s.c t s.q ⟨30,a,b,vv⟩ (c9 v.st)=some L)(hel:e∈L):eA s t S ⟨30,a,b,vv⟩ e l Y:=by
 have he:(fA s.c a b).map (fun q=>[((3::q.params,lz q):Ek)])=some L:=he;cases hq:fA s.c a b with
 |none=>rw[hq]at he;cases he
 |some q=>
 rw[hq]at he;obtain rfl:=Option.some.inj he;obtain rfl:=List.mem_singleton.1 hel;refine⟨Kh s ⟨30,a,b,vv⟩,?_,?_⟩
 ·show(fA s.c a b).map _=_;rw[hq];show some ((1+(q.params.length:Int)),_)=some (((q.params.length+1:Nat):Int),_);rw[show(1+(q.params.length:Int))=((q.params.length+1:Nat):Int) by omega]
 match l,h with
 |w::r,h=>
 have hw:=h.l.1;have hr:FvL q.params r:=h.l.2;unfold fA at hq;cases ht:dj s.c a with
 |none=>rw[ht]at hq;cases hq
 |some u=>
 rw[ht,Option.bind_some]at hq;have e1:Kh s ⟨30,a,b,vv⟩ (w::r) Y=bif aG 32 (w.s.length:Int)then some (Y,5)else(dj s.c a).bind fun t=>(dj t.methods b).map fun q=>({Y with done:=true,ok:=2,ov:=v0,tT:=t.name,tK:=w.s,mn:=q.name,ar:=r,fu:=0},0):=rfl
 rw[e1];cases h5:aG 32 (w.s.length:Int)with
 |true=>exact⟨_,rfl,fun h=>absurd h (aX rfl)⟩
 |false=>
  rw[cond_false,ht,Option.bind_some,hq];refine⟨_,rfl,fun _=>?_⟩
  rw[bX,lζ]at h5;obtain⟨K0,k1,k2,k3⟩:=h.st;obtain⟨k4,k5⟩:=k3 (.inl rfl);have hp1:((pc+1:Nat):Int)∈(eM s.q pc ⟨30,a,b,vv⟩).1:=by
   rw[QI h.s2 (aX rfl) (aX rfl) (aX rfl) (aX rfl)];exact List.mem_singleton.2 rfl
  obtain⟨z,hz,-,hzs,hzb⟩:=h.to _ hp1;rw[oo (aX rfl)]at hzb;refine gb.out (.inl h) h.fs h.es h.ls k4 h.pcN rfl (.inr ⟨rfl,rfl,pc,_,z,u,q,h.pcN,h.hc,rfl,hz,?_,ht,hq,rfl,rfl,by show w.s.length<=32;omega,hr⟩);show jF _ _ Y.ls;rw[h.ls];exact h.hls.sub hzb
def TR (h:gb s t S X pc ⟨31,a,b,vv⟩ v e st' l Y)(L:List Ek)(he:cN s.c t s.q ⟨31,a,b,vv⟩ (c9 v.st)=some L)(hel:e∈L):eA s t S ⟨31,a,b,vv⟩ e l Y:=by
 obtain rfl:=Option.some.inj he;obtain rfl:=List.mem_singleton.1 hel;refine⟨_,rfl,(Y,0),rfl,fun _=>h.pop rfl (Z:=Y) (h.nx (aX rfl) (aX rfl) (aX rfl) (aX rfl)) rfl ?_ ?_ ?_ h.dn⟩
 ·rw[oo (aX rfl),h.ls];exact h.hls
 ·rw[h.fs];exact h.g.fs
 ·rw[h.es];exact h.g.es
def TS (h:gb s t S X pc ⟨32,a,b,vv⟩ v e st' l Y)(L:List Ek)(he:cN s.c t s.q ⟨32,a,b,vv⟩ (c9 v.st)=some L)(hel:e∈L):eA s t S ⟨32,a,b,vv⟩ e l Y:=by
 obtain rfl:=Option.some.inj he;obtain rfl:=List.mem_singleton.1 hel;obtain⟨K0,k1,k2,k3⟩:=h.st;obtain⟨k4,k5⟩:=k3 (.inr rfl);have hl:FvL (lz s.q) l:=h.l;refine⟨fun l X=>some (Px l X,0),?_,(Px l Y,0),rfl,fun _=>gb.out (.inr h) h.fs h.es h.ls k4 h.pcN rfl (.inl ⟨rfl,?_,rfl⟩)⟩
 ·show some (Qv s.q,_)=some (((lz s.q).length:Int),_);unfold Qv lz;cases az s.q.res 0<;>rfl
 ·show Fv s.q.res (l.headD v0);unfold lz at hl;cases hr:az s.q.res 0 with
  |true=>
   rw[hr]at hl;obtain rfl:l=[]:=lη hl.len;rw[eqI_t.1 hr];exact(k6 0 v0).2 ⟨⟨rfl,by omega,.inl rfl,.inl rfl,.inl rfl,.inl rfl,by simp[v0],by simp[v0],by simp[v0],by simp[v0]⟩,EK,by simp[v0]⟩
  |false=>
   rw[hr]at hl;obtain⟨w,rfl,hw⟩:=uA hl;exact hw
def TT (h:gb s t S X pc ⟨33,a,b,vv⟩ v e st' l Y)(L:List Ek)(he:cN s.c t s.q ⟨33,a,b,vv⟩ (c9 v.st)=some L)(hel:e∈L):eA s t S ⟨33,a,b,vv⟩ e l Y:=by
 obtain rfl:=Option.some.inj he;obtain rfl:=List.mem_singleton.1 hel;exact⟨_,rfl,(Y,26),rfl,fun h=>absurd h (aX rfl)⟩
def TU (h:gb s t S X pc ⟨34,a,b,vv⟩ v e st' l Y)(L:List Ek)(he:cN s.c t s.q ⟨34,a,b,vv⟩ (c9 v.st)=some L)(hel:e∈L):eA s t S ⟨34,a,b,vv⟩ e l Y:=by
 obtain rfl:=Option.some.inj he;obtain rfl:=List.mem_singleton.1 hel;obtain⟨w,z,rfl,hw,hz⟩:=jL h.l;obtain⟨r,hr,hg⟩:=YC (z:=z) Y.es.length hw;exact⟨_,rfl,sk r Y,by show(oJ 1 [w,z] Y.es.length).map _=_;rw[hr];rfl,h.ask rfl (aX rfl) (aX rfl) (aX rfl) (aX rfl) (aX rfl) hg⟩
def TV (h:gb s t S X pc ⟨35,a,b,vv⟩ v e st' l Y)(L:List Ek)(he:cN s.c t s.q ⟨35,a,b,vv⟩ (c9 v.st)=some L)(hel:e∈L):eA s t S ⟨35,a,b,vv⟩ e l Y:=by
 obtain rfl:=Option.some.inj he;obtain rfl:=List.mem_singleton.1 hel;obtain⟨w,z,u,rfl,hw,hz,hu⟩:=Xh h.l;obtain⟨r,hr,hg⟩:=YD (z:=z) (u:=u) Y.es.length hw;exact⟨_,rfl,sk r Y,by show(oJ 2 [w,z,u] Y.es.length).map _=_;rw[hr];rfl,h.ask rfl (aX rfl) (aX rfl) (aX rfl) (aX rfl) (aX rfl) hg⟩
def TW (h:gb s t S X pc ⟨36,a,b,vv⟩ v e st' l Y)(L:List Ek)(he:cN s.c t s.q ⟨36,a,b,vv⟩ (c9 v.st)=some L)(hel:e∈L):eA s t S ⟨36,a,b,vv⟩ e l Y:=by
 obtain rfl:=Option.some.inj he;obtain rfl:=List.mem_singleton.1 hel;obtain⟨w,rfl,hw⟩:=uA h.l;obtain⟨r,hr,hg⟩:=YE Y.es.length hw;exact⟨_,rfl,sk r Y,by show(oJ 3 [w] Y.es.length).map _=_;rw[hr];rfl,h.ask rfl (aX rfl) (aX rfl) (aX rfl) (aX rfl) (aX rfl) hg⟩
end
end
def PH {s:Xs}{t:Ct}{S:List SV}{X:Xt}{x:Cd}{v:SV}{e:Ek}{st':LI}{l2:List Va}{Y:Xt}(hs:gb s t S X pc x v e st' l2 Y)(hky:s.ky.length<=32)(l:List Ek)(he:cN s.c t s.q x (c9 v.st)=some l)(hel:e∈l):eA s t S x e l2 Y:=by
 obtain⟨op,a,b,vv⟩:=x;have ho:1<=op/\op<=36:=XC hs.hin;have hc:op=1\/op=2\/op=3\/op=4\/op=5\/op=6\/op=7\/op=8\/op=9\/op=10\/op=11\/op=12\/op=13\/op=14\/op=15\/op=16\/op=17\/op=18\/op=19\/op=20\/op=21\/op=22\/op=23\/op=24\/op=25\/op=26\/op=27\/op=28\/op=29\/op=30\/op=31\/op=32\/op=33\/op=34\/op=35\/op=36:=by omega
 rcases hc with rfl|rfl|rfl|rfl|rfl|rfl|rfl|rfl|rfl|rfl|rfl|rfl|rfl|rfl|rfl|rfl|rfl|rfl|rfl|rfl|rfl|rfl|rfl|rfl|rfl|rfl|rfl|rfl|rfl|rfl|rfl|rfl|rfl|rfl|rfl|rfl
 ·exact Xk hs l he hel
 ·exact Xl hs l he hel
 ·exact Xm hs l he hel
 ·exact Xo hs l he hel
 ·exact Xp hs l he hel
 ·exact Xq hs l he hel hky
 ·exact Xr hs l he hel
 ·exact Xu hs l he hel
 ·exact Xv hs l he hel
 ·exact Tv hs l he hel
 ·exact Tw hs l he hel
 ·exact Tx hs l he hel
 ·exact Tz hs l he hel
 ·exact TA hs l he hel
 ·exact TB hs l he hel
 ·exact TC hs l he hel
 ·exact TD hs l he hel
 ·exact TE hs l he hel
 ·exact TF hs l he hel
 ·exact TG hs l he hel
 ·exact TH hs l he hel
 ·exact TI hs l he hel
 ·exact TJ hs l he hel
 ·exact TK hs l he hel
 ·exact TL hs l he hel
 ·exact TM hs l he hel
 ·exact TN hs l he hel
 ·exact TO hs l he hel
 ·exact TP hs l he hel
 ·exact TQ hs l he hel
 ·exact TR hs l he hel
 ·exact TS hs l he hel
 ·exact TT hs l he hel
 ·exact TU hs l he hel
 ·exact TV hs l he hel
 ·exact TW hs l he hel
def I2 {s:Xs}{t:Ct}{S:List SV}{X:Xt}(hx:UT s t S)(hky:s.ky.length<=32)(h:Gd s t S X)(hd:X.done=false):∃y,pX s X=some y/\(y.2=0->Gd s t S y.1):=by
 obtain⟨pc,v,hpc,hv,hst,hls⟩:=h.lv hd;have hlen:pc<s.q.code.length:=by rw[<-hx.x.o.n];exact(List.getElem?_eq_some_iff.1 hv).1
 have hc:=lε hlen;have hin:=hx.f.i _ (lρ hlen);generalize s.q.code[pc]=x at hc hin;obtain⟨st',ha,hs2,hto⟩:=hx.x.c pc x v hc hv;obtain⟨l,e,he,hel,hle,hdrop,hst',hcl,-⟩:=HS ha;have hll:=hst.len;have hs:gb s t S X pc x v e st' (X.st.drop (X.st.length - e.1.length)) {X with pc:=X.pc+1,st:=X.st.take (X.st.length - e.1.length)}:=by
  refine⟨hx,h,hc,hv,hpc,hls,hin,hs2,hto,⟨v.st.take (v.st.length - e.1.length),hst',?_,fun ho=>?_⟩,?_,yT ha,rfl,hd⟩
  ·show FvL _ (X.st.take (X.st.length - e.1.length));rw[hll];exact hst.take _
  ·have hz:=hcl ho;refine⟨?_,hz⟩;have:=(hst.take (v.st.length - e.1.length)).len;rw[hz]at this;show X.st.take (X.st.length - e.1.length)=[];rw[hll];exact lη this
  ·have:=hst.drop (v.st.length - e.1.length);rw[hdrop]at this;rw[hll];exact this
 obtain⟨f,hf,y,hy,hg⟩:=PH hs hky l he hel;refine⟨y,?_,hg⟩;unfold pX;rw[hpc,oL,hc,Option.bind_some,hf,Option.bind_some];unfold vp;have h1:(aL 0 (e.1.length:Int)&&aL (e.1.length:Int) (X.st.length:Int))=true:=by
  rw[lγ,bj,bj,lδ,lδ];omega
 show(bif(aL 0 (e.1.length:Int)&&aL (e.1.length:Int) (X.st.length:Int))then _ else _)=_;rw[h1,cond_true,Int.toNat_natCast];exact hy
def ï {s:Xs}{t:Ct}{S:List SV}{X:Xt}(hx:UT s t S)(h:Gd s t S X)(hw:∀y∈s.q.code,Wk y.v):Wx s X:=by
 have:=h.es.n;have h2:=h.st.2;exact⟨h.ls,h.fs.wk,h.st.1,by omega,by omega,hw,hx.f.z.c,h.pc⟩
def Iv {s:Xs}{t:Ct}{S:List SV}(hx:UT s t S)(hky:s.ky.length<=32):Jo s (Gd s t S):=by
 have hw:∀y∈s.q.code,Wk y.v:=fun y hy=>by
  have hin:=hx.f.i y hy;have hv:=hx.v y hy;have hi:=jO hin;cases h1:az y.op 1 with
  |true=>
   rw[h1,cond_true,lγ]at hi;exact xQ (k:=y.v.k) ⟨by unfold jj;rw[hi.1,eqI_t.2 rfl];rfl,hv⟩
  |false=>
   unfold gX at hin;rw[lγ,lγ (az y.op 1||fd y.v v0),h1,Bool.false_or]at hin;have h0:=hin.2.1;unfold fd at h0;simp only[lγ,cE,ma,lδ]at h0;obtain⟨a1,a2,a3,a4,a5⟩:=h0;have:y.v=v0:=by
    obtain⟨op,a,b,k,n,s,I,L⟩:=y;simp only at a1 a2 a3 a4 a5;simp only[a1,a2,a3,a4,a5,v0]
   rw[this];exact VN
 refine⟨fun X h=>ï hx h hw,fun X h hd=>?_,hx.f.q⟩
 obtain⟨y,hy,hg⟩:=I2 hx hky h hd;exact⟨y,hy,fun h0 u=>(hg h0).fu u⟩
def Uz {v:Va}(h:fd v v0=true):v=v0:=by
 unfold fd at h;simp only[lγ,cE,ma,lδ]at h;obtain⟨a1,a2,a3,a4,a5⟩:=h;obtain⟨k,n,s,I,L⟩:=v;simp only at a1 a2 a3 a4 a5;simp only[a1,a2,a3,a4,a5,v0]
def ZR (c:List Ct):Prop:=∀t∈c,∀m∈t.methods,∀y∈m.code,EY y.v
def XM {a:Nat}{ls:List Va}(hl:ls.length=ks.length)(hb:Dl ((List.range ks.length).map fun i=>a.testBit i) ls ks=true)(hv:∀v∈ls,EY v):jF ks a ls:=⟨hl,fun i k v hk hv'=>by
 obtain⟨h1,rfl⟩:=List.getElem?_eq_some_iff.1 hk;obtain⟨h2,rfl⟩:=List.getElem?_eq_some_iff.1 hv';unfold Dl at hb;have hlen:i<(((List.range ks.length).map fun i=>a.testBit i).zip (ls.zip ks)).length:=by
  rw[qα,qα,lβ,List.length_range];omega
 have:=mε.1 hb _ (lρ hlen);rw[List.getElem_zip,List.getElem_zip]at this;simp only[List.getElem_map,List.getElem_range,qγ,lγ,Bool.not_eq_true']at this;rcases this with h|⟨h,h'⟩
 ·exact .inl ⟨h,hv _ (lρ h2)⟩
 ·exact .inr ⟨Uz h',h⟩⟩
def ZM {c:List Ct}(hc:AJ c){x:Mc}(h:ot c x=true):∃t S q,la c x.ty x.me=some q/\Hi c=0/\dj c x.ty=some t/\t∈c/\dj t.methods x.me=some q/\q∈t.methods/\HI c t q/\Í c t q S/\jG c t q=some S/\∃(pc:Nat) (v:SV),x.pc=(pc:Int)/\S[pc]?=some v/\xC q x.pc=true/\x.ls.length=q.locals.length/\Dl ((List.range q.locals.length).map fun i=>v.set.testBit i) x.ls q.locals=true:=by
 cases hq:la c x.ty x.me with
 |none=>rw[VL hq]at h;cases h
 |some q=>
  rw[VM hq]at h;obtain⟨t,S,g1,g2,g3,g4,g5,g6,g7,g8,g9,g10⟩:=Qb hc hq;simp only[lγ,Bool.not_eq_true',bX,bj,lζ,lδ]at h;obtain⟨h1,h2,h3,h4,h5⟩:=h;obtain⟨v,hv,-,has⟩:=U8 g8 g9 g10.n (p:=x.pc) ⟨by omega,by omega⟩
  rw[has]at h5;obtain⟨p0,-,p2⟩:=jH hv;exact⟨t,S,q,rfl,g1,g2,g3,g4,g5,g6,R2 g6 g7,g7,x.pc.toNat,v,(mσ p0).symm,p2,h3,h4,h5⟩
def yo {c:List Ct}(hc:AJ c)(hcv:ZR c){x:Mc}{key:LN}{fs:List Va}{rp:Va}{fuel:Int}(hx:∀v∈x.ls,EY v)(hfs:∀v∈fs,EY v)(hrp:EY rp)(h:kf c x key fs rp fuel=true):∃t S,UT (S0 c x key) t S/\Gd (S0 c x key) t S (X0 x fs rp)/\key.length<=32/\dj c x.ty=some t/\t∈c/\la c x.ty x.me=some (S0 c x key).q/\jG c t (S0 c x key).q=some S:=by
 unfold kf at h;simp only[lγ,Bool.not_eq_true',bX,lζ]at h;obtain⟨h1,h2,h3,h4,h5,h6⟩:=h;obtain⟨t,S,q,e1,e2,e3,e4,e5,e6,e7,e8,e14,pc,v,e9,e10,e11,e12,e13⟩:=ZM hc h1;have hq:(S0 c x key).q=q:=by unfold S0;rw[e1];rfl
 have hctx:UT (S0 c x key) t S:=⟨by rw[hq];exact e7,by rw[hq];exact e8,by rw[hq];exact hcv t e4 q e6⟩
 have hfv:FvL (t.fields.map Fe.kind) fs:=by
  unfold QV wM at h3;rw[show az (Hi c) 0=true from eqI_t.2 e2,cond_true,e3]at h3;exact FvL.of h3 hfs
 have hlc:=XM e12 e13 hx;have hpl:pc<q.code.length:=by rw[<-e8.o.n];exact(List.getElem?_eq_some_iff.1 e10).1
 have hcl:=e7.z.c;have hrk:Fv (R8 c x) rp:=⟨h6,hrp⟩;have hst:FvL v.st (bif az rp.k 0 then[]else[rp]):=by
  cases hp:az x.pc 0 with
  |true=>
   have hp0:pc=0:=by have:=eqI_t.1 hp;omega
   subst hp0;obtain⟨u,hu,hus,-⟩:=e8.z;rw[e10]at hu;cases hu;unfold R8 at hrk;rw[hp,cond_true]at hrk;have:rp.k=0:=((k6 0 rp).1 hrk).1.1;rw[hus,eqI_t.2 this];trivial
  |false=>
   rw[cE,lζ]at hp;obtain⟨p,rfl⟩:∃p,pc=p+1:=⟨pc - 1,by omega⟩
   unfold xC at e11;rw[show aG 0 x.pc=true from hZ (by omega),cond_true,e9,show((p+1:Nat):Int) - 1=(p:Int) by omega,oL]at e11;have hpc:=lε (show p<q.code.length by omega);rw[hpc]at e11;have hin:=e7.i _ (lρ (show p<q.code.length by omega));generalize q.code[p]=y at hpc e11 hin;have hop:y.op=30:=eqI_t.1 e11;have hpS:p<S.length:=by rw[e8.o.n];omega
   have hS:=lε hpS;generalize S[p]=w at hS;obtain⟨st',ha,hs2,hto⟩:=e8.c p y w hpc hS;obtain⟨l,e,he,hel,-,-,hst',hcl',-⟩:=HS ha;have hp1:((p+1:Nat):Int)∈(eM q p y).1:=by
    rw[QI hs2 (by omega) (by omega) (by omega) (by omega)];exact List.mem_singleton.2 rfl
   obtain⟨u,hu,-,hus,-⟩:=hto _ hp1;rw[Int.toNat_natCast,e10]at hu;cases hu;rw[hus,hst',hcl' (.inl hop),List.nil_append];obtain⟨op,a,b,vv⟩:=y;have hop:op=30:=hop;subst hop;have he:(fA c a b).map (fun q=>[((3::q.params,lz q):Ek)])=some l:=he;cases hz:fA c a b with
   |none=>rw[hz]at he;cases he
   |some z=>
   rw[hz]at he;obtain rfl:=Option.some.inj he;obtain rfl:=List.mem_singleton.1 hel;have haw:R8 c x=z.res:=by
    unfold R8;rw[show az x.pc 0=false by rw[cE];exact mθ hp,cond_false,e1,Option.bind_some,e9,show((p+1:Nat):Int) - 1=(p:Int) by omega,oL,hpc,Option.bind_some];show((fA c a b).getD m0).res=_;rw[hz];rfl
   rw[haw]at hrk;have hk:rp.k=z.res:=((k6 _ rp).1 hrk).1.1;show FvL (lz z) _;unfold lz;rw[<-hk];cases az rp.k 0 with
   |true=>trivial
   |false=>exact⟨hk▸hrk,trivial⟩
 have hsw:=hst.wk;have hsl:=hst.len;have h40:=(e8.o.v v (mδ e10)).1;refine⟨t,S,hctx,⟨hfv,⟨by simp[X0],fun e he=>by cases he⟩,hlc.wk,⟨hsw,by show(bif az rp.k 0 then[]else[rp]:List Va).length<=40;omega⟩,by show 0<=x.pc/\x.pc<=1501;omega,fun _=>⟨pc,v,e9,e10,hst,by rw[hq];exact hlc⟩,fun h=>by cases h⟩,by omega,e3,e4,by rw[hq];exact e1,by rw[hq];exact e14⟩
section
section
variable {s:Xs} {P:Xt->Prop} (hI:Jo s P) (st:List Va) {f1 f2:Int} (h12:f1<=f2)
include hI h12
end
end
end
end Go.Ab
