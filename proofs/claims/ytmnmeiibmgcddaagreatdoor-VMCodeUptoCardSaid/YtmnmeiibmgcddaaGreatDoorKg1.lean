import Derived.Test.YtmnmeiibmgcddaaGreatDoorKg0
import Derived.Test.YtmnmeiibmgcddaaGreatDoorOg1
import Derived.KernelRfl
import Derived.Lib.ItoaLen
import Derived.Test.YtmnmeiibmgcddaaGreatDoorOg2
set_option linter.all false
namespace Go.Ab
open Go
set_option maxRecDepth 100000
noncomputable section
def pm (p:SV×Cd):Bool:=p.1.r&&(!az p.2.op 2||p.1.set.testBit p.2.a.toNat)
def Jo (m:Cm):List SV:=(List.replicate m.code.length (⟨false,[],0⟩:SV)).set 0 ⟨true,[],2 ^ m.params.length - 1⟩
def jV (c:List Ct)(t:Ct)(m:Cm):Option (List SV):=(qV c t m (256*m.code.length+1) (Jo m) [0]).bind fun s=>bif(s.zip m.code).all pm then some s else none
def N4 (n:Nat):LK (List.replicate n (⟨false,[],0⟩:SV))=256*n:=by
 induction n with
 |zero=>rfl
 |succ n ih=>rw[List.replicate_succ,LK,ih];show 256+_=_;omega
def Wr (o:Option (List SV)):R:=some (.tup [pL 3 ((o.getD []).map SV.e),pB o.isSome],[])
def CK {c t m}(hf:MT c t m):∀{e:Nat} {s s':List SV} {w:LN},qV c t m e s w=some s'->CC m s->(∀p∈w,p<m.code.length)->CC m s'
 |0,s,s',w,h,hs,_=>by cases h;exact hs
 |e+1,s,s',[],h,hs,_=>by cases h;exact hs
 |e+1,s,s',pc::w,h,hs,hp=>by
  have hpc:pc<m.code.length:=hp pc lχ;have hps:pc<s.length:=by rw[hs.n];exact hpc
  have hin:=hf.i _ (lμ hpc);have hv:=hs.v _ (lμ hps);unfold qV at h;rw[lη hpc,lη hps]at h;simp only at h;revert h;split
  ·rename_i st hr;cases(fo m pc m.code[pc]).2 with
   |false=>intro h;cases h
   |true=>
    rw[cond_true];cases hpr:m1 st (m9 m.code[pc] s[pc].set) (fo m pc m.code[pc]).1 s w with
    |none=>intro h;cases h
    |some p=>
     intro h;obtain⟨o1,-,-,o4⟩:=wz (s':=p.1) (w':=p.2) (CI hr) (Ma hin hf.l hv.2) hpr hs fun x hx=>hp x (mα _ hx)
     exact CK hf h o1 o4
  ·intro h;cases h
def Wv {c t m}(hf:MT c t m):CC m (Jo m):=by
 have hp:=hf.p;have h2:2 ^ m.params.length<=2 ^ 4:=Nat.pow_le_pow_right (by omega) hp;unfold Jo;refine CC.set ⟨by rw[mν],fun v hv=>?_⟩ 0 (by simp) (show 2 ^ m.params.length - 1<256 by omega)
 rw[(List.mem_replicate.1 hv).2];simp
def Kr {c t m s}(hf:MT c t m)(h:jV c t m=some s):CC m s:=by
 unfold jV at h;cases hg:qV c t m (256*m.code.length+1) (Jo m) [0]with
 |none=>rw[hg]at h;cases h
 |some u=>
  rw[hg,Option.bind_some]at h;have:=CK hf hg (Wv hf) fun p hp=>by rw[List.mem_singleton.1 hp];exact hf.n
  cases hc:(u.zip m.code).all pm with
  |false=>rw[hc]at h;cases h
  |true=>rw[hc]at h;cases h;exact this
variable {m:Nat}
def y_ {c t me}(hf:MT c t me)(s:List SV)(hs:CC me s)(hm:2000<=m):itL (eh (cq lay0.tab m) m (fun _=>Wr none) (fun(n150,n151,i152,i153,u154,l155)=>some ((.tup [(pL 3 (List.take n150 (List.drop 0 l155))),(pB true)]),[]))) m (me.code.length,me.code.length,(me.code.length:Int),0,me.r,s.map SV.e)=Wr (bif(s.zip me.code).all pm then some s else none):=by
 have hcl:=hf.z.c;have hl:(s.zip me.code).length=me.code.length:=by rw[qβ,hs.n,Nat.min_self]
 refine(br (s.zip me.code) (fun q i=>itL (eh (cq lay0.tab m) m (fun _=>Wr none) _) q (me.code.length,me.code.length,(me.code.length:Int),i,me.r,s.map SV.e)) (fun p=>!pm p) (fun _=>Wr none) (Wr (some s)) (fun q i hi=>?_) (fun q=>?_) (by omega)).trans ?_
 ·have hc:i<me.code.length:=by omega
  have hi2:i<s.length:=by rw[hs.n];exact hc
  have hv:=hs.v _ (lμ hi2);rw[aQ,List.getElem_zip];have g:(s.map SV.e)[0+i]?=some (s[i].e):=by rw[Nat.zero_add,lσ,lη hi2];rfl
  have h0:aV 0 (i:Int)=true:=by rw[bk];exact lκ (by omega)
  simp only[eh,fp (show(i:Int)<(me.code.length:Int) by omega),h0,aN,Int.toNat_natCast,g,bw,P_,show me.r.Code=me.code.map Cd.e from rfl,aU,be,bh hc,W6,wS (show i<c9 by unfold c9;omega)];unfold pm;cases s[i].r with
  |false=>rfl
  |true=>
   rw[aN];show iL (az me.code[i].op 2) _ _=_;cases h2:az me.code[i].op 2 with
   |false=>rfl
   |true=>
    have h1:=lc (hf.i _ (lμ hc));rw[eqI_t.1 h2]at h1;have hw:=Jk h1;have:=hf.l;rw[aN];have e1:aK me.code[i].r.A 0=false:=Ru (show ¬me.code[i].a<0 by omega);rw[e1,aX];have e2:∀j:Nat,j<64->ab .u64 ((BitVec.toNat (BitVec.ofInt (IntKind.bits .u64) (Int.fdiv (s[i].set:Int) (2 ^ min j (IntKind.bits .u64))) &&& BitVec.ofInt (IntKind.bits .u64) 1):Nat):Int)=bif s[i].set.testBit j then 1 else 0:=fun j hj=>F_ hv.2 hj
    rw[e2 (Int.toNat me.code[i].r.A) (show me.code[i].a.toNat<64 by omega),show me.code[i].r.A=me.code[i].a from rfl];cases s[i].set.testBit me.code[i].a.toNat<;>rfl
 ·rw[aQ,hl];simp only[eh,c8,aX];show some (D.tup [pL 3 (List.take _ (s.map SV.e)),_],_)=_;rw[lξ (by rw[lα,hs.n];omega)];rfl
 ·rw[iG];cases(s.zip me.code).findIdx? fun p=>!pm p<;>rfl
def wG {c t me}(hf:MT c t me)(hm:400000<=m):Ω m 64 [.p (c4 c).e,.p t.e,.p me.e] []=Wr (jV c t me):=by
 replace hm:=fuel hm;obtain⟨m,rfl,hm⟩:=hm;apply J6 m (c4 c) t.r me.r;unfold wQ;have hcl:=hf.z.c;have hcn:=hf.n;have hpl:=hf.p;rw[show me.r.Code=me.code.map Cd.e from rfl,lα,Int.toNat_natCast];have hc1:(aV 0 (me.code.length:Int)&&aV (me.code.length:Int) (me.code.length:Int)&&Nat.ble (me.code.length*40) 281474976710656&&aV (me.code.length:Int) 9223372036854775807)=true:=by
  simp only[lγ,bk,Nat.ble_eq,lδ];omega
 rw[hc1,aN,fp (show(0:Int)<(me.code.length:Int) by omega),aN];have hrep:List.replicate me.code.length (Da.agg [Da.bool false,Da.slice 1 [],Da.int .u64 0])=(List.replicate me.code.length (⟨false,[],0⟩:SV)).map SV.e:=by rw[List.map_replicate];rfl
 have hget:(List.replicate me.code.length (Da.agg [Da.bool false,Da.slice 1 [],Da.int .u64 0]))[0]?=some (SV.e ⟨false,[],0⟩):=by rw[List.getElem?_replicate,if_pos hcn];rfl
 have hset:ab .u64 (ab .u64 (1*2 ^ min (Int.toNat (me.params.length:Int)) (IntKind.bits .u64)) - 1)=((2 ^ me.params.length - 1:Nat):Int):=by
  have:me.params.length=0\/me.params.length=1\/me.params.length=2\/me.params.length=3\/me.params.length=4:=by omega
  rcases this with h|h|h|h|h<;>rw[h]<;>rfl
 rw[hget,bw,P_];have hs0:=Wv hf;have hphi:LK (Jo me)<=256*me.code.length:=by
  have hp:=hf.p;have h2:2 ^ me.params.length<=2 ^ 4:=Nat.pow_le_pow_right (by omega) hp;have:=wx (List.replicate me.code.length (⟨false,[],0⟩:SV)) 0 (by rw[mν];exact hcn) ⟨true,[],2 ^ me.params.length - 1⟩;rw[N4,List.getElem_replicate]at this;simp only[cond_true,cond_false]at this;unfold Jo;omega
 have key:=ö c t me hf (m:=m) (by omega) (Er:=Wr none) (k0:=fun _=>Wr none) (k1:=fun _=>Wr none) (k2:=fun(n129,n130,u131,u132,u133,l134,l135)=>
   itL (eh (cq lay0.tab m) m (fun(u146,l147,u148,u149)=>Wr none) (fun(n150,n151,i152,i153,u154,l155)=>
   some ((.tup [(pL 3 (List.take n150 (List.drop 0 l155))),(pB true)]),[]))) m (n129,n129,↑n129,0,u133,l134)) (G:=fun l=>itL (eh (cq lay0.tab m) m (fun _=>Wr none) (fun(n150,n151,i152,i153,u154,l155)=>some ((.tup [(pL 3 (List.take n150 (List.drop 0 l155))),(pB true)]),[]))) m (me.code.length,me.code.length,(me.code.length:Int),0,me.r,l)) (fun _=>rfl) (fun _=>rfl) (fun _ _ _=>rfl) (256*me.code.length+1) m (Jo me) [0] [wE 0] hs0 (fun p hp=>by rw[List.mem_singleton.1 hp];exact hcn) rfl (by simp only[List.length_cons,List.length_nil];omega) (by omega) (by omega)
 have hs1:(List.replicate me.code.length (Da.agg [Da.bool false,Da.slice 1 [],Da.int .u64 0])).set 0 (Da.agg (splice (cells (bt.e ⟨false,[],0⟩)) 0 (cells (Da.agg [Da.bool true,Da.slice 1 [],Da.int .u64 (ab .u64 (ab .u64 (1*2 ^ min (Int.toNat (me.params.length:Int)) (IntKind.bits .u64)) - 1))]))))=(Jo me).map SV.e:=by
  rw[hset,hrep];unfold Jo;rw[List.map_set];rfl
 show itL (ef _ _ _ _ _) _ (_,_,_,_,_,(List.replicate me.code.length (Da.agg [Da.bool false,Da.slice 1 [],Da.int .u64 0])).set 0 (Da.agg (splice (cells (bt.e ⟨false,[],0⟩)) 0 (cells (Da.agg [Da.bool true,Da.slice 1 [],Da.int .u64 (ab .u64 (ab .u64 (1*2 ^ min (Int.toNat ((me.params.map iE).length:Int)) (IntKind.bits .u64)) - 1))])))),_)=_;rw[lα,hs1];refine Eq.trans key ?_;unfold jV;cases hg:qV c t me (256*me.code.length+1) (Jo me) [0]with
 |none=>rfl
 |some u=>
  have hu:=CK hf hg hs0 fun p hp=>by rw[List.mem_singleton.1 hp];exact hcn
  exact y_ hf u hu (by omega)
def Jg {c t}:∀{l:List Cm} {a b:Nat},Av c t a l=some b->∀x∈l,vC c t x=true
 |[],a,b,_,x,hx=>by cases hx
 |y::r,a,b,h,x,hx=>by
  unfold Av at h;revert h;cases aK 3000 (a+y.code.length:Nat)with
  |true=>intro h;cases h
  |false=>
   cases h2:vC c t y with
   |false=>intro h;cases h
   |true=>
    intro h;rcases mγ.1 hx with rfl|hx
    ·exact h2
    ·exact Jg h x hx
def Jf {c}:∀{l:List Ct} {a b:Nat},Ml c a l=some b->∀t∈l,∀x∈t.methods,vC c t x=true
 |[],a,b,_,t,ht=>by cases ht
 |u::r,a,b,h,t,ht=>by
  unfold Ml at h;cases h1:Av c u a u.methods with
  |none=>rw[h1]at h;cases h
  |some k=>
   rw[h1]at h;rcases mγ.1 ht with rfl|ht
   ·exact Jg h1
   ·exact Jf h t ht
def rr {c}(h:vB c=true):∀t∈c,∀x∈t.methods,vC c t x=true:=by
 unfold vB at h;simp only[lγ]at h;obtain⟨b,hb⟩:=Option.isSome_iff_exists.1 h.2.2.2;exact Jf hb
def YO {c a b q}(h:fC c a b=some q):∃t∈c,q∈t.methods:=by
 unfold fC at h;cases ht:dK c a with
 |none=>rw[ht]at h;cases h
 |some t=>
  rw[ht,Option.bind_some]at h;have mem:∀{α:Type} {l:List α} {x:Int} {y:α},dK l x=some y->y∈l:=fun {α l x y} h=>by
   unfold dK at h;by_cases h0:0<=x
   ·rw[if_pos h0]at h;exact mθ h
   ·rw[if_neg h0]at h;cases h
  exact⟨t,mem ht,mem h⟩
def DJ {c t m}(hc:zB c)(ht:t∈c)(hm:m∈t.methods)(h:vC c t m=true):MT c t m:=by
 unfold vC at h;simp only[lγ,Bool.not_eq_true',bT,lζ,lδ,bp,mζ]at h;obtain⟨h1,-,-,h2,-,-,h3,h4,h5⟩:=h;exact⟨(hc.s t ht).s m hm,by omega,by omega,h3,by omega,h5,fun x _ q hq=>by obtain⟨u,hu,hq⟩:=YO hq;exact((hc.s u hu).s q hq).p⟩
def Jq (c:List Ct):Int:=bif vB c then(bif c.all fun t=>t.methods.all fun m=>(jV c t m).isSome then 0 else 16)else 1
def abE {c:List Ct}{t:Ct}(hz:w_ t)(hf:∀x∈t.methods,MT c t x)(l1:LD)(i2 i3:Int)(hm:400000<=m)(k0 k1:_->R){Er:R}(hk0:∀x,k0 x=Er):itL (gf (cq lay0.tab m) m k0 k1) m (l1,i2,i3,t.methods.map Cm.e,(t.methods.length:Int),0,c4 c,t.r)=bif t.methods.all fun x=>(jV c t x).isSome then k1 (l1,i2,i3,t.methods.map Cm.e,(t.methods.length:Int),(t.methods.length:Int),c4 c,t.r)else Er:=by
 have:=hz.m;refine(br t.methods (fun q i=>itL (gf (cq lay0.tab m) m k0 k1) q (l1,i2,i3,t.methods.map Cm.e,(t.methods.length:Int),i,c4 c,t.r)) (fun x=>!(jV c t x).isSome) (fun _=>Er) (k1 (l1,i2,i3,t.methods.map Cm.e,(t.methods.length:Int),(t.methods.length:Int),c4 c,t.r)) (fun q i hi=>?_) (fun q=>?_) (by omega)).trans ?_
 ·rw[aQ];have h:=ae (wG (hf _ (lμ hi)) (m:=m) hm);simp only[gf,fp (show(i:Int)<(t.methods.length:Int) by omega),aN,aU,be,bh hi,bw,GP,wS (show i<c9 by unfold c9;omega),hk0];refine(h _).trans ?_;simp only[dB,aY,ba,mX,aL,aC];cases(jV c t t.methods[i]).isSome<;>rfl
 ·rw[aQ];simp only[gf,c8,aX]
 ·rw[iG];cases t.methods.findIdx? fun x=>!(jV c t x).isSome<;>rfl
def sL {c:List Ct}(hc:zB c)(hm:400001<=m):Ω m 29 [.p (c4 c).e] []=some (pI (Jq c),[]):=by
 replace hm:=fuel hm;obtain⟨m,rfl,hm⟩:=hm;apply O6 m (c4 c);unfold AG Jq;refine(ae (Cg c hc (m:=m) (by omega)) _).trans ?_;simp only[ba,aL,aC];cases hf:vB c with
 |false=>rfl
 |true=>
  rw[aN,cond_true];have hn:=hc.n;show itL (ge _ _ _ _) _ (c.map Ct.e,((c.map Ct.e).length:Int),0,c4 c)=_;rw[lα];refine(br c (fun q i=>itL (ge (cq lay0.tab m) m _ _) q (c.map Ct.e,(c.length:Int),i,c4 c)) (fun t=>!t.methods.all fun x=>(jV c t x).isSome) (fun _=>some (pI 16,[])) (some (pI 0,[])) (fun q i hi=>?_) (fun q=>?_) (by omega)).trans ?_
  ·rw[aQ];have ht:=lμ hi;simp only[ge,fp (show(i:Int)<(c.length:Int) by omega),aN,aU,be,bh hi,bw,CU,show c[i].r.Methods=c[i].methods.map Cm.e from rfl,lα];rw[abE (hc.s _ ht) (fun x hx=>DJ hc ht hx (rr hf _ ht x hx)) _ _ _ hm _ _ (Er:=some (pI 16,[])) fun _=>rfl];cases c[i].methods.all fun x=>(jV c c[i] x).isSome
   ·rfl
   ·simp only[wS (show i<c9 by unfold c9;omega)];rfl
  ·rw[aQ];simp only[ge,c8,aX]
  ·rw[iG];cases c.findIdx? fun t=>!t.methods.all fun x=>(jV c t x).isSome<;>rfl
def YT (c:List Ct)(a b:Int):Option (Ct×Cm):=(dK c a).bind fun t=>(dK t.methods b).map fun q=>(t,q)
def Ý (c:List Ct)(a b:Int):List SV:=bif az (Jq c) 0 then(match YT c a b with|none=>[]|some p=>(jV c p.1 p.2).getD [])else[]
variable {α:Type}
def k6 {l:List α}{x:Int}(h:x<0\/(l.length:Int)<=x):dK l x=none:=by
 unfold dK;by_cases h0:0<=x
 ·rw[if_pos h0,lυ (by omega)]
 ·rw[if_neg h0]
def GC {l:List α}{x:Int}(h1:aK x 0=false)(h2:aV (l.length:Int) x=false):∃y,dK l x=some y/\y∈l:=by
 rw[bT,lζ]at h1;rw[bk,lζ]at h2;exact jW ⟨by omega,by omega⟩
def ve0 {c}(h:Jq c=0):vB c=true/\∀t∈c,∀m∈t.methods,∃s,jV c t m=some s:=by
 unfold Jq at h;cases hf:vB c with
 |false=>rw[hf]at h;cases h
 |true=>
  rw[hf,cond_true]at h;refine⟨rfl,?_⟩;cases ha:c.all fun t=>t.methods.all fun m=>(jV c t m).isSome with
  |false=>rw[ha]at h;cases h
  |true=>
   intro t ht m hm;exact Option.isSome_iff_exists.1 (mζ.1 (mζ.1 ha t ht) m hm)
def OB {c:List Ct}(hc:zB c)(a b:Int)(hm:400002<=m):Ω m 86 [.p (c4 c).e,pI a,pI b] []=some (pL 3 ((Ý c a b).map SV.e),[]):=by
 replace hm:=fuel hm;obtain⟨m,rfl,hm⟩:=hm;apply Pb m (c4 c) a b;unfold AL Ý;refine(ae (sL hc (m:=m) (by omega)) _).trans ?_;simp only[ba,bV,aC];cases hv:az (Jq c) 0 with
 |false=>rfl
 |true=>
  have hv0:=ve0 (eqI_t.1 hv);rw[Bool.not_true,aX,cond_true,show(c4 c).Types=c.map Ct.e from rfl,lα];unfold YT;cases h1:aK a 0 with
  |true=>rw[bT,lδ]at h1;rw[k6 (.inl h1)];rfl
  |false=>
  cases h2:aV (c.length:Int) a with
  |true=>rw[bk,lδ]at h2;rw[k6 (.inr h2)];rfl
  |false=>
  obtain⟨t,ht,htm⟩:=GC h1 h2;rw[ht,Option.bind_some];cases h3:aK b 0 with
  |true=>rw[bT,lδ]at h3;rw[k6 (.inl h3)];rfl
  |false=>
  simp only[aX,aU,be,ht,bw,CU,show t.r.Methods=t.methods.map Cm.e from rfl,lα];cases h4:aV (t.methods.length:Int) b with
  |true=>rw[bk,lδ]at h4;rw[k6 (.inr h4)];rfl
  |false=>
   obtain⟨q,hq,hqm⟩:=GC h3 h4;rw[hq,aX,bw,GP];refine(ae (wG (DJ hc htm hqm (rr hv0.1 t htm q hqm)) (m:=m) (by omega)) _).trans ?_;simp only[dB,aY,ba,mX,aL,aC];show iL _ _ _=some (pL 3 (((jV c t q).getD []).map SV.e),[]);cases(jV c t q).isSome<;>rfl
def þ (c:List Ct)(a b p:Int):List Bool:=match dK (Ý c a b) p,YT c a b with
 |some v,some q=>(List.range q.2.locals.length).map fun i=>v.set.testBit i
 |_,_=>[]
def M6 {m:Nat}(L:List SV)(p:Int)(v:SV)(hv:dK L p=some v)(h2:v.set<256)(n:Nat)(hn:n<60)(k0:_->R):∀(d q i:Nat),i+d=n->d<q->itL (fV (cq lay0.tab m) m k0) q (p,L.map SV.e,n,(n:Int),(i:Int),((List.range i).map fun j=>Da.bool (v.set.testBit j))++List.replicate d (Da.bool false))=k0 (p,L.map SV.e,n,(n:Int),(n:Int),(List.range n).map fun j=>Da.bool (v.set.testBit j))
 |0,q+1,i,h,_=>by
  obtain rfl:i=n:=by omega
  rw[aQ];simp only[fV,c8,aX,List.replicate_zero,mη]
 |d+1,q+1,i,h,hq=>by
  have h0:aV 0 (i:Int)=true:=by rw[bk];exact lκ (by omega)
  have h1:aK (i:Int) 0=false:=Ru (by omega);have hl:((List.range i).map fun j=>Da.bool (v.set.testBit j)).length=i:=by rw[lα,List.length_range]
  have hg:(((List.range i).map fun j=>Da.bool (v.set.testBit j))++List.replicate (d+1) (Da.bool false))[0+i]?=some (Da.bool false):=by
   rw[Nat.zero_add,lπ (by omega),hl,Nat.sub_self];rfl
  have hs:∀x:Bool,(((List.range i).map fun j=>Da.bool (v.set.testBit j))++List.replicate (d+1) (Da.bool false)).set (0+i) (Da.bool x)=((List.range i).map fun j=>Da.bool (v.set.testBit j))++Da.bool x::List.replicate d (Da.bool false):=fun x=>by
   rw[Nat.zero_add,List.set_append_right _ _ (by omega),hl,Nat.sub_self];rfl
  have hr:((List.range (i+1)).map fun j=>Da.bool (v.set.testBit j))=((List.range i).map fun j=>Da.bool (v.set.testBit j))++[Da.bool (v.set.testBit i)]:=by rw[List.range_succ,List.map_append];rfl
  have ih:=M6 (m:=m) L p v hv h2 n hn k0 d q (i+1) (by omega) (by omega);rw[hr,lρ]at ih;rw[aQ];simp only[fV,fp (show(i:Int)<(n:Int) by omega),aN,aU,be,hv,bw,show VH v.e=true from rfl,P_,h0,h1,aX,Int.toNat_natCast,F_ h2 (show i<64 by omega),hg,show Nat.beq (List.length (cells (Da.bool false))) 1=true from rfl,show ∀x,fk (Da.bool false) (cells (Da.bool x))=some (Da.bool x)from fun _=>rfl,hs,wS (show i<c9 by unfold c9;omega)];cases hb:v.set.testBit i with
  |true=>rw[hb]at ih;exact ih
  |false=>rw[hb]at ih;exact ih
def EO {c:List Ct}(hc:zB c)(a b p:Int)(hm:400003<=m):Ω m 46 [.p (c4 c).e,pI a,pI b,pI p] []=some (pL 1 ((þ c a b p).map Da.bool),[]):=by
 replace hm:=fuel hm;obtain⟨m,rfl,hm⟩:=hm;apply Gj m (c4 c) a b p;unfold um þ;refine(ae (OB hc a b (m:=m) (by omega)) _).trans ?_;simp only[ba,mX,aC,lα];cases h1:aK p 0 with
 |true=>rw[bT,lδ]at h1;rw[k6 (.inl h1)];rfl
 |false=>
 cases h2:aV ((Ý c a b).length:Int) p with
 |true=>rw[bk,lδ]at h2;rw[k6 (.inr h2)];rfl
 |false=>
 obtain⟨v,hv,hvm⟩:=GC h1 h2;rw[hv,aX,aX];unfold Ý at hvm;cases h3:az (Jq c) 0 with
 |false=>rw[h3]at hvm;cases hvm
 |true=>
 rw[h3,cond_true]at hvm;cases h4:YT c a b with
 |none=>rw[h4]at hvm;cases hvm
 |some q=>
 rw[h4]at hvm;obtain⟨t,me⟩:=q;unfold YT at h4;cases h5:dK c a with
 |none=>rw[h5]at h4;cases h4
 |some t'=>
 rw[h5,Option.bind_some]at h4;cases h6:dK t'.methods b with
 |none=>rw[h6]at h4;cases h4
 |some me'=>
 rw[h6]at h4;cases h4;have mem:∀{α:Type} {l:List α} {x:Int} {y:α},dK l x=some y->y∈l:=fun {α l x y} h=>by
  unfold dK at h;by_cases h0:0<=x
  ·rw[if_pos h0]at h;exact mθ h
  ·rw[if_neg h0]at h;cases h
 have hv0:=ve0 (eqI_t.1 h3);have hfo:=DJ hc (mem h5) (mem h6) (rr hv0.1 _ (mem h5) _ (mem h6));obtain⟨s,hs⟩:=hv0.2 _ (mem h5) _ (mem h6);have hl8:=hfo.l;have hvs:v.set<256:=((Kr hfo hs).v v (by simp only[hs]at hvm;exact hvm)).2;simp only[show(c4 c).Types=c.map Ct.e from rfl,aU,be,h5,bw,show VH t.e=false from rfl,aX,CU,show t.r.Methods=t.methods.map Cm.e from rfl,h6,GP,show me.r.Locals=me.locals.map iE from rfl,lα,Int.toNat_natCast];have hc1:(aV 0 (me.locals.length:Int)&&aV (me.locals.length:Int) (me.locals.length:Int)&&Nat.ble (me.locals.length*1) 281474976710656&&aV (me.locals.length:Int) 9223372036854775807)=true:=by
  simp only[lγ,bk,Nat.ble_eq,lδ];omega
 rw[hc1,aN];refine(M6 (Ý c a b) p v hv hvs me.locals.length (by omega) _ me.locals.length m 0 (by omega) (by omega)).trans ?_;simp only[List.drop_zero];rw[lξ (by rw[lα,List.length_range];omega),List.map_map];rfl
def WE {a b c:Nat}(h1:a &&& b=a)(h2:b &&& c=b):a &&& c=a:=by
 rw[<-h1,Nat.and_assoc,h2]
def LeS (s s':List SV):Prop:=∀(i:Nat) (v:SV),s[i]?=some v->v.r=true->∃v':SV,s'[i]?=some v'/\v'.r=true/\v'.st=v.st/\v'.set &&& v.set=v'.set
def LeS.rfl' (s:List SV):LeS s s:=fun i v h hr=>⟨v,h,hr,rfl,Nat.and_self _⟩
def LeS.tr {a b c:List SV}(h1:LeS a b)(h2:LeS b c):LeS a c:=fun i v h hr=>by
 obtain⟨u,hu,hur,hus,hss⟩:=h1 i v h hr;obtain⟨w,hw,hwr,hws,hwt⟩:=h2 i u hu hur;exact⟨w,hw,hwr,hws.trans hus,WE hwt hss⟩
def Has (s:List SV)(to:Nat)(st:LI)(set:Nat):Prop:=∃u:SV,s[to]?=some u/\u.r=true/\u.st=st/\u.set &&& set=u.set
variable {st:LI}
def Has.mono {s s':List SV}{to:Nat}{set:Nat}(h:Has s to st set)(hl:LeS s s'):Has s' to st set:=by
 obtain⟨u,hu,hr,hs,hb⟩:=h;obtain⟨w,hw,hwr,hws,hwb⟩:=hl to u hu hr;exact⟨w,hw,hwr,hws.trans hs,WE hwb hb⟩
structure O3 (s s':List SV)(w w':LN):Prop where
 l:LeS s s'
 c:∀i:Nat,s'[i]?=s[i]?\/i∈w'
 w:∀p∈w,p∈w'
def Ó {set:Nat}{to:Int}{s s':List SV}{w w':LN}(h:Ix st set to s w=some (s',w')):O3 s s' w w'/\Has s' to.toNat st set:=by
 unfold Ix at h;cases hv:s[to.toNat]? with
 |none=>rw[hv]at h;cases h
 |some v=>
  rw[hv]at h;have hl:=(List.getElem?_eq_some_iff.1 hv).1;have at':∀u:SV,(s.set to.toNat u)[to.toNat]?=some u:=fun u=>by rw[qα hl]
  have ne':∀(u:SV) i,i≠to.toNat->(s.set to.toNat u)[i]?=s[i]?:=fun u i hi=>mτ (fun e=>hi e.symm)
  have ch:∀(u:SV) i,(s.set to.toNat u)[i]?=s[i]?\/i∈to.toNat::w:=fun u i=>by
   by_cases hi:i=to.toNat
   ·exact .inr (hi▸lχ)
   ·exact .inl (ne' u i hi)
  revert h
  show(bif v.r then _ else _)=_->_;cases hr:v.r with
  |true=>
   by_cases e1:v.st=st
   ·by_cases e2:v.set &&& set=v.set
    ·simp only[lκ e1,lκ e2,cond_true];rintro h;cases h;exact⟨⟨LeS.rfl' s,fun i=> .inl rfl,fun p h=>h⟩,v,hv,hr,e1,e2⟩
    ·simp only[lκ e1,mβ e2,cond_true,cond_false];rintro h;cases h;refine⟨⟨fun i u hu hur=>?_,ch _,fun p hp=>mα _ hp⟩,_,at' _,rfl,e1,?_⟩
     ·by_cases hi:i=to.toNat
      ·subst hi;rw[hv]at hu;cases hu;refine⟨_,at' _,rfl,rfl,?_⟩;show(v.set &&& set) &&& v.set=v.set &&& set;rw[Nat.and_assoc,Nat.and_comm set,<-Nat.and_assoc,Nat.and_self]
      ·exact⟨u,(ne' _ i hi).trans hu,hur,rfl,Nat.and_self _⟩
     ·show(v.set &&& set) &&& set=v.set &&& set;rw[Nat.and_assoc,Nat.and_self]
   ·simp only[mβ e1,cond_true,cond_false];rintro h;cases h
  |false=>
   rintro h;cases h
   refine⟨⟨fun i u hu hur=>?_,ch _,fun p hp=>mα _ hp⟩,_,at' _,rfl,rfl,Nat.and_self _⟩
   by_cases hi:i=to.toNat
   ·subst hi;rw[hv]at hu;cases hu;rw[hr]at hur;cases hur
   ·exact⟨u,(ne' _ i hi).trans hu,hur,rfl,Nat.and_self _⟩
def O3.tr {a b c:List SV}{u v w:LN}(h1:O3 a b u v)(h2:O3 b c v w):O3 a c u w:=
 ⟨h1.l.tr h2.l,fun i=>by
  rcases h2.c i with h|h
  ·rcases h1.c i with g|g
   ·exact .inl (h.trans g)
   ·exact .inr (h2.w i g)
  ·exact .inr h,fun p h=>h2.w p (h1.w p h)⟩
def Iy {st:LI}{set:Nat}:∀{tos:LI} {s s':List SV} {w w':LN},m1 st set tos s w=some (s',w')->O3 s s' w w'/\∀to∈tos,Has s' to.toNat st set
 |[],s,s',w,w',h=>by cases h;exact⟨⟨LeS.rfl' s,fun i=> .inl rfl,fun p h=>h⟩,fun _ h=>by cases h⟩
 |to::r,s,s',w,w',h=>by
  unfold m1 at h;cases hp:Ix st set to s w with
  |none=>rw[hp]at h;cases h
  |some p=>
   rw[hp]at h;obtain⟨q1,q2⟩:=Ó (s':=p.1) (w':=p.2) hp;obtain⟨r1,r2⟩:=Iy h;refine⟨q1.tr r1,fun k hk=>?_⟩
   rcases mγ.1 hk with rfl|hk
   ·exact q2.mono r1.l
   ·exact r2 k hk
def Con (c:List Ct)(t:Ct)(m:Cm)(s:List SV)(pc:Nat):Prop:=∀(x:Cd) (v:SV),m.code[pc]?=some x->s[pc]?=some v->∃st',xF c t m x v.st=some (st',true)/\(fo m pc x).2=true/\∀to∈(fo m pc x).1,Has s to.toNat st' (m9 x v.set)
def Con.mono {c t m s s' pc}(h:Con c t m s pc)(hl:LeS s s')(he:s'[pc]?=s[pc]?):Con c t m s' pc:=fun x v hx hv=>by
 obtain⟨st',h1,h2,h3⟩:=h x v hx (he▸hv);exact⟨st',h1,h2,fun to hto=>(h3 to hto).mono hl⟩
def M3 {c t m}(hf:MT c t m):∀{e:Nat} {s s':List SV} {w:LN},qV c t m e s w=some s'->CC m s->(∀p∈w,p<m.code.length)->w.length+LK s<=e->(∀(pc:Nat) (v:SV),s[pc]?=some v->v.r=true->pc∈w\/Con c t m s pc)->LeS s s'/\∀(pc:Nat) (v:SV),s'[pc]?=some v->v.r=true->Con c t m s' pc
 |e,s,s',[],h,hs,hp,he,hi=>by
  have:qV c t m e s []=some s:=by cases e<;>rfl
  rw[this]at h;cases h;exact⟨LeS.rfl' s,fun pc v hv hr=>(hi pc v hv hr).resolve_left (by simp)⟩
 |0,s,s',pc::w,h,hs,hp,he,hi=>by simp only[List.length_cons]at he;omega
 |e+1,s,s',pc::w,h,hs,hp,he,hi=>by
  have hpc:pc<m.code.length:=hp pc lχ;have hps:pc<s.length:=by rw[hs.n];exact hpc
  have hin:=hf.i _ (lμ hpc);have hv:=hs.v _ (lμ hps);simp only[List.length_cons]at he;unfold qV at h;rw[lη hpc,lη hps]at h;simp only at h;revert h;split
  ·rename_i st hr;cases h2:(fo m pc m.code[pc]).2 with
   |false=>intro h;cases h
   |true=>
    rw[cond_true];cases hpr:m1 st (m9 m.code[pc] s[pc].set) (fo m pc m.code[pc]).1 s w with
    |none=>intro h;cases h
    |some p=>
     intro h;obtain⟨o1,o2,-,o4⟩:=wz (s':=p.1) (w':=p.2) (CI hr) (Ma hin hf.l hv.2) hpr hs fun x hx=>hp x (mα _ hx)
     obtain⟨i1,i2⟩:=Iy (s':=p.1) (w':=p.2) hpr;have key:∀(k:Nat) (v:SV),p.1[k]?=some v->v.r=true->k∈p.2\/Con c t m p.1 k:=fun k v hk hkr=>by
      rcases i1.c k with hc|hc
      ·by_cases hkp:k=pc
       ·subst hkp;refine .inr fun x u hx hu=>?_
        rw[lη hpc]at hx;cases hx;rw[hc,lη hps]at hu;cases hu;exact⟨st,hr,h2,i2⟩
       ·rcases hi k v (hc▸hk) hkr with hm|hm
        ·rcases mγ.1 hm with e|hm
         ·exact absurd e hkp
         ·exact .inl (i1.w k hm)
        ·exact .inr (hm.mono i1.l hc)
      ·exact .inl hc
     obtain⟨r1,r2⟩:=M3 hf h o1 o4 (by omega) key;exact⟨i1.l.tr r1,r2⟩
  ·intro h;cases h
structure Fix (c:List Ct)(t:Ct)(m:Cm)(s:List SV):Prop where
 o:CC m s
 z:∃v:SV,s[0]?=some v/\v.st=[]/\v.set &&& (2 ^ m.params.length - 1)=v.set
 c:∀(pc:Nat) (x:Cd) (v:SV),m.code[pc]?=some x->s[pc]?=some v->∃st',xF c t m x v.st=some (st',true)/\(fo m pc x).2=true/\∀to∈(fo m pc x).1,Has s to.toNat st' (m9 x v.set)
 l:∀(pc:Nat) (x:Cd) (v:SV),m.code[pc]?=some x->s[pc]?=some v->x.op=2->v.set.testBit x.a.toNat=true
def Yb {c t m s}(hf:MT c t m)(h:jV c t m=some s):Fix c t m s:=by
 have hok:=Kr hf h;have hcn:=hf.n;unfold jV at h;cases hg:qV c t m (256*m.code.length+1) (Jo m) [0]with
 |none=>rw[hg]at h;cases h
 |some u=>
  rw[hg,Option.bind_some]at h;cases hc:(u.zip m.code).all pm with
  |false=>rw[hc]at h;cases h
  |true=>
   rw[hc]at h;cases h;have hphi:LK (Jo m)<=256*m.code.length:=by
    have hp:=hf.p;have h2:2 ^ m.params.length<=2 ^ 4:=Nat.pow_le_pow_right (by omega) hp;have:=wx (List.replicate m.code.length (⟨false,[],0⟩:SV)) 0 (by rw[mν];exact hcn) ⟨true,[],2 ^ m.params.length - 1⟩;rw[N4,List.getElem_replicate]at this;simp only[cond_true,cond_false]at this;unfold Jo;omega
   have h00:(Jo m)[0]?=some ⟨true,[],2 ^ m.params.length - 1⟩:=by
    unfold Jo;rw[qα (by rw[mν];exact hcn)]
   obtain⟨r1,r2⟩:=M3 hf hg (Wv hf) (fun p hp=>by rw[List.mem_singleton.1 hp];exact hcn) (by simp only[List.length_cons,List.length_nil];omega) fun pc v hv hr=>by
    refine .inl ?_;by_cases hp:pc=0
    ·simp[hp]
    ·unfold Jo at hv;rw[mτ (fun e=>hp e.symm),List.getElem?_replicate]at hv;by_cases hpl:pc<m.code.length
     ·rw[if_pos hpl]at hv;cases hv;cases hr
     ·rw[if_neg hpl]at hv;cases hv
   have good:∀(pc:Nat) (x:Cd) (v:SV),m.code[pc]?=some x->s[pc]?=some v->pm (v,x)=true:=fun pc x v hx hv=>by
    obtain⟨h1,rfl⟩:=List.getElem?_eq_some_iff.1 hx;obtain⟨h2,rfl⟩:=List.getElem?_eq_some_iff.1 hv;have:=mζ.1 hc ((s.zip m.code)[pc]'(by rw[qβ];omega)) (lμ _);rw[List.getElem_zip]at this;exact this
   have reach:∀(pc:Nat) (x:Cd) (v:SV),m.code[pc]?=some x->s[pc]?=some v->v.r=true:=fun pc x v hx hv=>by
    have:=good pc x v hx hv;unfold pm at this;rw[lγ]at this;exact this.1
   refine⟨hok,?_,fun pc x v hx hv=>r2 pc v hv (reach pc x v hx hv) x v hx hv,fun pc x v hx hv ho=>?_⟩
   ·obtain⟨v,hv,-,hs,hb⟩:=r1 0 _ h00 rfl;exact⟨v,hv,hs,hb⟩
   ·have:=good pc x v hx hv;unfold pm at this;rw[lγ]at this;have h2:=this.2;simp only[ho,show az 2 2=true from rfl,Bool.not_true,Bool.false_or]at h2;exact h2
def T8 {n:Nat}(h:n<1000000001):cI n 8=true:=dz h (by omega)
def vG (v:Va):Nat:=v.s.length+v.I.length+v.L.length
def lx (o:LN)(l:List Va):Option (Va×Int):=
 bif cM o [105,110,116,115]then some (⟨4,0,[],l.map Va.n,[]⟩,0)else bif cM o [115,116,114,105,110,103,115]then some (⟨5,0,[],[],l.map Va.s⟩,0)else
 match l with
 |[]=>none
 |a::r=>
  bif cM o [108,101,110]then some (ϊ (vG a:Nat),0)else
  bif cM o [115,116,114]then some (⟨3,0,BE a.n,[],[]⟩,0)else
  match r with
  |[]=>none
  |b::r2=>
   bif cM o [97,112,112,101,110,100]then(bif az (vG a:Nat) 16 then some (v0,5)else bif az a.k 4 then some (⟨a.k,a.n,a.s,a.I++[b.n],a.L⟩,0)else some (⟨a.k,a.n,a.s,a.I,a.L++[b.s]⟩,0))else
   bif aK b.n 0 then some (v0,20)else bif aV (vG a:Nat) b.n then some (v0,20)else
   bif cM o [97,116]then(bif az a.k 4 then a.I[b.n.toNat]?.map (fun x=>(ϊ x,0))else a.L[b.n.toNat]?.map (fun t=>(⟨3,0,t,[],[]⟩,0)))else
   match r2 with
   |[]=>none
   |c::_=>
    bif az a.k 4 then a.I[b.n.toNat]?.map (fun _=>(⟨a.k,a.n,a.s,a.I.set b.n.toNat c.n,a.L⟩,0))else a.L[b.n.toNat]?.map (fun _=>(⟨a.k,a.n,a.s,a.I,a.L.set b.n.toNat c.s⟩,0))
def Y_ (m:Nat)(n:Int):Ω (m+1) 301 [pI n] []=lJ [.int .i64 n]:=by kernel_rfl
def Ħ (n:Int)(h:kg n)(hm:1<=m):Ω m 301 [pI n] []=some (pS (BE n),[]):=by
 replace hm:=fuel hm;obtain⟨m,rfl,hm⟩:=hm;rw[Y_];have h1:aV (-9223372036854775808) n=true:=by rw[bk];exact lκ h.1
 have h2:aV n 9223372036854775807=true:=by rw[bk];exact lκ h.2
 simp only[lJ,h1,h2,Bool.and_self,cond_true]
def M7 {m:Nat}(l:List Va)(hl:l.length<1501)(i2:Int)(s4 s5:LN)(K:_->R):∀(e q i:Nat),i+e=l.length->e<q->itL (gz (cq lay0.tab m) m K) q (l.map Va.e,(l.length:Int),(i:Int),s4,s5,i,(l.take i).map fun v=>Da.int .i64 v.n)=K (l.map Va.e,(l.length:Int),(l.length:Int),false,s4,s5,l.length,l.map fun v=>Da.int .i64 v.n)
 |0,q+1,i,hi,_=>by
  obtain rfl:i=l.length:=by omega
  rw[aQ];simp only[gz,c8,aX,List.take_length]
 |e+1,q+1,i,hi,hq=>by
  have hil:i<l.length:=by omega
  rw[aQ];have hb:cI (((l.take i).map fun v=>Da.int .i64 v.n).length+[Da.int .i64 l[i].r.N].length) 8=true:=T8 (by rw[lα,mε];simp;omega);have hn:Nat.beq i ((l.take i).map fun v=>Da.int .i64 v.n).length=true:=by rw[lα,mε,Nat.min_eq_left (by omega),Nat.beq_refl]
  have ht:(l.take i).map (fun v=>Da.int .i64 v.n)++[Da.int .i64 l[i].r.N]=(l.take (i+1)).map fun v=>Da.int .i64 v.n:=by
   rw[List.take_add_one,lη hil,Option.toList_some,List.map_append];rfl
  simp only[gz,fp (show((i:Int)<(l.length:Int)) by omega),aN,aU,be,bh hil,bw,Va.e,KI,hb,hn,wS (show i<c9 by unfold c9;omega)];rw[ht,show((l.take (i+1)).map fun v=>Da.int .i64 v.n).length=i+1 by rw[lα,mε];omega];exact M7 l hl i2 s4 s5 K e q (i+1) (by omega) (by omega)
def M8 {m:Nat}(l:List Va)(hl:l.length<1501)(i2:Int)(s4 s5:LN)(K:_->R):∀(e q i:Nat),i+e=l.length->e<q->itL (gA (cq lay0.tab m) m K) q (l.map Va.e,(l.length:Int),(i:Int),s4,s5,i,(l.take i).map fun v=>Da.str v.s)=K (l.map Va.e,(l.length:Int),(l.length:Int),false,s4,s5,l.length,l.map fun v=>Da.str v.s)
 |0,q+1,i,hi,_=>by
  obtain rfl:i=l.length:=by omega
  rw[aQ];simp only[gA,c8,aX,List.take_length]
 |e+1,q+1,i,hi,hq=>by
  have hil:i<l.length:=by omega
  rw[aQ];have hb:cI (((l.take i).map fun v=>Da.str v.s).length+[Da.str l[i].r.S].length) 16=true:=by
   unfold cI;rw[lγ,Nat.ble_eq,Nat.ble_eq,lα,mε];simp only[List.length_cons,List.length_nil];omega
  have hn:Nat.beq i ((l.take i).map fun v=>Da.str v.s).length=true:=by rw[lα,mε,Nat.min_eq_left (by omega),Nat.beq_refl]
  have ht:(l.take i).map (fun v=>Da.str v.s)++[Da.str l[i].r.S]=(l.take (i+1)).map fun v=>Da.str v.s:=by
   rw[List.take_add_one,lη hil,Option.toList_some,List.map_append];rfl
  simp only[gA,fp (show((i:Int)<(l.length:Int)) by omega),aN,aU,be,bh hil,bw,Va.e,KI,hb,hn,wS (show i<c9 by unfold c9;omega)];rw[ht,show((l.take (i+1)).map fun v=>Da.str v.s).length=i+1 by rw[lα,mε];omega];exact M8 l hl i2 s4 s5 K e q (i+1) (by omega) (by omega)
def Ĩ (v:Va)(hv:Wk v)(hm:1<=m)(x y:Nat)(hx:x=v.I.length)(hy:y=v.L.length):Ω m 300 [.agg [pI v.k,pI v.n,pS v.s,.arr 0 0 x 1,.arr 1 0 y 1]] [.arr (v.I.map iE),.arr (v.L.map .str)]=some (pI (vG v:Nat),[.arr (v.I.map iE),.arr (v.L.map .str)]):=by
 replace hm:=fuel hm;obtain⟨m,rfl,hm⟩:=hm;apply To m v.k v.n v.s x y;subst hx hy;have h1:=hv.s;have h2:=hv.I;have h3:=hv.L;unfold FE vG;rw[cV (n:=(v.s.length:Int)+(v.I.length:Int)) (by omega) (by omega),cV (by omega) (by omega)];simp only[Int.natCast_add]
def Jx (o:LN)(l:List Va){r:Va×Int}(hw:∀v∈l,Wk v)(hl:l.length<=100)(h:lx o l=some r)(hm:1510<=m):Ω m 233 [pS o,pL 5 (l.map Va.e)] []=vE r:=by
 replace hm:=fuel hm;obtain⟨m,rfl,hm⟩:=hm;apply Ke m o (l.map Va.e);unfold w4;unfold lx at h;have z:∀y:Va×Int,some y=some r->vE y=vE r:=fun y e=>by rw[Option.some.inj e]
 refine gD vE _ _ _ _ _ h (fun h=>?_) fun h=>?_
 ·rw[lα];refine(M7 l (by omega) 0 _ _ _ l.length m 0 (by omega) (by omega)).trans ?_;rw[<-Option.some.inj h];show some (_,_)=vE _;unfold vE Va.e Va.c;simp only[List.drop_zero,List.map_map];rw[lξ (by rw[lα];omega)];rfl
 refine gD vE _ _ _ _ _ h (fun h=>?_) fun h=>?_
 ·rw[lα];refine(M8 l (by omega) 0 _ _ _ l.length m 0 (by omega) (by omega)).trans ?_;rw[<-Option.some.inj h];show some (_,_)=vE _;unfold vE Va.e Va.c;simp only[List.drop_zero,List.map_map];rw[lξ (by rw[lα];omega)];rfl
 match l,h with
 |a::t,h=>
  have wa:=hw a lχ;have h1:=wa.s;have h2:=wa.I;have h3:=wa.L;have ec:=iN (m:=m) a ⟨by omega,by omega⟩ (by omega)
  have es:=Ĩ (m:=m) a wa (by omega) _ _ rfl rfl;have ei:=fun n=>ae (pO (m:=m) n (by omega))
  simp only[Va.e,Va.cl,Va.ch]at ec ei;rw[show bI (List.map Va.e (a::t)) 0=some (Da.agg a.c)from rfl,bw,KI,show a.r.e=Da.agg a.c from rfl,ae ec];simp only[show ∀(x:List D) (K:List D->R),nD (.agg x) K=K x from fun _ _=>rfl,aY,ba,bV,jZ,dV,aC,fg,ae es,ei,KI];refine gD vE _ _ _ _ _ h (z _) fun h=>?_
  refine gD vE _ _ _ _ _ h (fun h=>?_) fun h=>?_
  ·rw[ae (Ħ (m:=m) a.n wa.n (by omega))];exact z _ h
  match t,h with
  |b::t2,h=>
   have wb:=hw b (mα _ lχ);refine gD vE _ _ _ _ _ h (fun h=>?_) fun h=>?_
   ·refine gD vE _ _ _ _ _ h (z _) fun h=>?_
    refine gD vE _ _ _ _ _ h (fun h=>?_) (fun h=>?_)
    ·show iL (Nat.beq a.I.length (a.I.map iE).length) (iL (cI ((a.I.map iE).length+1) 8) _ _) _=_;rw[lα,Nat.beq_refl,T8 (by omega),aN,aN];rw[<-z _ h];unfold vE Va.e Va.c;simp only[List.drop_zero,List.take_length,List.map_append,List.map_cons,List.map_nil];rw[lξ (by rw[lα];omega)];rfl
    ·show iL (Nat.beq a.L.length (a.L.map Da.str).length) (iL (cI ((a.L.map Da.str).length+1) 16) _ _) _=_;have:cI (a.L.length+1) 16=true:=by unfold cI;rw[lγ,Nat.ble_eq,Nat.ble_eq];omega
     rw[lα,Nat.beq_refl,this,aN,aN];rw[<-z _ h];unfold vE Va.e Va.c;simp only[List.drop_zero,List.take_length,List.map_append,List.map_cons,List.map_nil];rw[lξ (by rw[lα];omega)];try rfl
   show iL (aK b.n 0) _ (iL (aV (vG a:Nat) b.n) _ (iL (cM o [97,116]) _ _))=_;cases hn:aK b.n 0 with
   |true=>rw[hn,cond_true]at h;exact z _ h
   |false=>
   rw[hn,cond_false]at h;rw[aX];rw[bT,lζ]at hn;have h0:aV 0 b.n=true:=by rw[bk];exact lκ (by omega)
   refine gD vE _ _ _ _ _ h (z _) fun h=>?_
   have eI:∀x,a.I[b.n.toNat]?=some x->aK b.n (a.I.length:Nat)=true/\(a.I.map iE)[0+b.n.toNat]?=some (iE x):=fun x e=>by
    obtain⟨g1,g2⟩:=List.getElem?_eq_some_iff.1 e;refine⟨by rw[bT];exact lκ (by omega),?_⟩
    rw[Nat.zero_add,lσ,e];rfl
   have eL:∀x,a.L[b.n.toNat]?=some x->aK b.n (a.L.length:Nat)=true/\(a.L.map Da.str)[0+b.n.toNat]?=some (.str x):=fun x e=>by
    obtain⟨g1,g2⟩:=List.getElem?_eq_some_iff.1 e;refine⟨by rw[bT];exact lκ (by omega),?_⟩
    rw[Nat.zero_add,lσ,e];rfl
   cases ha:cM o [97,116]with
   |true=>
    rw[ha,cond_true]at h;rw[aN];refine gD vE _ _ _ _ _ h (fun h=>?_) fun h=>?_
    ·rw[mρ]at h;obtain⟨x,hx,rfl⟩:=h;obtain⟨g1,g2⟩:=eI x hx;show iL (aV 0 b.n) (iL (aK b.n (a.I.length:Nat)) (cL ((a.I.map iE)[0+b.n.toNat]?) _) _) _=_;rw[h0,g1,g2];rfl
    ·rw[mρ]at h;obtain⟨x,hx,rfl⟩:=h;obtain⟨g1,g2⟩:=eL x hx;show iL (aV 0 b.n) (iL (aK b.n (a.L.length:Nat)) (cL ((a.L.map Da.str)[0+b.n.toNat]?) _) _) _=_;rw[h0,g1,g2];rfl
   |false=>
    rw[ha,cond_false]at h;rw[aX,aX];match t2,h with
    |c::_,h=>
     refine gD vE _ _ _ _ _ h (fun h=>?_) fun h=>?_
     ·rw[mρ]at h;obtain⟨x,hx,rfl⟩:=h;obtain⟨g1,g2⟩:=eI x hx;show iL (aV 0 b.n) (iL (aK b.n (a.I.length:Nat)) (cL ((a.I.map iE)[0+b.n.toNat]?) _) _) _=_;rw[h0,g1,g2];show some (D.tup [.p (.agg [_,_,_,.slice 1 (List.take a.I.length (List.drop 0 ((a.I.map iE).set (0+b.n.toNat) (iE c.n)))),.slice 1 (List.take a.L.length (List.drop 0 (a.L.map Da.str)))]),_],[])=_;unfold vE Va.e Va.c;rw[List.drop_zero,List.drop_zero,Nat.zero_add,lξ (by rw[List.length_set,lα];omega),lξ (by rw[lα];omega),List.map_set];try rfl
     ·rw[mρ]at h;obtain⟨x,hx,rfl⟩:=h;obtain⟨g1,g2⟩:=eL x hx;show iL (aV 0 b.n) (iL (aK b.n (a.L.length:Nat)) (cL ((a.L.map Da.str)[0+b.n.toNat]?) _) _) _=_;rw[h0,g1,g2];show some (D.tup [.p (.agg [_,_,_,.slice 1 (List.take a.I.length (List.drop 0 (a.I.map iE))),.slice 1 (List.take a.L.length (List.drop 0 ((a.L.map Da.str).set (0+b.n.toNat) (.str c.s))))]),_],[])=_;unfold vE Va.e Va.c;rw[List.drop_zero,List.drop_zero,Nat.zero_add,lξ (l:=a.I.map iE) (by rw[lα];omega),lξ (by rw[List.length_set,lα];omega),List.map_set];try rfl
def Fv (k:Int)(v:Va):Prop:=kh v k=true/\kg v.n/\∀x∈v.I,kg x
def WW (v:Va):kj v=true↔(0<=v.k/\v.k<=5)/\(v.n=0\/v.k=1\/(v.k=2/\v.n=1))/\(v.s=[]\/v.k=3)/\(v.I=[]\/v.k=4)/\(v.L=[]\/v.k=5)/\v.s.length<=64/\v.I.length<=16/\v.L.length<=16/\∀t∈v.L,t.length<=64:=by
 have e0:∀{α:Type} (l:List α),(0<(l.length:Int)->False)↔l=[]:=fun l=>by
  cases l with
  |nil=>simp
  |cons a r=>simp
 unfold kj xJ xK GD uy lf;simp only[lγ,Bool.not_eq_true',qγ,Bool.and_eq_false_iff,Bool.not_eq_false',bT,bp,hM,lζ,lδ,mζ,Bool.not_eq_eq_eq_not,Bool.not_true,Bool.not_false];constructor
 ·rintro⟨⟨h1,h2⟩,h3,⟨h4,h5,h6⟩,⟨h7,h8,h9⟩,h10⟩
  refine⟨by omega,?_,?_,?_,?_,by omega,by omega,by omega,fun t ht=>by have:=h10 t ht;omega⟩
  ·rcases h3 with h|h|h
   ·exact .inl h
   ·exact .inr (.inl h)
   ·exact .inr (.inr h)
  ·exact h4
  ·rcases h5 with h|h
   ·exact .inl ((e0 v.I).1 h)
   ·exact .inr h
  ·rcases h6 with h|h
   ·exact .inl ((e0 v.L).1 h)
   ·exact .inr h
 ·rintro⟨h1,h3,h4,h5,h6,h7,h8,h9,h10⟩
  refine⟨⟨by omega,by omega⟩,?_,⟨h4,?_,?_⟩,⟨by omega,by omega,by omega⟩,fun t ht=>by have:=h10 t ht;omega⟩
  ·rcases h3 with h|h|h
   ·exact .inl h
   ·exact .inr (.inl h)
   ·exact .inr (.inr h)
  ·rcases h5 with h|h
   ·exact .inl ((e0 v.I).2 h)
   ·exact .inr h
  ·rcases h6 with h|h
   ·exact .inl ((e0 v.L).2 h)
   ·exact .inr h
def mE (k:Int)(v:Va):Fv k v↔(v.k=k/\(0<=k/\k<=5)/\(v.n=0\/k=1\/(k=2/\v.n=1))/\(v.s=[]\/k=3)/\(v.I=[]\/k=4)/\(v.L=[]\/k=5)/\v.s.length<=64/\v.I.length<=16/\v.L.length<=16/\∀t∈v.L,t.length<=64)/\kg v.n/\∀x∈v.I,kg x:=by
 unfold Fv kh;rw[lγ,WW,eqI_t];constructor
 ·rintro⟨⟨rfl,h⟩,h2⟩;exact⟨⟨rfl,h⟩,h2⟩
 ·rintro⟨⟨rfl,h⟩,h2⟩;exact⟨⟨rfl,h⟩,h2⟩
def BA {k:Int}{v:Va}(h:Fv k v):Wk v:=by
 obtain⟨⟨h0,h1,h2,h3,h4,h5,h6,h7,h8,h9⟩,h10,h11⟩:=(mE k v).1 h;exact⟨h10,h11,h6,h7,h8,h9,fun e=>h5.resolve_right (by omega),fun e=>h4.resolve_right (by omega),fun e=>h3.resolve_right (by omega)⟩
def Ĥ:Wk v0:=⟨Mr,(fun x hx=>by cases hx),by simp[v0],by simp[v0],by simp[v0],(fun x hx=>by cases hx),fun _=>rfl,fun _=>rfl,fun _=>rfl⟩
def fv1 {v:Va}:Fv 1 v↔∃n,v=⟨1,n,[],[],[]⟩/\kg n:=by
 rw[mE];constructor
 ·rintro⟨⟨h0,h1,h2,h3,h4,h5,h6,h7,h8,h9⟩,h10,h11⟩
  obtain⟨k,n,s,I,L⟩:=v;simp only at*
  subst h0;exact⟨n,by rw[h3.resolve_right (by omega),h4.resolve_right (by omega),h5.resolve_right (by omega)],h10⟩
 ·rintro⟨n,rfl,h⟩
  exact⟨⟨rfl,by omega,.inr (.inl rfl),.inl rfl,.inl rfl,.inl rfl,by simp,by simp,by simp,by simp⟩,h,by simp⟩
def fv2 {v:Va}:Fv 2 v↔∃n,v=⟨2,n,[],[],[]⟩/\(n=0\/n=1):=by
 rw[mE];constructor
 ·rintro⟨⟨h0,h1,h2,h3,h4,h5,h6,h7,h8,h9⟩,h10,h11⟩
  obtain⟨k,n,s,I,L⟩:=v;simp only at*
  subst h0;exact⟨n,by rw[h3.resolve_right (by omega),h4.resolve_right (by omega),h5.resolve_right (by omega)],by omega⟩
 ·rintro⟨n,rfl,h⟩
  refine⟨⟨rfl,by omega,?_,.inl rfl,.inl rfl,.inl rfl,by simp,by simp,by simp,by simp⟩,by unfold kg;simp only;omega,by simp⟩
  rcases h with h|h
  ·exact .inl h
  ·exact .inr (.inr ⟨rfl,h⟩)
def fv3 {v:Va}:Fv 3 v↔∃s,v=⟨3,0,s,[],[]⟩/\s.length<=64:=by
 rw[mE];constructor
 ·rintro⟨⟨h0,h1,h2,h3,h4,h5,h6,h7,h8,h9⟩,h10,h11⟩
  obtain⟨k,n,s,I,L⟩:=v;simp only at*
  subst h0;exact⟨s,by rw[show n=0 by omega,h4.resolve_right (by omega),h5.resolve_right (by omega)],h6⟩
 ·rintro⟨s,rfl,h⟩
  exact⟨⟨rfl,by omega,.inl rfl,.inr rfl,.inl rfl,.inl rfl,h,by simp,by simp,by simp⟩,Mr,by simp⟩
def fv4 {v:Va}:Fv 4 v↔∃I,v=⟨4,0,[],I,[]⟩/\I.length<=16/\∀x∈I,kg x:=by
 rw[mE];constructor
 ·rintro⟨⟨h0,h1,h2,h3,h4,h5,h6,h7,h8,h9⟩,h10,h11⟩
  obtain⟨k,n,s,I,L⟩:=v;simp only at*
  subst h0;exact⟨I,by rw[show n=0 by omega,h3.resolve_right (by omega),h5.resolve_right (by omega)],h7,h11⟩
 ·rintro⟨I,rfl,h,h'⟩
  exact⟨⟨rfl,by omega,.inl rfl,.inl rfl,.inr rfl,.inl rfl,by simp,h,by simp,by simp⟩,Mr,h'⟩
def fv5 {v:Va}:Fv 5 v↔∃L,v=⟨5,0,[],[],L⟩/\L.length<=16/\∀t∈L,t.length<=64:=by
 rw[mE];constructor
 ·rintro⟨⟨h0,h1,h2,h3,h4,h5,h6,h7,h8,h9⟩,h10,h11⟩
  obtain⟨k,n,s,I,L⟩:=v;simp only at*
  subst h0;exact⟨L,by rw[show n=0 by omega,h3.resolve_right (by omega),h4.resolve_right (by omega)],h8,h9⟩
 ·rintro⟨L,rfl,h,h'⟩
  exact⟨⟨rfl,by omega,.inl rfl,.inl rfl,.inl rfl,.inr rfl,by simp,by simp,h,h'⟩,Mr,by simp⟩
def Nz {n:Int}(h:kg n):Fv 1 (ϊ n):=fv1.2 ⟨n,rfl,h⟩
def Ē (b:Bool):Fv 2 (Yr b):=fv2.2 ⟨_,rfl,by cases b<;>simp⟩
def Į (k:Int)(r:Va×Int):Prop:=r.2=0->Fv k r.1
def Ϸ {v:Va}:Į 1 (ġ [45] v):=fun _=>Nz (ý [45] v.n Mr)
def ϸ {v:Va}:Į 2 (ġ [33] v):=fun _=>Ē _
variable {a:Va}
def GG {b:Va}(o:LN)(ho:o=[43]\/o=[45]\/o=[42]\/o=[47]\/o=[37])(ha:Fv 1 a):Į 1 (Ă o a b):=fun _=>by
 obtain⟨n,rfl,hn⟩:=fv1.1 ha;rcases ho with rfl|rfl|rfl|rfl|rfl<;>exact Nz (ý _ _ hn)
def ŏ {b:Va}(ha:Fv 3 a)(hb:Fv 3 b):Į 3 (Ă [43] a b):=by
 obtain⟨s,rfl,hs⟩:=fv3.1 ha;obtain⟨t,rfl,ht⟩:=fv3.1 hb;have e:Ă [43] ⟨3,0,s,[],[]⟩ ⟨3,0,t,[],[]⟩=bif aK 64 (s.length+t.length:Nat)then(v0,5)else(⟨3,0,s++t,[],[]⟩,0):=rfl
 rw[e];cases h:aK 64 (s.length+t.length:Nat)with
 |true=>intro h;cases h
 |false=>
  intro _;rw[bT,lζ]at h;exact fv3.2 ⟨_,rfl,by rw[lε];omega⟩
def k7 {b:Va}(o:LN)(ho:o=[61,61]\/o=[33,61]\/o=[60]\/o=[60,61]\/o=[62]\/o=[62,61]):Į 2 (Ă o a b):=fun _=>by
 rcases ho with rfl|rfl|rfl|rfl|rfl|rfl<;>exact Ē _
def W4 (k:Int)(o:Option (Va×Int)):Prop:=∃r,o=some r/\Į k r
def Kw {k:Int}(ha:Fv k a):W4 1 (lx [108,101,110] [a]):=by
 refine⟨_,rfl,fun _=>Nz ?_⟩
 have:=BA ha;have h1:=this.s;have h2:=this.I;have h3:=this.L;unfold vG kg;omega
def VM {n:Int}(h:kg n):(BE n).length<=64:=by
 unfold BE;rw[lα];have:=Lib.itoa_length_le n h.1 h.2;omega
def Œ (ha:Fv 1 a):W4 3 (lx [115,116,114] [a]):=by
 obtain⟨n,rfl,hn⟩:=fv1.1 ha;exact⟨_,rfl,fun _=>fv3.2 ⟨_,rfl,VM hn⟩⟩
def Ő {b:Va}(ha:Fv 4 a)(hb:Fv 1 b):W4 1 (lx [97,116] [a,b]):=by
 obtain⟨I,rfl,hl,hI⟩:=fv4.1 ha;obtain⟨n,rfl,hn⟩:=fv1.1 hb;have e:lx [97,116] [⟨4,0,[],I,[]⟩,⟨1,n,[],[],[]⟩]=bif aK n 0 then some (v0,20)else bif aV ((vG ⟨4,0,[],I,[]⟩:Nat):Int) n then some (v0,20)else I[n.toNat]?.map (fun x=>(ϊ x,0)):=rfl
 rw[e,show vG ⟨4,0,[],I,[]⟩=I.length by simp[vG]];cases h1:aK n 0 with
 |true=>exact⟨_,rfl,fun h=>by cases h⟩
 |false=>
 cases h2:aV (I.length:Int) n with
 |true=>exact⟨_,rfl,fun h=>by cases h⟩
 |false=>
  rw[bT,lζ]at h1;rw[bk,lζ]at h2;rw[cond_false,cond_false,lη (by omega)];exact⟨_,rfl,fun _=>Nz (hI _ (lμ _))⟩
def ő {b:Va}(ha:Fv 5 a)(hb:Fv 1 b):W4 3 (lx [97,116] [a,b]):=by
 obtain⟨L,rfl,hl,hL⟩:=fv5.1 ha;obtain⟨n,rfl,hn⟩:=fv1.1 hb;have e:lx [97,116] [⟨5,0,[],[],L⟩,⟨1,n,[],[],[]⟩]=bif aK n 0 then some (v0,20)else bif aV ((vG ⟨5,0,[],[],L⟩:Nat):Int) n then some (v0,20)else L[n.toNat]?.map (fun t=>(⟨3,0,t,[],[]⟩,0)):=rfl
 rw[e,show vG ⟨5,0,[],[],L⟩=L.length by simp[vG]];cases h1:aK n 0 with
 |true=>exact⟨_,rfl,fun h=>by cases h⟩
 |false=>
 cases h2:aV (L.length:Int) n with
 |true=>exact⟨_,rfl,fun h=>by cases h⟩
 |false=>
  rw[bT,lζ]at h1;rw[bk,lζ]at h2;rw[cond_false,cond_false,lη (by omega)];exact⟨_,rfl,fun _=>fv3.2 ⟨_,rfl,hL _ (lμ _)⟩⟩
def Yu {b:Va}(ha:Fv 4 a)(hb:Fv 1 b):W4 4 (lx [97,112,112,101,110,100] [a,b]):=by
 obtain⟨I,rfl,hl,hI⟩:=fv4.1 ha;obtain⟨n,rfl,hn⟩:=fv1.1 hb;have e:lx [97,112,112,101,110,100] [⟨4,0,[],I,[]⟩,⟨1,n,[],[],[]⟩]=bif az ((vG ⟨4,0,[],I,[]⟩:Nat):Int) 16 then some (v0,5)else some (⟨4,0,[],I++[n],[]⟩,0):=rfl
 rw[e,show vG ⟨4,0,[],I,[]⟩=I.length by simp[vG]];cases h1:az (I.length:Int) 16 with
 |true=>exact⟨_,rfl,fun h=>by cases h⟩
 |false=>
  rw[bp,lζ]at h1;refine⟨_,rfl,fun _=>fv4.2 ⟨_,rfl,by rw[lε];simp only[List.length_singleton];omega,fun x hx=>?_⟩⟩
  rcases qε.1 hx with hx|hx
  ·exact hI x hx
  ·rw[List.mem_singleton.1 hx];exact hn
def Yv {b:Va}(ha:Fv 5 a)(hb:Fv 3 b):W4 5 (lx [97,112,112,101,110,100] [a,b]):=by
 obtain⟨L,rfl,hl,hL⟩:=fv5.1 ha;obtain⟨s,rfl,hs⟩:=fv3.1 hb;have e:lx [97,112,112,101,110,100] [⟨5,0,[],[],L⟩,⟨3,0,s,[],[]⟩]=bif az ((vG ⟨5,0,[],[],L⟩:Nat):Int) 16 then some (v0,5)else some (⟨5,0,[],[],L++[s]⟩,0):=rfl
 rw[e,show vG ⟨5,0,[],[],L⟩=L.length by simp[vG]];cases h1:az (L.length:Int) 16 with
 |true=>exact⟨_,rfl,fun h=>by cases h⟩
 |false=>
  rw[bp,lζ]at h1;refine⟨_,rfl,fun _=>fv5.2 ⟨_,rfl,by rw[lε];simp only[List.length_singleton];omega,fun x hx=>?_⟩⟩
  rcases qε.1 hx with hx|hx
  ·exact hL x hx
  ·rw[List.mem_singleton.1 hx];exact hs
variable {y:α}
def BO {P:α->Prop}{l:List α}{i:Nat}(h:∀x∈l,P x)(hy:P y):∀x∈l.set i y,P x:=fun x hx=>by
 rcases List.mem_or_eq_of_mem_set hx with hx|rfl
 ·exact h x hx
 ·exact hy
def Yw {b d:Va}(ha:Fv 4 a)(hb:Fv 1 b)(hd:Fv 1 d):W4 4 (lx [115,101,116] [a,b,d]):=by
 obtain⟨I,rfl,hl,hI⟩:=fv4.1 ha;obtain⟨n,rfl,hn⟩:=fv1.1 hb;obtain⟨x,rfl,hx⟩:=fv1.1 hd;have e:lx [115,101,116] [⟨4,0,[],I,[]⟩,⟨1,n,[],[],[]⟩,⟨1,x,[],[],[]⟩]=bif aK n 0 then some (v0,20)else bif aV ((vG ⟨4,0,[],I,[]⟩:Nat):Int) n then some (v0,20)else I[n.toNat]?.map (fun _=>(⟨4,0,[],I.set n.toNat x,[]⟩,0)):=rfl
 rw[e,show vG ⟨4,0,[],I,[]⟩=I.length by simp[vG]];cases h1:aK n 0 with
 |true=>exact⟨_,rfl,fun h=>by cases h⟩
 |false=>
 cases h2:aV (I.length:Int) n with
 |true=>exact⟨_,rfl,fun h=>by cases h⟩
 |false=>
  rw[bT,lζ]at h1;rw[bk,lζ]at h2;rw[cond_false,cond_false,lη (by omega)];exact⟨_,rfl,fun _=>fv4.2 ⟨_,rfl,by rw[List.length_set];exact hl,BO hI hx⟩⟩
def Yx {b d:Va}(ha:Fv 5 a)(hb:Fv 1 b)(hd:Fv 3 d):W4 5 (lx [115,101,116] [a,b,d]):=by
 obtain⟨L,rfl,hl,hL⟩:=fv5.1 ha;obtain⟨n,rfl,hn⟩:=fv1.1 hb;obtain⟨x,rfl,hx⟩:=fv3.1 hd;have e:lx [115,101,116] [⟨5,0,[],[],L⟩,⟨1,n,[],[],[]⟩,⟨3,0,x,[],[]⟩]=bif aK n 0 then some (v0,20)else bif aV ((vG ⟨5,0,[],[],L⟩:Nat):Int) n then some (v0,20)else L[n.toNat]?.map (fun _=>(⟨5,0,[],[],L.set n.toNat x⟩,0)):=rfl
 rw[e,show vG ⟨5,0,[],[],L⟩=L.length by simp[vG]];cases h1:aK n 0 with
 |true=>exact⟨_,rfl,fun h=>by cases h⟩
 |false=>
 cases h2:aV (L.length:Int) n with
 |true=>exact⟨_,rfl,fun h=>by cases h⟩
 |false=>
  rw[bT,lζ]at h1;rw[bk,lζ]at h2;rw[cond_false,cond_false,lη (by omega)];exact⟨_,rfl,fun _=>fv5.2 ⟨_,rfl,by rw[List.length_set];exact hl,BO hL hx⟩⟩
def Yy {l:List Va}(hl:l.length<=16)(h:∀v∈l,Fv 1 v):W4 4 (lx [105,110,116,115] l):=by
 refine⟨_,rfl,fun _=>fv4.2 ⟨_,rfl,by rw[lα];exact hl,fun x hx=>?_⟩⟩
 obtain⟨v,hv,rfl⟩:=List.mem_map.1 hx;exact(h v hv).2.1
def Kx {l:List Va}(hl:l.length<=16)(h:∀v∈l,Fv 3 v):W4 5 (lx [115,116,114,105,110,103,115] l):=by
 refine⟨_,rfl,fun _=>fv5.2 ⟨_,rfl,by rw[lα];exact hl,fun x hx=>?_⟩⟩
 obtain⟨v,hv,rfl⟩:=List.mem_map.1 hx;exact(BA (h v hv)).s
section
structure Mc where
 (ty me pc:Int)
 ls:List Va
def Mc.r (m:Mc):bo:=⟨m.ty,m.me,m.pc,m.ls.map Va.e⟩
def Mc.e (m:Mc):Da:=m.r.e
def Aw (c:List Ct)(a:Int):Option Ct:=bif az (Jq c) 0 then dK c a else none
def t0:Ct:=⟨[],[],[]⟩
def m0:Cm:=⟨[],[],0,[],[]⟩
def p7 {l:List α}{x:Int}(h:dK l x=some y):y∈l:=by
 unfold dK at h;by_cases h0:0<=x
 ·rw[if_pos h0]at h;exact mθ h
 ·rw[if_neg h0]at h;cases h
def aaO {c:List Ct}{a:Int}{t:Ct}(h:Aw c a=some t):Jq c=0/\dK c a=some t/\t∈c:=by
 unfold Aw at h;cases hb:az (Jq c) 0 with
 |false=>rw[hb]at h;cases h
 |true=>rw[hb,cond_true]at h;exact⟨eqI_t.1 hb,h,p7 h⟩
def rTy (o:Option Ct):R:=some (.tup [.p (o.getD t0).e,pB o.isSome],[])
def rMe (o:Option Cm):R:=some (.tup [.p (o.getD m0).e,pB o.isSome],[])
section
variable {m:Nat} {c:List Ct} (hc:zB c)
include hc
def AC (a:Int)(hm:400002<=m):Ω m 51 [.p (c4 c).e,pI a] []=rTy (Aw c a):=by
 replace hm:=fuel hm;obtain⟨m,rfl,hm⟩:=hm;apply Pr m (c4 c) a;unfold A0 Aw;refine(ae (sL hc (m:=m) (by omega)) _).trans ?_;simp only[ba,bV,aC];cases hv:az (Jq c) 0 with
 |false=>rfl
 |true=>
  rw[Bool.not_true,aX,cond_true,show(c4 c).Types=c.map Ct.e from rfl,lα];cases h1:aK a 0 with
  |true=>rw[bT,lδ]at h1;rw[k6 (.inl h1)];rfl
  |false=>
  cases h2:aV (c.length:Int) a with
  |true=>rw[bk,lδ]at h2;rw[k6 (.inr h2)];rfl
  |false=>
  obtain⟨t,ht,htm⟩:=GC h1 h2;rw[aX,aX,aU,be,ht,bw,CU];rfl
def mL (c:List Ct)(a b:Int):Option Cm:=(Aw c a).bind fun t=>dK t.methods b
def ul (x:Mc)(hm:400003<=m):Ω m 45 [.p (c4 c).e,.p x.e] []=rMe (mL c x.ty x.me):=by
 replace hm:=fuel hm;obtain⟨m,rfl,hm⟩:=hm;apply Gk m (c4 c) x.r;unfold uo mL;refine(ae (AC hc x.ty (m:=m) (by omega)) _).trans ?_;simp only[dB,aY,ba,CU,aL,aC];cases ht:Aw c x.ty with
 |none=>rfl
 |some t=>
  rw[Option.bind_some];show iL true (iL (aK x.me 0) _ (iL (aV ((t.methods.map Cm.e).length:Int) x.me) _ (cL (bI (t.methods.map Cm.e) x.me) _))) _=_;rw[aN,lα];cases h1:aK x.me 0 with
  |true=>rw[bT,lδ]at h1;rw[k6 (.inl h1)];rfl
  |false=>
  cases h2:aV (t.methods.length:Int) x.me with
  |true=>rw[bk,lδ]at h2;rw[k6 (.inr h2)];rfl
  |false=>
  obtain⟨q,hq,-⟩:=GC h1 h2;rw[aX,aX,aU,be,hq,bw,GP];rfl
omit hc
def Xq (v:Va)(f:Fe)(hm:1505<=m):Ω m 53 [.p v.e,.p f.e] []=dQ (kh v f.kind):=by
 replace hm:=fuel hm;obtain⟨m,rfl,hm⟩:=hm;apply XO m v.r f.r;unfold MF;refine(ae (Cj v f.kind (m:=m) hm) _).trans ?_;simp only[ba,aL,aC]
def Xp (l:List Va)(fs:List Fe)(hl:l.length<1501)(hm:1507<=m):Ω m 52 [pL 5 (l.map Va.e),pL 7 (fs.map Fe.e),.p (.fn 53 [])] []=dQ (yg l (fs.map Fe.kind)):=by
 replace hm:=fuel hm;obtain⟨m,rfl,hm⟩:=hm;apply XN m (l.map Va.e) (fs.map Fe.e);unfold ME;rw[lα,lα,bp,mJ];by_cases h:(l.length:Int)=(fs.length:Int)
 ·have h':l.length=fs.length:=by omega
  rw[if_pos h,Ha l (fs.map Fe.kind) (by rw[lα];exact h')];have hz:(l.zip fs).length=l.length:=by rw[qβ];omega
  refine(br (l.zip fs) (fun q i=>itL (lq _ m _ _) q (fs.map Fe.e,l.map Va.e,(l.length:Int),i)) (fun p=>!kh p.1 p.2.kind) (fun _=>some (pB false,[])) (some (pB true,[])) (fun q i hi=>?_) (fun q=>?_) (by omega)).trans ?_
  ·rw[hz]at hi;rw[aQ];simp only[lq,fp (show((i:Int)<(l.length:Int)) by omega),aN,aU,be,bh hi,bh (show i<fs.length by omega),bw,Va.e,KI,Ũ,wS (show i<c9 by unfold c9;omega),List.getElem_zip];refine(ae (Xq l[i] fs[i] (m:=m) (by omega)) _).trans ?_;simp only[ba,aL,aC];cases kh l[i] fs[i].kind<;>rfl
  ·rw[aQ,hz];simp only[lq,c8,aX]
  ·rw[show((l.zip (fs.map Fe.kind)).all fun p=>kh p.1 p.2)=(l.zip fs).all fun p=>kh p.1 p.2.kind by rw[List.zip_map_right,List.all_map];rfl,iG];cases(l.zip fs).findIdx? fun p=>!kh p.1 p.2.kind<;>rfl
 ·rw[if_neg h,G9 l _ (by rw[lα];omega)]
def WV (c:List Ct)(a:Int)(l:List Va):Bool:=match Aw c a with|none=>false|some t=>yg l (t.fields.map Fe.kind)
include hc
def ī (a:Int)(l:List Va)(hl:l.length<1501)(hm:400003<=m):Ω m 19 [.p (c4 c).e,pI a,pL 5 (l.map Va.e)] []=dQ (WV c a l):=by
 replace hm:=fuel hm;obtain⟨m,rfl,hm⟩:=hm;apply Ļ m (c4 c) a (l.map Va.e);unfold Sq WV;refine(ae (AC hc a (m:=m) (by omega)) _).trans ?_;simp only[dB,aY,ba,CU,aL,aC];cases ht:Aw c a with
 |none=>rfl
 |some t=>
  rw[show(some t).isSome=true from rfl,aN];refine(ae (Xp l t.fields hl (m:=m) (by omega)) _).trans ?_;simp only[ba,aL];exact cd _ _
omit hc
include hc
omit hc
def V5 {c:List Ct}{a b:Int}{q:Cm}(hc:zB c)(h:mL c a b=some q):∃t s,Jq c=0/\dK c a=some t/\t∈c/\dK t.methods b=some q/\q∈t.methods/\MT c t q/\jV c t q=some s/\Ý c a b=s/\YT c a b=some (t,q)/\CC q s:=by
 unfold mL at h;cases ht:Aw c a with
 |none=>rw[ht]at h;cases h
 |some t=>
  rw[ht,Option.bind_some]at h;obtain⟨h1,h2,h3⟩:=aaO ht;have hv:=ve0 h1;have hm:=p7 h;have hf:=DJ hc h3 hm (rr hv.1 t h3 q hm);obtain⟨s,hs⟩:=hv.2 t h3 q hm;have hct:YT c a b=some (t,q):=by unfold YT;rw[h2,Option.bind_some,h];rfl
  refine⟨t,s,h1,h2,h3,h,hm,hf,hs,?_,hct,Kr hf hs⟩;unfold Ý;rw[show az (Jq c) 0=true from eqI_t.2 h1,cond_true,hct];show(jV c t q).getD []=s;rw[hs];rfl
def ÿ {c:List Ct}{a b p:Int}{q:Cm}{s:List SV}{t:Ct}(h1:Ý c a b=s)(h2:YT c a b=some (t,q))(h3:s.length=q.code.length)(h4:0<=p/\p<q.code.length):∃v,dK s p=some v/\v∈s/\þ c a b p=(List.range q.locals.length).map fun i=>v.set.testBit i:=by
 obtain⟨v,hv,hm⟩:=jW (l:=s) (x:=p) ⟨h4.1,by rw[h3];exact h4.2⟩
 refine⟨v,hv,hm,?_⟩;unfold þ;rw[h1,hv,h2]
def Bh (q:Cm)(p:Int):Bool:=bif aK 0 p then(match dK q.code (p - 1)with|some x=>az x.op 30|none=>false)else true
def HL (bs:List Bool)(ls:List Va)(ks:LI):Bool:=(bs.zip (ls.zip ks)).all fun p=>kh p.2.1 p.2.2||(!p.1&&eZ p.2.1 v0)
def qD (c:List Ct)(x:Mc):Bool:=match mL c x.ty x.me with
 |none=>false
 |some q=>!aK x.pc 0&&(!aV q.code.length x.pc&&(Bh q x.pc&&(decide (x.ls.length=q.locals.length)&&HL (þ c x.ty x.me x.pc) x.ls q.locals)))
def ģ {c:List Ct}{x:Mc}{q:Cm}(h:mL c x.ty x.me=some q):qD c x=(!aK x.pc 0&&(!aV q.code.length x.pc&&(Bh q x.pc&&(decide (x.ls.length=q.locals.length)&&HL (þ c x.ty x.me x.pc) x.ls q.locals)))):=by
 unfold qD;rw[h]
def Ģ {c:List Ct}{x:Mc}(h:mL c x.ty x.me=none):qD c x=false:=by
 unfold qD;rw[h]
def Sc (v:Va)(hm:1504<=m):Ω m 48 [.p v.e,.p (.agg [.int .i64 0,.int .i64 0,.str [],.slice 1 [],.slice 1 []])] []=dQ (eZ v v0):=by
 obtain⟨k,rfl⟩:=uD hm;exact vJ (n:=k) v v0 (.inr (by decide)) (.inr (by decide))
def ì (bs:List Bool)(x:Mc)(q:Cm)(h1:bs.length=x.ls.length)(h2:x.ls.length=q.locals.length)(h3:bs.length<1501)(hm:1600<=m):itL (eG (cq lay0.tab m) m (fun _=>dQ false) (fun _=>dQ true)) m (bs.map Da.bool,(bs.length:Int),0,x.r,q.r)=dQ (HL bs x.ls q.locals):=by
 have hl:(bs.zip (x.ls.zip q.locals)).length=bs.length:=by rw[qβ,qβ];omega
 refine(br (bs.zip (x.ls.zip q.locals)) (fun k i=>itL (eG (cq lay0.tab m) m (fun _=>dQ false) (fun _=>dQ true)) k (bs.map Da.bool,(bs.length:Int),i,x.r,q.r)) (fun p=>!(kh p.2.1 p.2.2||(!p.1&&eZ p.2.1 v0))) (fun _=>dQ false) (dQ true) (fun k i hi=>?_) (fun k=>?_) (by omega)).trans ?_
 ·rw[hl]at hi;have hi2:i<x.ls.length:=by omega
  have hi3:i<q.locals.length:=by omega
  rw[aQ];simp only[eG,fp (show(i:Int)<(bs.length:Int) by omega),aN,aU,be,bh hi,bw,show ∀b,Dm (Da.bool b)=true from fun _=>rfl,aL,show x.r.Locals=x.ls.map Va.e from rfl,show q.r.Locals=q.locals.map iE from rfl,bh hi2,bh hi3,show ∀k,Dm (iE k)=false from fun _=>rfl,aX,dI,Va.e,KI,wS (show i<c9 by unfold c9;omega),List.getElem_zip];have hf:=ae (Cj x.ls[i] q.locals[i] (m:=m) (by omega));have hs:=ae (Sc x.ls[i] (m:=m) (by omega));cases bs[i]with
  |true=>
   rw[aN];refine(hf _).trans ?_;simp only[ba,aL,aC];cases kh x.ls[i] q.locals[i]<;>rfl
  |false=>
   rw[aX];refine(hf _).trans ?_;simp only[ba,aL,aC];cases kh x.ls[i] q.locals[i]with
   |true=>rfl
   |false=>
    rw[aX];refine(hs _).trans ?_;simp only[ba,aL,aC];cases eZ x.ls[i] v0<;>rfl
 ·rw[aQ,hl];simp only[eG,c8,aX]
 ·unfold HL;rw[iG];cases(bs.zip (x.ls.zip q.locals)).findIdx? fun p=>!(kh p.2.1 p.2.2||(!p.1&&eZ p.2.1 v0))<;>rfl
include hc
def OG (x:Mc)(hm:400010<=m):Ω m 17 [.p (c4 c).e,.p x.e] []=dQ (qD c x):=by
 replace hm:=fuel hm;obtain⟨m,rfl,hm⟩:=hm;apply Po m (c4 c) x.r;unfold AX;refine(ae (ul hc x (m:=m) (by omega)) _).trans ?_;simp only[dB,aY,ba,GP,aL,aC];cases hq:mL c x.ty x.me with
 |none=>rw[Ģ hq];rfl
 |some q=>
  rw[ģ hq];obtain⟨t,s,g1,g2,g3,g4,g5,g6,g7,g8,g9,g10⟩:=V5 hc hq;rw[show(some q).isSome=true from rfl,aN];show iL (aK x.pc 0) _ (iL (aV ((q.code.map Cd.e).length:Int) x.pc) _ _)=_;rw[lα];cases h1:aK x.pc 0 with
  |true=>rfl
  |false=>
  cases h2:aV (q.code.length:Int) x.pc with
  |true=>simp only[aX,aN,Bool.not_true,Bool.false_and,Bool.and_false]
  |false=>
  have hp:0<=x.pc/\x.pc<(q.code.length:Int):=by
   rw[bT,lζ]at h1;rw[bk,lζ]at h2;omega
  obtain⟨v,hv,-,has⟩:=ÿ g8 g9 g10.n hp;have hll:=g6.l;have hcl:=g6.z.c;have gu:(iL (!az ((x.ls.map Va.e).length:Int) ((q.locals.map iE).length:Int)) (dQ false) (cq lay0.tab m 46 [.p (c4 c).e,pI x.ty,pI x.me,pI x.pc] [] fun d14 o15=>
    dP d14 fun x16=>
    cR 1 x16 fun l17=>
    ag o15<|
    itL (eG (cq lay0.tab m) m (fun _=>dQ false) (fun _=>dQ true)) m (l17,↑(List.length l17),0,x.r,q.r)))=dQ (decide (x.ls.length=q.locals.length)&&HL (þ c x.ty x.me x.pc) x.ls q.locals):=by
   rw[lα,lα,bp,mJ];by_cases hl:(x.ls.length:Int)=(q.locals.length:Int)
   ·have hl':x.ls.length=q.locals.length:=by omega
    rw[if_pos hl,lκ hl',Bool.true_and,ae (EO hc x.ty x.me x.pc (m:=m) (by omega))];simp only[ba,mX,aC,lα];have ha:(þ c x.ty x.me x.pc).length=x.ls.length:=by rw[has,lα,List.length_range,hl']
    exact ì _ x q ha hl' (by omega) (by omega)
   ·rw[if_neg hl,mβ (by omega)];rfl
  rw[aX,aX];unfold Bh;show iL (aK 0 x.pc) (cL (bI (q.code.map Cd.e) (ab .i64 (x.pc - 1))) _) _=_;rw[Bool.not_false,Bool.true_and,Bool.true_and];cases h3:aK 0 x.pc with
  |false=>rw[aX,cond_false,Bool.true_and];exact gu
  |true=>
   rw[bT,lδ]at h3;obtain⟨y,hy,-⟩:=jW (l:=q.code) (x:=x.pc - 1) ⟨by omega,by omega⟩
   rw[cV (by omega) (by omega),aN,cond_true,aU,be,hy,bw,W6];simp only;show iL (!az y.op 30) _ _=dQ (az y.op 30&&_);cases az y.op 30
   ·rfl
   ·rw[Bool.not_true,aX,Bool.true_and];exact gu
def Yi (c:List Ct)(x:Mc):Int:=bif az x.pc 0 then 0 else(((mL c x.ty x.me).bind fun q=>(dK q.code (x.pc - 1)).bind fun y=>fC c y.a y.b).getD m0).res
omit hc
def Yj {q:Cm}{t:Ct}{y:Cd}(hf:MT c t q)(hy:y∈q.code)(h:y.op=30):∃z,fC c y.a y.b=some z:=by
 have:=lc (hf.i y hy);rw[h]at this;exact Option.isSome_iff_exists.1 this
include hc
def Jy (x:Mc)(hv:qD c x=true)(hm:1<=m):Ω m 44 [.p (c4 c).e,.p x.e] []=some (pI (Yi c x),[]):=by
 replace hm:=fuel hm;obtain⟨m,rfl,hm⟩:=hm;apply Kf m (c4 c) x.r;unfold w5 Yi;unfold qD at hv;cases hq:mL c x.ty x.me with
 |none=>rw[hq]at hv;cases hv
 |some q=>
  rw[hq]at hv;obtain⟨t,s,g1,g2,g3,g4,g5,g6,g7,g8,g9,g10⟩:=V5 hc hq;simp only[lγ,Bool.not_eq_true',bT,bk,lζ]at hv;obtain⟨h1,h2,h3,-⟩:=hv;have hcl:=g6.z.c;show iL (az x.pc 0) _ (cL (bI (c.map Ct.e) x.ty) _)=_;cases h0:az x.pc 0 with
  |true=>rfl
  |false=>
   rw[bp,lζ]at h0;unfold Bh at h3;rw[show aK 0 x.pc=true from fp (by omega),cond_true]at h3;obtain⟨y,hy,hym⟩:=jW (l:=q.code) (x:=x.pc - 1) ⟨by omega,by omega⟩
   rw[hy]at h3;obtain⟨z,hz⟩:=Yj g6 hym (eqI_t.1 h3);rw[aX,cond_false,Option.bind_some,hy,Option.bind_some,hz,aU,be,g2,bw,CU];show cL (bI (t.methods.map Cm.e) x.me) _=_;rw[aU,be,g4,bw,GP];show cL (bI (q.code.map Cd.e) (ab .i64 (x.pc - 1))) _=_;rw[cV (by omega) (by omega),aU,be,hy,bw,W6];unfold fC at hz;cases ht:dK c y.a with
   |none=>rw[ht]at hz;cases hz
   |some u=>
    rw[ht,Option.bind_some]at hz;show cL (bI (c.map Ct.e) y.a) _=_;rw[aU,be,ht,bw,CU];show cL (bI (u.methods.map Cm.e) y.b) _=_;rw[aU,be,hz,bw,GP];rfl
def OE (x:Mc)(hm:400011<=m):Ω m 14 [.p (c4 c).e,.p x.e] []=some (.tup [pI (bif qD c x then Yi c x else 0),pB (qD c x)],[]):=by
 replace hm:=fuel hm;obtain⟨m,rfl,hm⟩:=hm;apply Pl m (c4 c) x.r;unfold AU;refine(ae (OG hc x (m:=m) (by omega)) _).trans ?_;simp only[ba,aL,aC];cases hv:qD c x with
 |false=>rfl
 |true=>
  rw[aN];refine(ae (Jy hc x hv (m:=m) (by omega)) _).trans ?_;simp only[ba,bV,aC];rfl
end
end
section
structure Xs where
 c:List Ct
 q:Cm
 (ty me:Int)
 ky:LN
structure Xt where
 pc:Int
 (ls fs st:List Va)
 es:List Ef
 done:Bool
 ok:Int
 ov:Va
 (tT tK mn:LN)
 ar:List Va
 fu:Int
def Xt.x (s:Xs)(X:Xt)(J:LD):Xn:={ct:=s.c.map Ct.e,mn:=s.q.name,mp:=s.q.params.map iE,mr:=s.q.res,ml:=s.q.locals.map iE,mc:=s.q.code.map Cd.e,aT:=s.ty,aM:=s.me,aP:=X.pc,ln:=X.ls.length,ky:=s.ky,fn:=X.fs.length,sn:=X.st.length,en:=X.es.length,dn:=X.done,oK:=X.ok,vK:=X.ov.k,vN:=X.ov.n,vS:=X.ov.s,vI:=X.ov.I.map iE,vL:=X.ov.L.map .str,tT:=X.tT,tK:=X.tK,me:=X.mn,ar:=X.ar.map Va.e,er:=0,oT:=0,oM:=0,oP:=0,ol:=[],of:=[],oe:=[],fu:=X.fu,ls:=X.ls.map Va.e,fs:=X.fs.map Va.e,st:=X.st.map Va.e++J,es:=X.es.map Ef.e}
def fX (X:Xt)(v:Va):Xt:={X with st:=X.st++[v]}
def fR (r:Va×Int)(X:Xt):Xt×Int:=(bif az r.2 0 then fX X r.1 else X,r.2)
def xI (r:Ef×Int)(X:Xt):Xt×Int:=(bif az r.2 0 then {X with es:=X.es++[r.1]}else X,r.2)
section
variable {m:Nat} (s:Xs) (X:Xt) (J:LD)
def Xv (v:Va)(hs:X.st.length<1501)(hm:1<=m):Ω m 56 [.box 0 0,.p v.e] ((X.x s J).hp 0)=some (.tup [],((fX X v).x s []).hp 0):=by
 replace hm:=fuel hm;obtain⟨m,rfl,hm⟩:=hm;apply XW m (X.x s J) v.r;unfold MN;have ht:List.take (X.x s J).sn (X.x s J).st=X.st.map Va.e:=by
  show List.take X.st.length (X.st.map Va.e++J)=_;rw[List.take_append_of_le_length (by rw[lα];exact Nat.le_refl _),lξ (by rw[lα];exact Nat.le_refl _)]
 rw[ht,show cI ((X.st.map Va.e).length+List.length [Da.agg [Da.int .i64 v.r.Kind,Da.int .i64 v.r.N,Da.str v.r.S,Da.slice 1 v.r.I,Da.slice 1 v.r.L]]) 80=true from dz (by rw[lα];show X.st.length+1<_;omega) (by omega),aN]
 have h2:X.st.map Va.e++[Da.agg [Da.int .i64 v.r.Kind,Da.int .i64 v.r.N,Da.str v.r.S,Da.slice 1 v.r.I,Da.slice 1 v.r.L]]=(X.st++[v]).map Va.e:=by rw[List.map_append];rfl
 rw[h2];unfold Xt.x fX;simp only[lα,mη]
def EU (v:Va)(hs:X.st.length<1501)(hm:1<=m):Ω m 56 [.box 0 0,.agg [pI v.k,pI v.n,pS v.s,.arr 1 0 v.I.length 1,.arr 2 0 v.L.length 1]] ((X.x s J).bx 3:: .arr (v.I.map iE):: .arr (v.L.map .str)::(X.x s J).rs)=some (.tup [],((fX X v).x s []).bx 3:: .fz (v.I.map iE):: .fz (v.L.map .str)::((fX X v).x s []).rs):=by
 replace hm:=fuel hm;obtain⟨m,rfl,hm⟩:=hm;apply TA m (X.x s J) v.k v.n v.s v.I.length v.L.length (v.I.map iE) (v.L.map .str);unfold FN;have ht:List.take (X.x s J).sn (X.x s J).st=X.st.map Va.e:=by
  show List.take X.st.length (X.st.map Va.e++J)=_;rw[List.take_append_of_le_length (by rw[lα];exact Nat.le_refl _),lξ (by rw[lα];exact Nat.le_refl _)]
 simp only[ht,List.drop_zero,lξ (l:=v.I.map iE) (show(v.I.map iE).length<=v.I.length by rw[lα];exact Nat.le_refl _),lξ (l:=v.L.map Da.str) (show(v.L.map Da.str).length<=v.L.length by rw[lα];exact Nat.le_refl _)];rw[show cI ((X.st.map Va.e).length+List.length [Da.agg [Da.int .i64 v.k,Da.int .i64 v.n,Da.str v.s,Da.slice 1 (v.I.map iE),Da.slice 1 (v.L.map .str)]]) 80=true from dz (by rw[lα];show X.st.length+1<_;omega) (by omega),aN]
 have h2:X.st.map Va.e++[Da.agg [Da.int .i64 v.k,Da.int .i64 v.n,Da.str v.s,Da.slice 1 (v.I.map iE),Da.slice 1 (v.L.map .str)]]=(X.st++[v]).map Va.e:=by rw[List.map_append];rfl
 rw[h2];unfold Xt.x fX;simp only[lα,mη]
def OK (v:Va)(e:Int)(hs:X.st.length<1501)(hm:2<=m):∃J',Ω m 228 [.box 0 0,.p v.e,pI e] ((X.x s J).hp 0)=some (pI e,((fR (v,e) X).1.x s J').hp 0):=by
 replace hm:=fuel hm;obtain⟨m,rfl,hm⟩:=hm;refine⟨bif az e 0 then[]else J,?_⟩
 apply PD m (X.x s J) v.r e;unfold A8 fR;cases az e 0 with
 |false=>rfl
 |true=>
  rw[aN];refine(ae (Xv s X J v hs (m:=m) (by omega)) _).trans ?_;rw[dB,aC,UK];rfl
def lQ (s:Xs)(g:Nat)(cap:List D)(x:Cd)(l:List Va)(r:Option (Xt×Int))(X:Xt)(J:LD)(m:Nat):Prop:=∀y,r=some y->∃J',Ω m g (.box 0 0:: .p x.e:: .p (.slice 5 (l.map Va.e))::cap) ((X.x s J).hp 0)=some (pI y.2,(y.1.x s J').hp 0)
def rY (v:Va)(hv:Lg v)(hs:X.st.length<1501)(hm:3<=m):(cq lay0.tab m 55 [(.p v.r.e)] [] fun d5 o6=>
 nD d5 fun r7=>
 aa r7 fun d8 r9=>
 dP d8 fun x10=>
 aJ .i64 x10 fun i11=>
 aa r9 fun d12 r13=>
 dP d12 fun x14=>
 aJ .i64 x14 fun i15=>
 aa r13 fun d16 r17=>
 dP d16 fun x18=>
 dG x18 fun s19=>
 aa r17 fun d20 r21=>
 cf 0 1 d20 fun n22=>
 aa r21 fun d23 r24=>
 cf 1 1 d23 fun n25=>
 ag r24<|
 aa o6 fun u26 o27=>
 bL u26 fun l28=>
 aa o27 fun u29 o30=>
 bL u29 fun l31=>
 ag o30<|
 cq lay0.tab m 56 [(.box 0 0),(.agg [(pI i11),(pI i15),(pS s19),(.arr 1 0 n22 1),(.arr 2 0 n25 1)])] (Xn.hp 2 ({(X.x s J)with ls:=l28,fs:=l31,st:=(X.x s J).ls,es:=(X.x s J).fs}:Xn)++[(.arr (X.x s J).st),(.arr (X.x s J).es)]) fun d32 o33=>
 bQ d32 fun r34=>
 ag r34<|
 YW o33 fun u35 l36 l37=>
 some ((pI 0),(u35.hp 0)))=some (pI 0,((fX X v).x s []).hp 0):=by
 refine(ae (iN v hv (m:=m) (by omega)) _).trans ?_;simp only[Va.cl,Va.ch,qa,aY,ba,bV,jZ,dV,aC,fg];refine(ae (EU s X J v hs (m:=m) (by omega)) _).trans ?_;rw[dB,aC,ĉ]
def Rz (x:Cd)(l:List Va)(hv:Lg x.v)(hs:X.st.length<1501)(hm:4<=m):lQ s 225 [.p (.ptr (.agg [.fn 148 []]))] x l (some (fX X x.v,0)) X J m:=by
 rintro y hy;cases hy
 refine⟨[],?_⟩;replace hm:=fuel hm;obtain⟨m,rfl,hm⟩:=hm;apply TB m (X.x s J) x.r (l.map Va.e);unfold FO;have h1:Ω m 148 [.box 0 0,.p x.r.e] ((X.x s J).hp 0)=some (.p x.v.r.e,(X.x s J).hp 0):=by
  obtain⟨m,rfl,-⟩:=fuel hm;apply XY m (X.x s J) x.r;rfl
 refine(ae h1 _).trans ?_;rw[ba,dVe];refine(cd _ _).trans ?_;exact rY s X J x.v hv hs hm
def RC (x:Cd)(l:List Va)(hs:X.st.length<1501)(hm:4<=m):lQ s 225 [.p (.ptr (.agg [.fn 151 []]))] x l (some (fX X ⟨3,0,s.ky,[],[]⟩,0)) X J m:=by
 rintro y hy;cases hy
 refine⟨[],?_⟩;replace hm:=fuel hm;obtain⟨m,rfl,hm⟩:=hm;apply TE m (X.x s J) x.r (l.map Va.e);unfold FT;have h1:Ω m 151 [.box 0 0,.p x.r.e] ((X.x s J).hp 0)=some (.p (Va.r ⟨3,0,s.ky,[],[]⟩).e,(X.x s J).hp 0):=by
  obtain⟨m,rfl,-⟩:=fuel hm;apply X2 m (X.x s J) x.r;rfl
 refine(ae h1 _).trans ?_;rw[ba,dVe];refine(cd _ _).trans ?_;exact rY s X J ⟨3,0,s.ky,[],[]⟩ ⟨by simp,by simp⟩ hs hm
def kZ {l:List α}{x:Int}(h:dK l x=some y):0<=x/\x<l.length/\l[x.toNat]?=some y:=by
 unfold dK at h;by_cases h0:0<=x
 ·rw[if_pos h0]at h;have:=(List.getElem?_eq_some_iff.1 h).1;exact⟨h0,by omega,h⟩
 ·rw[if_neg h0]at h;cases h
def RA (x:Cd)(l:List Va)(hv:∀v∈X.ls,Lg v)(hs:X.st.length<1501)(hm:4<=m):lQ s 225 [.p (.ptr (.agg [.fn 149 []]))] x l ((dK X.ls x.a).map fun v=>(fX X v,0)) X J m:=by
 rintro y hy
 cases ha:dK X.ls x.a with
 |none=>rw[ha]at hy;cases hy
 |some v=>
 rw[ha]at hy;cases hy;obtain⟨g1,g2,g3⟩:=kZ ha;refine⟨[],?_⟩;replace hm:=fuel hm;obtain⟨m,rfl,hm⟩:=hm;apply TC m (X.x s J) x.r (l.map Va.e);unfold FQ;have h1:Ω m 149 [.box 0 0,.p x.r.e] ((X.x s J).hp 0)=some (.p v.r.e,(X.x s J).hp 0):=by
  obtain⟨m,rfl,-⟩:=fuel hm;apply XZ m (X.x s J) x.r;unfold MO;show iL (aV 0 x.a) (iL (aK x.a (X.ls.length:Int)) (cL ((X.ls.map Va.e)[0+x.a.toNat]?) _) _) _=_;rw[show aV 0 x.a=true by rw[bk];exact lκ g1,fp g2,aN,aN,Nat.zero_add,lσ,g3];rfl
 refine(ae h1 _).trans ?_;rw[ba,dVe];refine(cd _ _).trans ?_;exact rY s X J v (hv v (p7 ha)) hs hm
def RB (x:Cd)(l:List Va)(hv:∀v∈X.fs,Lg v)(hs:X.st.length<1501)(hm:4<=m):lQ s 225 [.p (.ptr (.agg [.fn 150 []]))] x l ((dK X.fs x.a).map fun v=>(fX X v,0)) X J m:=by
 rintro y hy
 cases ha:dK X.fs x.a with
 |none=>rw[ha]at hy;cases hy
 |some v=>
 rw[ha]at hy;cases hy;obtain⟨g1,g2,g3⟩:=kZ ha;refine⟨[],?_⟩;replace hm:=fuel hm;obtain⟨m,rfl,hm⟩:=hm;apply TD m (X.x s J) x.r (l.map Va.e);unfold FR;have h1:Ω m 150 [.box 0 0,.p x.r.e] ((X.x s J).hp 0)=some (.p v.r.e,(X.x s J).hp 0):=by
  obtain⟨m,rfl,-⟩:=fuel hm;apply X1 m (X.x s J) x.r;unfold MP;show iL (aV 0 x.a) (iL (aK x.a (X.fs.length:Int)) (cL ((X.fs.map Va.e)[0+x.a.toNat]?) _) _) _=_;rw[show aV 0 x.a=true by rw[bk];exact lκ g1,fp g2,aN,aN,Nat.zero_add,lσ,g3];rfl
 refine(ae h1 _).trans ?_;rw[ba,dVe];refine(cd _ _).trans ?_;exact rY s X J v (hv v (p7 ha)) hs hm
def zp (v w:Va):Da.agg (splice (cells (aA.e w.r)) 0 (cells (Da.agg [Da.int .i64 v.k,Da.int .i64 v.n,Da.str v.s,Da.slice 1 (List.take v.I.length (List.drop 0 (v.I.map iE))),Da.slice 1 (List.take v.L.length (List.drop 0 (v.L.map Da.str)))])))=v.e:=by
 rw[List.drop_zero,List.drop_zero,lξ (by rw[lα];exact Nat.le_refl _),lξ (by rw[lα];exact Nat.le_refl _)];rfl
def RD (x:Cd)(l:List Va)(hv:∀v∈l,Lg v)(hm:4<=m):lQ s 226 [.p (.ptr (.agg [.fn 153 []]))] x l (l.head?.bind fun v=>(dK X.ls x.a).map fun _=>({X with ls:=X.ls.set x.a.toNat v},0)) X J m:=by
 rintro y hy
 cases l with
 |nil=>cases hy
 |cons v r=>
 rw[List.head?_cons,Option.bind_some]at hy;cases ha:dK X.ls x.a with
 |none=>rw[ha]at hy;cases hy
 |some w=>
 rw[ha]at hy;cases hy;obtain⟨g1,g2,g3⟩:=kZ ha;refine⟨J,?_⟩;replace hm:=fuel hm;obtain⟨m,rfl,hm⟩:=hm;apply TG m (X.x s J) x.r ((v::r).map Va.e);unfold FV;have h1:Ω m 153 [.box 0 0,.p x.r.e] ((X.x s J).hp 0)=some (.el 1 x.a.toNat 0,(X.x s J).hp 0):=by
  obtain⟨m,rfl,-⟩:=fuel hm;apply X3 m (X.x s J) x.r;unfold MQ;show iL (aV 0 x.a) (iL (aK x.a (X.ls.length:Int)) _ _) _=_;rw[show aV 0 x.a=true by rw[bk];exact lκ g1,fp g2,aN,aN];show some (D.el 1 (0+x.a.toNat) 0,_)=_;rw[Nat.zero_add]
 refine(ae h1 _).trans ?_;rw[show ∀K,YV 1 0 (.el 1 x.a.toNat 0) K=K x.a.toNat from fun K=>by unfold YV;simp[iL]];refine(cd _ _).trans ?_;rw[show bI ((v::r).map Va.e) 0=some v.e from rfl,bw,UJ];refine(ae (iN v (hv v lχ) (m:=m) (by omega)) _).trans ?_;simp only[Va.cl,Va.ch,qa,aY,ba,bV,jZ,dV,aC,fg];show cL ((X.ls.map Va.e)[x.a.toNat]?) _=_;rw[lσ,g3];show ao w.e _=_;rw[UJ,zp];show some (D.p (Da.int .i64 0),Xn.hp 0 {(X.x s J)with ls:=(X.ls.map Va.e).set x.a.toNat v.e})=_;rw[<-List.map_set];unfold Xt.x;simp only[List.length_set]
def RE (x:Cd)(l:List Va)(hv:∀v∈l,Lg v)(hm:4<=m):lQ s 226 [.p (.ptr (.agg [.fn 154 []]))] x l (l.head?.bind fun v=>(dK X.fs x.a).map fun _=>({X with fs:=X.fs.set x.a.toNat v},0)) X J m:=by
 rintro y hy
 cases l with
 |nil=>cases hy
 |cons v r=>
 rw[List.head?_cons,Option.bind_some]at hy;cases ha:dK X.fs x.a with
 |none=>rw[ha]at hy;cases hy
 |some w=>
 rw[ha]at hy;cases hy;obtain⟨g1,g2,g3⟩:=kZ ha;refine⟨J,?_⟩;replace hm:=fuel hm;obtain⟨m,rfl,hm⟩:=hm;apply TH m (X.x s J) x.r ((v::r).map Va.e);unfold FW;have h1:Ω m 154 [.box 0 0,.p x.r.e] ((X.x s J).hp 0)=some (.el 2 x.a.toNat 0,(X.x s J).hp 0):=by
  obtain⟨m,rfl,-⟩:=fuel hm;apply X4 m (X.x s J) x.r;unfold MR;show iL (aV 0 x.a) (iL (aK x.a (X.fs.length:Int)) _ _) _=_;rw[show aV 0 x.a=true by rw[bk];exact lκ g1,fp g2,aN,aN];show some (D.el 2 (0+x.a.toNat) 0,_)=_;rw[Nat.zero_add]
 refine(ae h1 _).trans ?_;rw[show ∀K,YV 2 0 (.el 2 x.a.toNat 0) K=K x.a.toNat from fun K=>by unfold YV;simp[iL]];refine(cd _ _).trans ?_;rw[show bI ((v::r).map Va.e) 0=some v.e from rfl,bw,UJ];refine(ae (iN v (hv v lχ) (m:=m) (by omega)) _).trans ?_;simp only[Va.cl,Va.ch,qa,aY,ba,bV,jZ,dV,aC,fg];show cL ((X.fs.map Va.e)[x.a.toNat]?) _=_;rw[lσ,g3];show ao w.e _=_;rw[UJ,zp];show some (D.p (Da.int .i64 0),Xn.hp 0 {(X.x s J)with fs:=(X.fs.map Va.e).set x.a.toNat v.e})=_;rw[<-List.map_set];unfold Xt.x;simp only[List.length_set]
def qy (r:Va×Int)(hs:X.st.length<1501)(hm:2<=m):∃J',(cq lay0.tab m 228 [(.box 0 0),(.p r.1.e),(pI r.2)] ((X.x s J).hp 0) fun d14 o15=>
 dP d14 fun x16=>
 aJ .i64 x16 fun i17=>
 W7 o15 fun u18=>
 some ((pI i17),(u18.hp 0)))=some (pI (fR r X).2,((fR r X).1.x s J').hp 0):=by
 obtain⟨J',h⟩:=OK s X J r.1 r.2 hs hm;refine⟨J',(ae h _).trans ?_⟩;rw[ba,bV,UK];rfl
def dVT (v:Va)(K:aA->R):ao v.e K=K v.r:=rfl
def Ax (x:Cd)(l:List Va)(o:LN)(hs:X.st.length<1501)(hm:4<=m):lQ s 227 [.p (.ptr (.agg [.str o]))] x l (l.head?.map fun v=>fR (ġ o v) X) X J m:=by
 rintro y hy
 cases l with
 |nil=>cases hy
 |cons v r=>
 cases hy;replace hm:=fuel hm;obtain⟨m,rfl,hm⟩:=hm;obtain⟨J',hJ⟩:=qy s X J (ġ o v) hs (m:=m) (by omega);refine⟨J',?_⟩;apply PE m (X.x s J) x.r ((v::r).map Va.e) o;unfold A9;rw[show bI ((v::r).map Va.e) 0=some v.e from rfl,bw,UJ];refine(ae (R4 o v (m:=m) (by omega)) _).trans ?_;simp only[dB,aY,ba,dVT,bV,aC];exact hJ
def t7 (o:LN)(l:List Va)(X:Xt):Option (Xt×Int):=match l with|a::b::_=>some (fR (Ă o a b) X)|_=>none
def cu (x:Cd)(l:List Va)(o:LN)(hw:∀v∈l,Wk v)(hs:X.st.length<1501)(hm:1512<=m):lQ s 230 [.p (.ptr (.agg [.str o]))] x l (t7 o l X) X J m:=by
 rintro y hy
 match l,hw,hy with
 |a::b::r,hw,hy=>
 cases hy;replace hm:=fuel hm;obtain⟨m,rfl,hm⟩:=hm;obtain⟨J',hJ⟩:=qy s X J (Ă o a b) hs (m:=m) (by omega);refine⟨J',?_⟩;apply CF m (X.x s J) x.r ((a::b::r).map Va.e) o;unfold qO;rw[show bI ((a::b::r).map Va.e) 0=some a.e from rfl,bw,UJ,show bI ((a::b::r).map Va.e) 1=some b.e from rfl,bw,UJ];refine(ae (OF o a b (hw a lχ) (hw b (mα _ lχ)) (m:=m) (by omega)) _).trans ?_;simp only[vE,dB,aY,ba,dVT,bV,aC];exact hJ
def fq (x:Cd)(l:List Va)(o:LN)(hw:∀v∈l,Wk v)(hl:l.length<=100)(hs:X.st.length<1501)(hm:1512<=m):lQ s 232 [.p (.ptr (.agg [.str o]))] x l ((lx o l).map fun r=>fR r X) X J m:=by
 rintro y hy
 cases hb:lx o l with
 |none=>rw[hb]at hy;cases hy
 |some r=>
 rw[hb]at hy;cases hy;replace hm:=fuel hm;obtain⟨m,rfl,hm⟩:=hm;obtain⟨J',hJ⟩:=qy s X J r hs (m:=m) (by omega);refine⟨J',?_⟩;apply Gm m (X.x s J) x.r (l.map Va.e) o;unfold uq;refine(ae (Jx o l hw hl hb (m:=m) (by omega)) _).trans ?_;simp only[vE,dB,aY,ba,dVT,bV,aC];exact hJ
def O_ (v:Ef)(K:eP->R):bX v.e K=K ⟨v.k,v.n,v.a,v.b⟩:=rfl
def sK (x:Cd)(l:List Va)(q:Int)(hs:X.es.length<1501)(hm:2<=m):lQ s 236 [.p (.ptr (.agg [.int .i64 q]))] x l ((td q l X.es.length).map fun r=>xI r X) X J m:=by
 rintro y hy
 cases hb:td q l X.es.length with
 |none=>rw[hb]at hy;cases hy
 |some r=>
 rw[hb]at hy;cases hy;replace hm:=fuel hm;obtain⟨m,rfl,hm⟩:=hm;refine⟨J,?_⟩;apply Px m (X.x s J) x.r (l.map Va.e) q;unfold A5;refine(ae (ĩ q l X.es.length hb (m:=m) (by omega)) _).trans ?_;simp only[QU,dB,aY,ba,O_,bV,aC];unfold xI;cases az r.2 0 with
 |false=>rfl
 |true=>
  have ht:List.take (X.x s J).en (X.x s J).es=X.es.map Ef.e:=by
   show List.take X.es.length (X.es.map Ef.e)=_;rw[lξ (by rw[lα];exact Nat.le_refl _)]
  rw[aN,ht,show cI ((X.es.map Ef.e).length+List.length [Da.agg [Da.int .i64 r.1.k,Da.str r.1.n,Da.int .i64 r.1.a,Da.int .i64 r.1.b]]) 40=true from dz (by rw[lα];show X.es.length+1<_;omega) (by omega),aN]
  have h2:X.es.map Ef.e++[Da.agg [Da.int .i64 r.1.k,Da.str r.1.n,Da.int .i64 r.1.a,Da.int .i64 r.1.b]]=(X.es++[r.1]).map Ef.e:=by rw[List.map_append];rfl
  rw[h2,cond_true];unfold Xt.x;simp only[lα]
def Qs (x:Cd)(l:List Va)(X:Xt):Xt×Int:=match l with|[]=>({X with pc:=x.a},0)|v::_=>bif az v.n 0 then({X with pc:=x.a},0)else(X,0)
def Mt (x:Cd)(l:List Va)(hm:1<=m):lQ s 160 [] x l (some (Qs x l X)) X J m:=by
 rintro y hy;cases hy
 replace hm:=fuel hm;obtain⟨m,rfl,hm⟩:=hm;refine⟨J,?_⟩;apply XV m (X.x s J) x.r (l.map Va.e);unfold MM;cases l with
 |nil=>rfl
 |cons v r=>
  rw[show az ((((v::r).map Va.e).length:Nat):Int) 0=false by rw[bp,lζ];simp;omega,aX,show bI ((v::r).map Va.e) 0=some v.e from rfl,bw,UJ];show iL (az v.n 0) _ _=_;have e:Qs x (v::r) X=bif az v.n 0 then({X with pc:=x.a},0)else(X,0):=rfl
  rw[e];cases az v.n 0<;>rfl
def Xb (x:Cd)(l:List Va)(hm:1<=m):lQ s 164 [] x l (some (X,0)) X J m:=by
 rintro y hy;cases hy
 replace hm:=fuel hm;obtain⟨m,rfl,hm⟩:=hm;refine⟨J,?_⟩;apply X6 m (X.x s J) x.r (l.map Va.e);rfl
def Xc (x:Cd)(l:List Va)(hm:1<=m):lQ s 166 [] x l (some (X,26)) X J m:=by
 rintro y hy;cases hy
 replace hm:=fuel hm;obtain⟨m,rfl,hm⟩:=hm;refine⟨J,?_⟩;apply X7 m (X.x s J) x.r (l.map Va.e);rfl
def Vn (l:List Va)(X:Xt):Xt:={X with done:=true,ok:=1,ov:=l.headD v0,tT:=[],tK:=[],mn:=[],ar:=[],fu:=0}
def Ox (x:Cd)(l:List Va)(hv:∀v∈l,Lg v)(hm:4<=m):lQ s 165 [] x l (some (Vn l X,0)) X J m:=by
 rintro y hy;cases hy
 replace hm:=fuel hm;obtain⟨m,rfl,hm⟩:=hm;refine⟨J,?_⟩;apply PA m (X.x s J) x.r (l.map Va.e);unfold A7 Vn;cases l with
 |nil=>rfl
 |cons v r=>
  rw[fp (show(0:Int)<((((v::r).map Va.e).length:Nat):Int) by rw[lα,List.length_cons];omega),aN,show bI ((v::r).map Va.e) 0=some v.e from rfl,bw,UJ];refine(ae (iN v (hv v lχ) (m:=m) (by omega)) _).trans ?_;simp only[Va.cl,Va.ch,qa,aY,ba,bV,jZ,dV,aC,fg,List.drop_zero,lξ (l:=v.I.map iE) (show(v.I.map iE).length<=v.I.length by rw[lα];exact Nat.le_refl _),lξ (l:=v.L.map Da.str) (show(v.L.map Da.str).length<=v.L.length by rw[lα];exact Nat.le_refl _)];rfl
def Us (s:Xs)(x:Cd)(l:List Va)(X:Xt):Option (Xt×Int):=
 match l with
 |[]=>none
 |v::r=>bif aK 32 (v.s.length:Int)then some (X,5)else(dK s.c x.a).bind fun t=>(dK t.methods x.b).map fun q=>({X with done:=true,ok:=2,ov:=v0,tT:=t.name,tK:=v.s,mn:=q.name,ar:=r,fu:=0},0)
def AD {t:Ct}{q:Cm}(x:Cd)(ht:dK s.c x.a=some t)(hq:dK t.methods x.b=some q)(hm:1<=m):Ω m 162 [.box 0 0,.p x.e] ((X.x s J).hp 0)=some (.tup [.p t.e,.p q.e],(X.x s J).hp 0):=by
 replace hm:=fuel hm;obtain⟨m,rfl,hm⟩:=hm;apply Py m (X.x s J) x.r;unfold A6;show cL (bI (s.c.map Ct.e) x.a) _=_;rw[aU,be,ht,bw,CU];show cL (bI (t.methods.map Cm.e) x.b) _=_;rw[aU,be,hq,bw,GP];rfl
def Xa (x:Cd)(l:List Va)(hv:∀v∈l,Lg v)(hl:l.length<1501)(hm:1506<=m):lQ s 163 [] x l (Us s x l X) X J m:=by
 rintro y hy
 unfold Us at hy;cases l with
 |nil=>cases hy
 |cons v r=>
 replace hm:=fuel hm;obtain⟨m,rfl,hm⟩:=hm;refine⟨J,?_⟩;apply XU m (X.x s J) x.r ((v::r).map Va.e);unfold ML;rw[show bI ((v::r).map Va.e) 0=some v.e from rfl,bw,UJ];show iL (aK 32 (v.s.length:Int)) _ _=_;simp only at hy;cases h5:aK 32 (v.s.length:Int)with
 |true=>rw[h5,cond_true]at hy;cases hy;rfl
 |false=>
 rw[h5,cond_false]at hy;rw[aX];cases ht:dK s.c x.a with
 |none=>rw[ht]at hy;cases hy
 |some t=>
 rw[ht,Option.bind_some]at hy;cases hq:dK t.methods x.b with
 |none=>rw[hq]at hy;cases hy
 |some q=>
 rw[hq]at hy;cases hy;refine(ae (AD s X J x ht hq (m:=m) (by omega)) _).trans ?_;simp only[dB,aY,ba,CU,GP,aC];refine(cd _ _).trans ?_;rw[bw,UJ,show aV 1 ((((v::r).map Va.e).length:Nat):Int)=true by rw[bk];exact lκ (by simp;omega),aN];have hd:List.take (((v::r).map Va.e).length - Int.toNat 1) (List.drop (Int.toNat 1) ((v::r).map Va.e))=r.map Va.e:=by
  show List.take _ (r.map Va.e)=_;rw[lξ (by simp)]
 rw[hd];refine(ae (sP r (by simp at hl;omega) (fun u hu=>hv u (mα _ hu)) (m:=m) (by omega)) _).trans ?_;simp only[dV,aY,fg,aC,List.drop_zero,lξ (l:=r.map Va.e) (show(r.map Va.e).length<=r.length by rw[lα];exact Nat.le_refl _)];rfl
end
end
section
def m3 {v:Va}(h:Wk v):Lg v:=⟨by have:=h.I;omega,by have:=h.L;omega⟩
def Wt (q:Cm):Int:=bif az q.res 0 then 0 else 1
abbrev W3:=List Va->Xt->Option (Xt×Int)
def VE (s:Xs)(x:Cd):Option (Int×W3):=
 bif az x.op 1 then some (0,fun _ X=>some (fX X x.v,0))else
 bif az x.op 2 then some (0,fun _ X=>(dK X.ls x.a).map fun v=>(fX X v,0))else
 bif az x.op 4 then some (0,fun _ X=>(dK X.fs x.a).map fun v=>(fX X v,0))else
 bif az x.op 6 then some (0,fun _ X=>some (fX X ⟨3,0,s.ky,[],[]⟩,0))else
 bif az x.op 3 then some (1,fun l X=>l.head?.bind fun v=>(dK X.ls x.a).map fun _=>({X with ls:=X.ls.set x.a.toNat v},0))else
 bif az x.op 5 then some (1,fun l X=>l.head?.bind fun v=>(dK X.fs x.a).map fun _=>({X with fs:=X.fs.set x.a.toNat v},0))else
 bif az x.op 7 then some (1,fun l X=>l.head?.map fun v=>fR (ġ [45] v) X)else
 bif az x.op 8 then some (1,fun l X=>l.head?.map fun v=>fR (ġ [33] v) X)else
 bif az x.op 9 then some (2,t7 [43])else
 bif az x.op 10 then some (2,t7 [43])else
 bif az x.op 11 then some (2,t7 [45])else
 bif az x.op 12 then some (2,t7 [42])else
 bif az x.op 13 then some (2,t7 [47])else
 bif az x.op 14 then some (2,t7 [37])else
 bif az x.op 15 then some (2,t7 [61,61])else
 bif az x.op 16 then some (2,t7 [33,61])else
 bif az x.op 17 then some (2,t7 [60])else
 bif az x.op 18 then some (2,t7 [60,61])else
 bif az x.op 19 then some (2,t7 [62])else
 bif az x.op 20 then some (2,t7 [62,61])else
 bif az x.op 21 then some (1,fun l X=>(lx [108,101,110] l).map fun r=>fR r X)else
 bif az x.op 22 then some (2,fun l X=>(lx [97,116] l).map fun r=>fR r X)else
 bif az x.op 23 then some (2,fun l X=>(lx [97,112,112,101,110,100] l).map fun r=>fR r X)else
 bif az x.op 24 then some (3,fun l X=>(lx [115,101,116] l).map fun r=>fR r X)else
 bif az x.op 25 then some (1,fun l X=>(lx [115,116,114] l).map fun r=>fR r X)else
 bif az x.op 26 then some (x.a,fun l X=>(lx [105,110,116,115] l).map fun r=>fR r X)else
 bif az x.op 27 then some (x.a,fun l X=>(lx [115,116,114,105,110,103,115] l).map fun r=>fR r X)else
 bif az x.op 28 then some (0,fun l X=>some (Qs x l X))else
 bif az x.op 29 then some (1,fun l X=>some (Qs x l X))else
 bif az x.op 30 then(fC s.c x.a x.b).map fun q=>(1+(q.params.length:Int),Us s x)else
 bif az x.op 31 then some (1,fun _ X=>some (X,0))else
 bif az x.op 32 then some (Wt s.q,fun l X=>some (Vn l X,0))else
 bif az x.op 33 then some (0,fun _ X=>some (X,26))else
 bif az x.op 34 then some (2,fun l X=>(td 1 l X.es.length).map fun r=>xI r X)else
 bif az x.op 35 then some (3,fun l X=>(td 2 l X.es.length).map fun r=>xI r X)else
 bif az x.op 36 then some (1,fun l X=>(td 3 l X.es.length).map fun r=>xI r X)else
 none
def At (i:Int)(f:W3)(X:Xt):Option (Xt×Int):=bif aV 0 i&&aV i X.st.length then f (X.st.drop (X.st.length - i.toNat)) {X with pc:=X.pc+1,st:=X.st.take (X.st.length - i.toNat)}else none
def B4 (s:Xs)(X:Xt):Option (Xt×Int):=(dK s.q.code X.pc).bind fun x=>(VE s x).bind fun p=>At p.1 p.2 X
structure Wx (s:Xs)(X:Xt):Prop where
 ls:∀v∈X.ls,Wk v
 fs:∀v∈X.fs,Wk v
 st:∀v∈X.st,Wk v
 n:X.st.length<=100
 e:X.es.length<=100
 x:∀y∈s.q.code,Wk y.v
 c:s.q.code.length<1501
 p:0<=X.pc/\X.pc<=1501
def hsX (c:Xn)(r:Int):List Ob:=c.bx 2:: .tabO 6 r::(c.rs++[.box [.box 0 0]])
def Jr (s:Xs)(r:Int)(G:R)(y:Xt×Int):Prop:=∃J',G=some (pI y.2,hsX (y.1.x s J') r)
variable {y:Xt×Int}
def c3 {s:Xs}{r:Int}{b:Bool}{A B:R}{p q:Option (Int×W3)}{X:Xt}(h:((bif b then p else q).bind fun p=>At p.1 p.2 X)=some y)(h1:(p.bind fun p=>At p.1 p.2 X)=some y->Jr s r A y)(h2:(q.bind fun p=>At p.1 p.2 X)=some y->Jr s r B y):Jr s r (iL b A B) y:=by
 cases b
 ·exact h2 h
 ·exact h1 h
section
variable {m:Nat} (s:Xs) (X:Xt) (J:LD) (x:Cd) (r:Int) (w:Wx s X) (hm:1520<=m)
include w hm
variable {g:Nat} {cap:List D} {f:W3}
def ϰ {i:Int}(h:At i f X=some y)(hd:∀(Y:Xt) J l,Wx s {Y with pc:=0}->(∀v∈l,Wk v)->l.length<=100->Y.st.length<1501->lQ s g cap x l (f l Y) Y J m):Jr s r (stB (cq lay0.tab m) (X.x s J) x.r r g cap i) y:=by
 unfold At at h;cases hc:aV 0 i&&aV i X.st.length with
 |false=>rw[hc]at h;cases h
 |true=>
 rw[hc,cond_true]at h;rw[lγ,bk,bk,lδ,lδ]at hc;have hn:=w.n;have hp:=w.p;obtain⟨k,rfl⟩:=Int.eq_ofNat_of_zero_le hc.1;have hk:k<=X.st.length:=by omega
 rw[Int.toNat_natCast]at h;have hw1:ab .i64 ((X.st.length:Int) - (k:Int))=((X.st.length - k:Nat):Int):=by rw[cV (by omega) (by omega)];omega
 have hw2:ab .i64 (X.pc+1)=X.pc+1:=cV (by omega) (by omega);have l0:aV 0 ((X.st.length - k:Nat):Int)=true:=by rw[bk];exact lκ (by omega)
 have l1:aV ((X.st.length - k:Nat):Int) (X.st.length:Int)=true:=by rw[bk];exact lκ (by omega)
 have key:∀(L:LD) (n:Nat),List.take n (List.drop 0 L)=(X.st.drop (X.st.length - k)).map Va.e->Jr s r (stA (cq lay0.tab m) (X.x s J) x.r r g cap (k:Int) (X.x s J).st L n) y:=fun L n hL=>by
  have hY:=hd {X with pc:=X.pc+1,st:=X.st.take (X.st.length - k)} ((X.st.drop (X.st.length - k)).map Va.e++J) (X.st.drop (X.st.length - k)) ⟨w.ls,w.fs,fun v hv=>w.st v (qι hv),by show(X.st.take (X.st.length - k)).length<=100;rw[mε];omega,w.e,w.x,w.c,show(0:Int)<=0/\(0:Int)<=1501 by omega⟩ (fun v hv=>w.st v (List.mem_of_mem_drop hv)) (by rw[mχ];omega) (by show(X.st.take (X.st.length - k)).length<1501;rw[mε];omega) y h
  obtain⟨J',hJ⟩:=hY;refine⟨J',?_⟩;unfold stA;show iL (aV 0 (ab .i64 ((X.st.length:Int) - (k:Int)))) (iL (aV (ab .i64 ((X.st.length:Int) - (k:Int))) (X.st.length:Int)) _ _) _=_;rw[hw1,l0,l1,aN,aN,hL];have e:({(X.x s J)with aP:=(ab .i64 ((X.x s J).aP+1)),sn:=(Int.toNat (ab .i64 (((X.x s J).sn:Int) - (k:Int))) - 0),st:=(X.x s J).st}:Xn)=Xt.x s {X with pc:=X.pc+1,st:=X.st.take (X.st.length - k)} ((X.st.drop (X.st.length - k)).map Va.e++J):=by
   rw[show ab .i64 ((X.x s J).aP+1)=X.pc+1 from hw2,show Int.toNat (ab .i64 (((X.x s J).sn:Int) - (k:Int))) - 0=(X.st.take (X.st.length - k)).length by rw[show((X.x s J).sn:Int)=(X.st.length:Int)from rfl,hw1,mε];omega];have h3:(X.x s J).st=(X.st.take (X.st.length - k)).map Va.e++((X.st.drop (X.st.length - k)).map Va.e++J):=by
    rw[<-lρ,<-List.map_append,List.take_append_drop];rfl
   rw[h3];rfl
  rw[e];refine(ae hJ _).trans ?_;rw[ba,bV,UK];rfl
 have hX:Jr s r (stX (cq lay0.tab m) (X.x s J) x.r r g cap (k:Int)) y:=by
  unfold stX;have e1:0+Int.toNat (ab .i64 (((X.x s J).sn:Int) - (k:Int)))=X.st.length - k:=by rw[show((X.x s J).sn:Int)=(X.st.length:Int)from rfl,hw1,Nat.zero_add,Int.toNat_natCast]
  have e2:(X.x s J).sn - Int.toNat (ab .i64 (((X.x s J).sn:Int) - (k:Int)))=k:=by
   rw[show((X.x s J).sn:Int)=(X.st.length:Int)from rfl,hw1,Int.toNat_natCast];show X.st.length - _=_;omega
  rw[e1,e2];have hlen:X.st.length - k+k<=(X.x s J).st.length:=by
   show _<=(X.st.map Va.e++J).length;rw[lε,lα];omega
  rw[ae (ñ (X.x s J).st (X.st.length - k) k hlen (by omega) (m:=m) (by omega)),dV];simp only[aY,fg,aC];refine key _ _ ?_;rw[List.drop_zero,List.take_take,Nat.min_self];show List.take k (List.drop (X.st.length - k) (X.st.map Va.e++J))=_;rw[List.drop_append_of_le_length (by rw[lα];omega),List.take_append_of_le_length (by rw[mχ,lα];omega),<-List.map_drop,lξ (by rw[lα,mχ];omega)]
 unfold stB;show Jr s r (iL (aV 0 (ab .i64 ((X.st.length:Int) - (k:Int)))) (iL (aV (ab .i64 ((X.st.length:Int) - (k:Int))) (X.st.length:Int)) (iL (Nat.beq (Int.toNat (ab .i64 ((X.st.length:Int) - (k:Int)))) X.st.length) (iL _ _ _) _) _) _) y;rw[hw1,l0,l1,aN,aN,Int.toNat_natCast];cases hb:Nat.beq (X.st.length - k) X.st.length with
 |false=>exact hX
 |true=>
  rw[aN];cases Nat.blt 0 (List.length (X.x s J).st)with
  |false=>exact hX
  |true=>
   rw[aN,ae (s_ [] (by simp) (m:=m) (by omega)),dV];simp only[aY,fg,aC];refine key _ _ ?_;have:=lν hb;rw[this,List.drop_length];rfl
def fS {i:Int}(h:((some (i,f)).bind fun p:Int×W3=>At p.1 p.2 X)=some y)(hd:∀(Y:Xt) J l,Wx s {Y with pc:=0}->(∀v∈l,Wk v)->l.length<=100->Y.st.length<1501->lQ s g cap x l (f l Y) Y J m):Jr s r (oh (cq lay0.tab m) (X.x s J) x.r r i g cap) y:=by
 have hc:Ω m 235 [.p x.r.e,.p (.ptr (.agg [.int .i64 i]))] []=some (pI i,[]):=by
  obtain⟨m,rfl,-⟩:=fuel (show 1519+1<=m from hm);apply Pz m x.r i;rfl
 unfold oh;rw[ae hc];simp only[ba,bV,aC];exact ϰ s X J x r w hm h hd
def aaJ (h:((some (x.a,f)).bind fun p:Int×W3=>At p.1 p.2 X)=some y)(hd:∀(Y:Xt) J l,Wx s {Y with pc:=0}->(∀v∈l,Wk v)->l.length<=100->Y.st.length<1501->lQ s g cap x l (f l Y) Y J m):Jr s r (stM (cq lay0.tab m) (X.x s J) x.r r g cap) y:=by
 have hc:Ω m 234 [.p x.r.e] []=some (pI x.a,[]):=by
  obtain⟨m,rfl,-⟩:=fuel (show 1519+1<=m from hm);apply PB m x.r;rfl
 unfold stM;rw[ae hc];simp only[ba,bV,aC];exact ϰ s X J x r w hm h hd
def abA (hq:∀q,fC s.c x.a x.b=some q->q.params.length<1501)(h:(((fC s.c x.a x.b).map fun q=>(1+(q.params.length:Int),f)).bind fun p:Int×W3=>At p.1 p.2 X)=some y)(hd:∀(Y:Xt) J l,Wx s {Y with pc:=0}->(∀v∈l,Wk v)->l.length<=100->Y.st.length<1501->lQ s g [] x l (f l Y) Y J m):Jr s r (stK (cq lay0.tab m) (X.x s J) x.r r g) y:=by
 cases hc:fC s.c x.a x.b with
 |none=>rw[hc]at h;cases h
 |some q=>
 have hql:=hq q hc;rw[hc]at h;unfold fC at hc;cases ht:dK s.c x.a with
 |none=>rw[ht]at hc;cases hc
 |some t=>
 rw[ht,Option.bind_some]at hc;have hp:=w.p;have e:({(X.x s J)with aP:=(ab .i64 ((X.x s J).aP+1))}:Xn)=Xt.x s {X with pc:=X.pc+1} J:=by
  rw[show ab .i64 ((X.x s J).aP+1)=X.pc+1 from cV (by show _<=X.pc+1;omega) (by show X.pc+1<_;omega)];rfl
 have h7:Ω m 161 [.p x.r.e,.box 0 0] (.box [.box 1 0]::(Xt.x s {X with pc:=X.pc+1} J).hp 1)=some (pI (1+(q.params.length:Int)),.box [.box 1 0]::(Xt.x s {X with pc:=X.pc+1} J).hp 1):=by
  obtain⟨m,rfl,hm'⟩:=fuel (show 1519+1<=m from hm);apply X5 m (Xt.x s {X with pc:=X.pc+1} J) x.r;unfold MS;refine(ae (AD s {X with pc:=X.pc+1} J x ht hc (m:=m) (by omega)) _).trans ?_;simp only[dB,aY,ba,CU,GP,aC];refine(cd _ _).trans ?_;rw[show ab .i64 (1+((q.r.Params.length:Nat):Int))=1+(q.params.length:Int) by rw[show q.r.Params.length=q.params.length from lα ..];exact cV (by omega) (by omega)];rfl
 unfold stK;rw[e];have h7':=ae h7;show Jr s r (cq lay0.tab m 161 [.p x.r.e,.box 0 0] (.box [.box 1 0]::(Xt.x s {X with pc:=X.pc+1} J).hp 1) _) y;rw[h7'];simp only[ba,bV];have h8:∀(a:List Ob) (K:R),cD a a K=K:=cd;rw[show ∀K,cD ([.box [.box 1 0]]++(Xt.x s {X with pc:=X.pc+1} J).hp 1) (.box [.box 1 0]::(Xt.x s {X with pc:=X.pc+1} J).hp 1) K=K from fun K=>cd _ K,Vf,aN]
 exact ϰ s X J x r w hm h hd
end
def Xw (s:Xs)(X:Xt)(J:LD)(w:Wx s X)(hq:∀x∈s.q.code,∀q,fC s.c x.a x.b=some q->q.params.length<1501)(hm:1521<=m)(h:B4 s X=some y):Jr s (Wt s.q) (Ω m 96 [.box 0 0,.map 1] (hsX (X.x s J) (Wt s.q))) y:=by
 replace hm:=fuel hm;obtain⟨m,rfl,hm⟩:=hm;unfold B4 at h;cases hx:dK s.q.code X.pc with
 |none=>rw[hx]at h;cases h
 |some x=>
 rw[hx,Option.bind_some]at h;have hxm:=p7 hx;have hxl:=m3 (w.x x hxm);suffices hs:Jr s (Wt s.q) (Cn (cq lay0.tab m) m (X.x s J) (Wt s.q)) y by
  obtain⟨J',hJ⟩:=hs;exact⟨J',XX m (X.x s J) (Wt s.q) _ hJ⟩
 unfold Cn;show Jr s (Wt s.q) (cL (bI (s.q.code.map Cd.e) X.pc) _) y;rw[aU,be,hx,bw,W6];show Jr s (Wt s.q) (iL (az x.op 1) _ _) y;unfold VE at h;refine c3 h (fun h=>fS s X J x _ w hm h fun Y K l wY hl hll hst=>Rz s Y K x l hxl hst (by omega)) fun h=>?_
 refine c3 h (fun h=>fS s X J x _ w hm h fun Y K l wY hl hll hst=>RA s Y K x l (fun v hv=>m3 (wY.ls v hv)) hst (by omega)) fun h=>?_
 refine c3 h (fun h=>fS s X J x _ w hm h fun Y K l wY hl hll hst=>RB s Y K x l (fun v hv=>m3 (wY.fs v hv)) hst (by omega)) fun h=>?_
 refine c3 h (fun h=>fS s X J x _ w hm h fun Y K l wY hl hll hst=>RC s Y K x l hst (by omega)) fun h=>?_
 refine c3 h (fun h=>fS s X J x _ w hm h fun Y K l wY hl hll hst=>RD s Y K x l (fun v hv=>m3 (hl v hv)) (by omega)) fun h=>?_
 refine c3 h (fun h=>fS s X J x _ w hm h fun Y K l wY hl hll hst=>RE s Y K x l (fun v hv=>m3 (hl v hv)) (by omega)) fun h=>?_
 refine c3 h (fun h=>fS s X J x _ w hm h fun Y K l wY hl hll hst=>Ax s Y K x l [45] hst (by omega)) fun h=>?_
 refine c3 h (fun h=>fS s X J x _ w hm h fun Y K l wY hl hll hst=>Ax s Y K x l [33] hst (by omega)) fun h=>?_
 refine c3 h (fun h=>fS s X J x _ w hm h fun Y K l wY hl hll hst=>cu s Y K x l [43] hl hst (by omega)) fun h=>?_
 refine c3 h (fun h=>fS s X J x _ w hm h fun Y K l wY hl hll hst=>cu s Y K x l [43] hl hst (by omega)) fun h=>?_
 refine c3 h (fun h=>fS s X J x _ w hm h fun Y K l wY hl hll hst=>cu s Y K x l [45] hl hst (by omega)) fun h=>?_
 refine c3 h (fun h=>fS s X J x _ w hm h fun Y K l wY hl hll hst=>cu s Y K x l [42] hl hst (by omega)) fun h=>?_
 refine c3 h (fun h=>fS s X J x _ w hm h fun Y K l wY hl hll hst=>cu s Y K x l [47] hl hst (by omega)) fun h=>?_
 refine c3 h (fun h=>fS s X J x _ w hm h fun Y K l wY hl hll hst=>cu s Y K x l [37] hl hst (by omega)) fun h=>?_
 refine c3 h (fun h=>fS s X J x _ w hm h fun Y K l wY hl hll hst=>cu s Y K x l [61,61] hl hst (by omega)) fun h=>?_
 refine c3 h (fun h=>fS s X J x _ w hm h fun Y K l wY hl hll hst=>cu s Y K x l [33,61] hl hst (by omega)) fun h=>?_
 refine c3 h (fun h=>fS s X J x _ w hm h fun Y K l wY hl hll hst=>cu s Y K x l [60] hl hst (by omega)) fun h=>?_
 refine c3 h (fun h=>fS s X J x _ w hm h fun Y K l wY hl hll hst=>cu s Y K x l [60,61] hl hst (by omega)) fun h=>?_
 refine c3 h (fun h=>fS s X J x _ w hm h fun Y K l wY hl hll hst=>cu s Y K x l [62] hl hst (by omega)) fun h=>?_
 refine c3 h (fun h=>fS s X J x _ w hm h fun Y K l wY hl hll hst=>cu s Y K x l [62,61] hl hst (by omega)) fun h=>?_
 refine c3 h (fun h=>fS s X J x _ w hm h fun Y K l wY hl hll hst=>fq s Y K x l [108,101,110] hl hll hst (by omega)) fun h=>?_
 refine c3 h (fun h=>fS s X J x _ w hm h fun Y K l wY hl hll hst=>fq s Y K x l [97,116] hl hll hst (by omega)) fun h=>?_
 refine c3 h (fun h=>fS s X J x _ w hm h fun Y K l wY hl hll hst=>fq s Y K x l [97,112,112,101,110,100] hl hll hst (by omega)) fun h=>?_
 refine c3 h (fun h=>fS s X J x _ w hm h fun Y K l wY hl hll hst=>fq s Y K x l [115,101,116] hl hll hst (by omega)) fun h=>?_
 refine c3 h (fun h=>fS s X J x _ w hm h fun Y K l wY hl hll hst=>fq s Y K x l [115,116,114] hl hll hst (by omega)) fun h=>?_
 refine c3 h (fun h=>aaJ s X J x _ w hm h fun Y K l wY hl hll hst=>fq s Y K x l [105,110,116,115] hl hll hst (by omega)) fun h=>?_
 refine c3 h (fun h=>aaJ s X J x _ w hm h fun Y K l wY hl hll hst=>fq s Y K x l [115,116,114,105,110,103,115] hl hll hst (by omega)) fun h=>?_
 refine c3 h (fun h=>fS s X J x _ w hm h fun Y K l wY hl hll hst=>Mt s Y K x l (by omega)) fun h=>?_
 refine c3 h (fun h=>fS s X J x _ w hm h fun Y K l wY hl hll hst=>Mt s Y K x l (by omega)) fun h=>?_
 refine c3 h (fun h=>abA s X J x _ w hm (hq x hxm) h fun Y K l wY hl hll hst=>Xa s Y K x l (fun v hv=>m3 (hl v hv)) (by omega) (by omega)) fun h=>?_
 refine c3 h (fun h=>fS s X J x _ w hm h fun Y K l wY hl hll hst=>Xb s Y K x l (by omega)) fun h=>?_
 refine c3 h (fun h=>fS s X J x _ w hm h fun Y K l wY hl hll hst=>Ox s Y K x l (fun v hv=>m3 (hl v hv)) (by omega)) fun h=>?_
 refine c3 h (fun h=>fS s X J x _ w hm h fun Y K l wY hl hll hst=>Xc s Y K x l (by omega)) fun h=>?_
 refine c3 h (fun h=>fS s X J x _ w hm h fun Y K l wY hl hll hst=>sK s Y K x l 1 (by have:=wY.e;simp only at this;omega) (by omega)) fun h=>?_
 refine c3 h (fun h=>fS s X J x _ w hm h fun Y K l wY hl hll hst=>sK s Y K x l 2 (by have:=wY.e;simp only at this;omega) (by omega)) fun h=>?_
 refine c3 h (fun h=>fS s X J x _ w hm h fun Y K l wY hl hll hst=>sK s Y K x l 3 (by have:=wY.e;simp only at this;omega) (by omega)) fun h=>?_
 cases h
end
def Rq (n:Int):Da:= .fn 235 [.ptr (.agg [.int .i64 n])]
def fw (n:Int)(hm:1<=m):Ω m 159 [pI n] []=some (.p (Rq n),[]):=by
 replace hm:=fuel hm;obtain⟨m,rfl,hm⟩:=hm;apply Th m n;rfl
def Rr (n:Int)(K:LD->R):dA 235 (Rq n) K=K [.ptr (.agg [.int .i64 n])]:=rfl
def R5 (hm:2<=m):Ω m 147 [.p (.fn 148 [])] []=some (.p (.agg [Rq 0,.fn 225 [.ptr (.agg [.fn 148 []])]]),[]):=by
 replace hm:=fuel hm;obtain⟨m,rfl,hm⟩:=hm;apply Tj m;unfold FA;rw[ae (fw (m:=m) 0 hm)];rw[ba,Rr,aY,aC,aC];rfl
def R6 (hm:2<=m):Ω m 147 [.p (.fn 149 [])] []=some (.p (.agg [Rq 0,.fn 225 [.ptr (.agg [.fn 149 []])]]),[]):=by
 replace hm:=fuel hm;obtain⟨m,rfl,hm⟩:=hm;apply Tk m;unfold FB;rw[ae (fw (m:=m) 0 hm)];rw[ba,Rr,aY,aC,aC];rfl
def R7 (hm:2<=m):Ω m 147 [.p (.fn 150 [])] []=some (.p (.agg [Rq 0,.fn 225 [.ptr (.agg [.fn 150 []])]]),[]):=by
 replace hm:=fuel hm;obtain⟨m,rfl,hm⟩:=hm;apply Tl m;unfold FC;rw[ae (fw (m:=m) 0 hm)];rw[ba,Rr,aY,aC,aC];rfl
def R8 (hm:2<=m):Ω m 147 [.p (.fn 151 [])] []=some (.p (.agg [Rq 0,.fn 225 [.ptr (.agg [.fn 151 []])]]),[]):=by
 replace hm:=fuel hm;obtain⟨m,rfl,hm⟩:=hm;apply Tn m;unfold FD;rw[ae (fw (m:=m) 0 hm)];rw[ba,Rr,aY,aC,aC];rfl
def R9 (hm:2<=m):Ω m 152 [.p (.fn 153 [])] []=some (.p (.agg [Rq 1,.fn 226 [.ptr (.agg [.fn 153 []])]]),[]):=by
 replace hm:=fuel hm;obtain⟨m,rfl,hm⟩:=hm;apply Tq m;unfold FG;rw[ae (fw (m:=m) 1 hm)];rw[ba,Rr,aY,aC,aC];rfl
def Sa (hm:2<=m):Ω m 152 [.p (.fn 154 [])] []=some (.p (.agg [Rq 1,.fn 226 [.ptr (.agg [.fn 154 []])]]),[]):=by
 replace hm:=fuel hm;obtain⟨m,rfl,hm⟩:=hm;apply Tr m;unfold FH;rw[ae (fw (m:=m) 1 hm)];rw[ba,Rr,aY,aC,aC];rfl
def OJ (o:LN)(hm:2<=m):Ω m 155 [pS o] []=some (.p (.agg [Rq 1,.fn 227 [.ptr (.agg [.str o])]]),[]):=by
 replace hm:=fuel hm;obtain⟨m,rfl,hm⟩:=hm;apply Tp m o;unfold FF;rw[ae (fw (m:=m) 1 hm)];rw[ba,Rr,aY,aC,aC];rfl
def Ck (o:LN)(hm:2<=m):Ω m 156 [pS o] []=some (.p (.agg [Rq 2,.fn 230 [.ptr (.agg [.str o])]]),[]):=by
 replace hm:=fuel hm;obtain⟨m,rfl,hm⟩:=hm;apply Gl m o;unfold up;rw[ae (fw (m:=m) 2 hm)];rw[ba,Rr,aY,aC,aC];rfl
def uk (o:LN)(n:Int)(hm:2<=m):Ω m 157 [pS o,pI n] []=some (.p (.agg [Rq n,.fn 232 [.ptr (.agg [.str o])]]),[]):=by
 replace hm:=fuel hm;obtain⟨m,rfl,hm⟩:=hm;apply Kh m o n;unfold w6;rw[ae (fw (m:=m) n hm)];rw[ba,Rr,aY,aC,aC];rfl
def OH (q n:Int)(hm:2<=m):Ω m 167 [pI q,pI n] []=some (.p (.agg [Rq n,.fn 236 [.ptr (.agg [.int .i64 q])]]),[]):=by
 replace hm:=fuel hm;obtain⟨m,rfl,hm⟩:=hm;apply Tf m q n;unfold Fw;rw[ae (fw (m:=m) n hm)];rw[ba,Rr,aY,aC,aC];rfl
def dBu (cs:LD)(K:LD->R):dA 232 (.fn 232 cs) K=K cs:=rfl
def OI (o:LN)(hm:3<=m):Ω m 158 [pS o] []=some (.p (.agg [.fn 234 [],.fn 232 [.ptr (.agg [.str o])]]),[]):=by
 replace hm:=fuel hm;obtain⟨m,rfl,hm⟩:=hm;apply Ti m o;unfold Fz;rw[ae (uk (m:=m) o 0 hm)];simp only[ba,UD,aY,aC,Rr,dBu]
def Si (c:Xn)(hm:4<=m):Ω m 95 [.box 0 0] (c.hp 0)=some (.map 5,c.hp 0++[.tabO 6 (bif az c.mr 0 then 0 else 1),.box [.box 0 0]]):=by
 replace hm:=fuel hm;obtain⟨m,rfl,hm⟩:=hm;apply TF m c;unfold FU my;simp only[ae (R5 (m:=m) (by omega)),ae (R6 (m:=m) (by omega)),ae (R7 (m:=m) (by omega)),ae (R8 (m:=m) (by omega)),ae (R9 (m:=m) (by omega)),ae (Sa (m:=m) (by omega)),ae (OJ (m:=m) _ (by omega)),ae (Ck (m:=m) _ (by omega)),ae (uk (m:=m) _ _ (by omega)),ae (OI (m:=m) _ (by omega)),ae (OH (m:=m) _ _ (by omega)),ae (fw (m:=m) _ (by omega)),ba,UD,aY,aC,Rr,dBu];cases az c.mr 0<;>rfl
end
end Go.Ab
