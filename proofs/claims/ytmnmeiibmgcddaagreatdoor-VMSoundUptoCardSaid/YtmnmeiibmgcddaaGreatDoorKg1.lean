import Derived.Test.YtmnmeiibmgcddaaGreatDoorKg0
import Derived.Test.YtmnmeiibmgcddaaGreatDoorOg1
import Derived.Laws.BitsLemmas
import Derived.Test.YtmnmeiibmgcddaaGreatDoorOg0
import Derived.KernelRfl
import Derived.Lib.ItoaLen
import Derived.Test.YtmnmeiibmgcddaaGreatDoorOg2
set_option linter.all false
namespace Go.Ab
open Go
set_option maxRecDepth 100000
noncomputable section
def nm (p:SV×Cd):Bool:=p.1.r&&(!az p.2.op 2||p.1.set.testBit p.2.a.toNat)
def EN (m:Cm):List SV:=(List.replicate m.code.length (⟨false,[],0⟩:SV)).set 0 ⟨true,[],2 ^ m.params.length - 1⟩
def jG (c:List Ct)(t:Ct)(m:Cm):Option (List SV):=(oH c t m (256*m.code.length+1) (EN m) [0]).bind fun s=>bif(s.zip m.code).all nm then some s else none
def IS (n:Nat):GJ (List.replicate n (⟨false,[],0⟩:SV))=256*n:=by
 induction n with
 |zero=>rfl
 |succ n ih=>rw[List.replicate_succ,GJ,ih];show 256+_=_;omega
def Qu (o:Option (List SV)):R:=some (.tup [pL 3 ((o.getD []).map SV.e),pB o.isSome],[])
def yV {c t m}(hf:HI c t m):∀{e:Nat} {s s':List SV} {w:LN},oH c t m e s w=some s'->yO m s->(∀p∈w,p<m.code.length)->yO m s'
 |0,s,s',w,h,hs,_=>by cases h;exact hs
 |e+1,s,s',[],h,hs,_=>by cases h;exact hs
 |e+1,s,s',pc::w,h,hs,hp=>by
  have hpc:pc<m.code.length:=hp pc lυ;have hps:pc<s.length:=by rw[hs.n];exact hpc
  have hin:=hf.i _ (lρ hpc);have hv:=hs.v _ (lρ hps);unfold oH at h;rw[lε hpc,lε hps]at h;simp only at h;revert h;split
  ·rename_i st hr;cases(eM m pc m.code[pc]).2 with
   |false=>intro h;cases h
   |true=>
    rw[cond_true];cases hpr:lm st (lA m.code[pc] s[pc].set) (eM m pc m.code[pc]).1 s w with
    |none=>intro h;cases h
    |some p=>
     intro h;obtain⟨o1,-,-,o4⟩:=sW (s':=p.1) (w':=p.2) (yT hr) (G5 hin hf.l hv.2) hpr hs fun x hx=>hp x (mα _ hx)
     exact yV hf h o1 o4
  ·intro h;cases h
def Qy {c t m}(hf:HI c t m):yO m (EN m):=by
 have hp:=hf.p;have h2:2 ^ m.params.length<=2 ^ 4:=Nat.pow_le_pow_right (by omega) hp;unfold EN;refine yO.set ⟨by rw[mμ],fun v hv=>?_⟩ 0 (by simp) (show 2 ^ m.params.length - 1<256 by omega)
 rw[(List.mem_replicate.1 hv).2];simp
def FB {c t m s}(hf:HI c t m)(h:jG c t m=some s):yO m s:=by
 unfold jG at h;cases hg:oH c t m (256*m.code.length+1) (EN m) [0]with
 |none=>rw[hg]at h;cases h
 |some u=>
  rw[hg,Option.bind_some]at h;have:=yV hf hg (Qy hf) fun p hp=>by rw[List.mem_singleton.1 hp];exact hf.n
  cases hc:(u.zip m.code).all nm with
  |false=>rw[hc]at h;cases h
  |true=>rw[hc]at h;cases h;exact this
variable {m:Nat}
def YA {c t me}(hf:HI c t me)(s:List SV)(hs:yO me s)(hm:2000<=m):itL (dB (dC lay0.tab m) m (fun _=>Qu none) (fun(n150,n151,i152,i153,u154,l155)=>some ((.tup [(pL 3 (List.take n150 (List.drop 0 l155))),(pB true)]),[]))) m (me.code.length,me.code.length,(me.code.length:Int),0,me.r,s.map SV.e)=Qu (bif(s.zip me.code).all nm then some s else none):=by
 have hcl:=hf.z.c;have hl:(s.zip me.code).length=me.code.length:=by rw[qα,hs.n,Nat.min_self]
 refine(bA (s.zip me.code) (fun q i=>itL (dB (dC lay0.tab m) m (fun _=>Qu none) _) q (me.code.length,me.code.length,(me.code.length:Int),i,me.r,s.map SV.e)) (fun p=>!nm p) (fun _=>Qu none) (Qu (some s)) (fun q i hi=>?_) (fun q=>?_) (by omega)).trans ?_
 ·have hc:i<me.code.length:=by omega
  have hi2:i<s.length:=by rw[hs.n];exact hc
  have hv:=hs.v _ (lρ hi2);rw[bb,List.getElem_zip];have g:(s.map SV.e)[0+i]?=some (s[i].e):=by rw[Nat.zero_add,lξ,lε hi2];rfl
  have h0:aL 0 (i:Int)=true:=by rw[bj];exact lν (by omega)
  simp only[dB,hZ (show(i:Int)<(me.code.length:Int) by omega),h0,be,Int.toNat_natCast,g,bG,YQ,show me.r.Code=me.code.map Cd.e from rfl,aU,bf,bw hc,Vf,wS (show i<eH by unfold eH;omega)];unfold nm;cases s[i].r with
  |false=>rfl
  |true=>
   rw[be];show iL (az me.code[i].op 2) _ _=_;cases h2:az me.code[i].op 2 with
   |false=>rfl
   |true=>
    have h1:=jO (hf.i _ (lρ hc));rw[eqI_t.1 h2]at h1;have hw:=EJ h1;have:=hf.l;rw[be];have e1:aG me.code[i].r.A 0=false:=Q5 (show ¬me.code[i].a<0 by omega);rw[e1,bo];have e2:∀j:Nat,j<64->ag .u64 ((BitVec.toNat (BitVec.ofInt (IntKind.bits .u64) (Int.fdiv (s[i].set:Int) (2 ^ min j (IntKind.bits .u64))) &&& BitVec.ofInt (IntKind.bits .u64) 1):Nat):Int)=bif s[i].set.testBit j then 1 else 0:=fun j hj=>YF hv.2 hj
    rw[e2 (Int.toNat me.code[i].r.A) (show me.code[i].a.toNat<64 by omega),show me.code[i].r.A=me.code[i].a from rfl];cases s[i].set.testBit me.code[i].a.toNat<;>rfl
 ·rw[bb,hl];simp only[dB,eT,bo];show some (D.tup [pL 3 (List.take _ (s.map SV.e)),_],_)=_;rw[lκ (by rw[lβ,hs.n];omega)];rfl
 ·rw[gL];cases(s.zip me.code).findIdx? fun p=>!nm p<;>rfl
def Η {c t me}(hf:HI c t me)(hm:400000<=m):Ω m 64 [.p (de c).e,.p t.e,.p me.e] []=Qu (jG c t me):=by
 replace hm:=fuel hm;obtain⟨m,rfl,hm⟩:=hm;apply Fl m (de c) t.r me.r;unfold tg;have hcl:=hf.z.c;have hcn:=hf.n;have hpl:=hf.p;rw[show me.r.Code=me.code.map Cd.e from rfl,lβ,Int.toNat_natCast];have hc1:(aL 0 (me.code.length:Int)&&aL (me.code.length:Int) (me.code.length:Int)&&Nat.ble (me.code.length*40) 281474976710656&&aL (me.code.length:Int) 9223372036854775807)=true:=by
  simp only[lγ,bj,Nat.ble_eq,lδ];omega
 rw[hc1,be,hZ (show(0:Int)<(me.code.length:Int) by omega),be];have hrep:List.replicate me.code.length (Da.agg [Da.bool false,Da.slice 1 [],Da.int .u64 0])=(List.replicate me.code.length (⟨false,[],0⟩:SV)).map SV.e:=by rw[List.map_replicate];rfl
 have hget:(List.replicate me.code.length (Da.agg [Da.bool false,Da.slice 1 [],Da.int .u64 0]))[0]?=some (SV.e ⟨false,[],0⟩):=by rw[List.getElem?_replicate,if_pos hcn];rfl
 have hset:ag .u64 (ag .u64 (1*2 ^ min (Int.toNat (me.params.length:Int)) (IntKind.bits .u64)) - 1)=((2 ^ me.params.length - 1:Nat):Int):=by
  have:me.params.length=0\/me.params.length=1\/me.params.length=2\/me.params.length=3\/me.params.length=4:=by omega
  rcases this with h|h|h|h|h<;>rw[h]<;>rfl
 rw[hget,bG,YQ];have hs0:=Qy hf;have hphi:GJ (EN me)<=256*me.code.length:=by
  have hp:=hf.p;have h2:2 ^ me.params.length<=2 ^ 4:=Nat.pow_le_pow_right (by omega) hp;have:=sU (List.replicate me.code.length (⟨false,[],0⟩:SV)) 0 (by rw[mμ];exact hcn) ⟨true,[],2 ^ me.params.length - 1⟩;rw[IS,List.getElem_replicate]at this;simp only[cond_true,cond_false]at this;unfold EN;omega
 have key:=UZ c t me hf (m:=m) (by omega) (Er:=Qu none) (k0:=fun _=>Qu none) (k1:=fun _=>Qu none) (k2:=fun(n129,n130,u131,u132,u133,l134,l135)=>
   itL (dB (dC lay0.tab m) m (fun(u146,l147,u148,u149)=>Qu none) (fun(n150,n151,i152,i153,u154,l155)=>
   some ((.tup [(pL 3 (List.take n150 (List.drop 0 l155))),(pB true)]),[]))) m (n129,n129,↑n129,0,u133,l134)) (G:=fun l=>itL (dB (dC lay0.tab m) m (fun _=>Qu none) (fun(n150,n151,i152,i153,u154,l155)=>some ((.tup [(pL 3 (List.take n150 (List.drop 0 l155))),(pB true)]),[]))) m (me.code.length,me.code.length,(me.code.length:Int),0,me.r,l)) (fun _=>rfl) (fun _=>rfl) (fun _ _ _=>rfl) (256*me.code.length+1) m (EN me) [0] [wE 0] hs0 (fun p hp=>by rw[List.mem_singleton.1 hp];exact hcn) rfl (by simp only[List.length_cons,List.length_nil];omega) (by omega) (by omega)
 have hs1:(List.replicate me.code.length (Da.agg [Da.bool false,Da.slice 1 [],Da.int .u64 0])).set 0 (Da.agg (splice (cells (bh.e ⟨false,[],0⟩)) 0 (cells (Da.agg [Da.bool true,Da.slice 1 [],Da.int .u64 (ag .u64 (ag .u64 (1*2 ^ min (Int.toNat (me.params.length:Int)) (IntKind.bits .u64)) - 1))]))))=(EN me).map SV.e:=by
  rw[hset,hrep];unfold EN;rw[List.map_set];rfl
 show itL (dz _ _ _ _ _) _ (_,_,_,_,_,(List.replicate me.code.length (Da.agg [Da.bool false,Da.slice 1 [],Da.int .u64 0])).set 0 (Da.agg (splice (cells (bh.e ⟨false,[],0⟩)) 0 (cells (Da.agg [Da.bool true,Da.slice 1 [],Da.int .u64 (ag .u64 (ag .u64 (1*2 ^ min (Int.toNat ((me.params.map iE).length:Int)) (IntKind.bits .u64)) - 1))])))),_)=_;rw[lβ,hs1];refine Eq.trans key ?_;unfold jG;cases hg:oH c t me (256*me.code.length+1) (EN me) [0]with
 |none=>rfl
 |some u=>
  have hu:=yV hf hg hs0 fun p hp=>by rw[List.mem_singleton.1 hp];exact hcn
  exact YA hf u hu (by omega)
def EF {c t}:∀{l:List Cm} {a b:Nat},wL c t a l=some b->∀x∈l,uS c t x=true
 |[],a,b,_,x,hx=>by cases hx
 |y::r,a,b,h,x,hx=>by
  unfold wL at h;revert h;cases aG 3000 (a+y.code.length:Nat)with
  |true=>intro h;cases h
  |false=>
   cases h2:uS c t y with
   |false=>intro h;cases h
   |true=>
    intro h;rcases lω.1 hx with rfl|hx
    ·exact h2
    ·exact EF h x hx
def EE {c}:∀{l:List Ct} {a b:Nat},Hf c a l=some b->∀t∈l,∀x∈t.methods,uS c t x=true
 |[],a,b,_,t,ht=>by cases ht
 |u::r,a,b,h,t,ht=>by
  unfold Hf at h;cases h1:wL c u a u.methods with
  |none=>rw[h1]at h;cases h
  |some k=>
   rw[h1]at h;rcases lω.1 ht with rfl|ht
   ·exact EF h1
   ·exact EE h t ht
def sL {c}(h:CP c=true):∀t∈c,∀x∈t.methods,uS c t x=true:=by
 unfold CP at h;simp only[lγ]at h;obtain⟨b,hb⟩:=Option.isSome_iff_exists.1 h.2.2.2;exact EE hb
def SE {c a b q}(h:fA c a b=some q):∃t∈c,q∈t.methods:=by
 unfold fA at h;cases ht:dj c a with
 |none=>rw[ht]at h;cases h
 |some t=>
  rw[ht,Option.bind_some]at h;have mem:∀{α:Type} {l:List α} {x:Int} {y:α},dj l x=some y->y∈l:=fun {α l x y} h=>by
   unfold dj at h;by_cases h0:0<=x
   ·rw[if_pos h0]at h;exact mδ h
   ·rw[if_neg h0]at h;cases h
  exact⟨t,mem ht,mem h⟩
def zU {c t m}(hc:AJ c)(ht:t∈c)(hm:m∈t.methods)(h:uS c t m=true):HI c t m:=by
 unfold uS at h;simp only[lγ,Bool.not_eq_true',bX,lζ,lδ,cE,mε]at h;obtain⟨h1,-,-,h2,-,-,h3,h4,h5⟩:=h;exact⟨(hc.s t ht).s m hm,by omega,by omega,h3,by omega,h5,fun x _ q hq=>by obtain⟨u,hu,hq⟩:=SE hq;exact((hc.s u hu).s q hq).p⟩
def Hi (c:List Ct):Int:=bif CP c then(bif c.all fun t=>t.methods.all fun m=>(jG c t m).isSome then 0 else 16)else 1
def č {c:List Ct}{t:Ct}(hz:Yy t)(hf:∀x∈t.methods,HI c t x)(l1:LD)(i2 i3:Int)(hm:400000<=m)(k0 k1:_->R){Er:R}(hk0:∀x,k0 x=Er):itL (fG (dC lay0.tab m) m k0 k1) m (l1,i2,i3,t.methods.map Cm.e,(t.methods.length:Int),0,de c,t.r)=bif t.methods.all fun x=>(jG c t x).isSome then k1 (l1,i2,i3,t.methods.map Cm.e,(t.methods.length:Int),(t.methods.length:Int),de c,t.r)else Er:=by
 have:=hz.m;refine(bA t.methods (fun q i=>itL (fG (dC lay0.tab m) m k0 k1) q (l1,i2,i3,t.methods.map Cm.e,(t.methods.length:Int),i,de c,t.r)) (fun x=>!(jG c t x).isSome) (fun _=>Er) (k1 (l1,i2,i3,t.methods.map Cm.e,(t.methods.length:Int),(t.methods.length:Int),de c,t.r)) (fun q i hi=>?_) (fun q=>?_) (by omega)).trans ?_
 ·rw[bb];have h:=aa (Η (hf _ (lρ hi)) (m:=m) hm);simp only[fG,hZ (show(i:Int)<(t.methods.length:Int) by omega),be,aU,bf,bw hi,bG,FQ,wS (show i<eH by unfold eH;omega),hk0];refine(h _).trans ?_;simp only[c3,aR,aY,oU,aJ,aB];cases(jG c t t.methods[i]).isSome<;>rfl
 ·rw[bb];simp only[fG,eT,bo]
 ·rw[gL];cases t.methods.findIdx? fun x=>!(jG c t x).isSome<;>rfl
def wO {c:List Ct}(hc:AJ c)(hm:400001<=m):Ω m 29 [.p (de c).e] []=some (pI (Hi c),[]):=by
 replace hm:=fuel hm;obtain⟨m,rfl,hm⟩:=hm;apply Jz m (de c);unfold wV Hi;refine(aa (Rf c hc (m:=m) (by omega)) _).trans ?_;simp only[aY,aJ,aB];cases hf:CP c with
 |false=>rfl
 |true=>
  rw[be,cond_true];have hn:=hc.n;show itL (fF _ _ _ _) _ (c.map Ct.e,((c.map Ct.e).length:Int),0,de c)=_;rw[lβ];refine(bA c (fun q i=>itL (fF (dC lay0.tab m) m _ _) q (c.map Ct.e,(c.length:Int),i,de c)) (fun t=>!t.methods.all fun x=>(jG c t x).isSome) (fun _=>some (pI 16,[])) (some (pI 0,[])) (fun q i hi=>?_) (fun q=>?_) (by omega)).trans ?_
  ·rw[bb];have ht:=lρ hi;simp only[fF,hZ (show(i:Int)<(c.length:Int) by omega),be,aU,bf,bw hi,bG,Cs,show c[i].r.Methods=c[i].methods.map Cm.e from rfl,lβ];rw[č (hc.s _ ht) (fun x hx=>zU hc ht hx (sL hf _ ht x hx)) _ _ _ hm _ _ (Er:=some (pI 16,[])) fun _=>rfl];cases c[i].methods.all fun x=>(jG c c[i] x).isSome
   ·rfl
   ·simp only[wS (show i<eH by unfold eH;omega)];rfl
  ·rw[bb];simp only[fF,eT,bo]
  ·rw[gL];cases c.findIdx? fun t=>!t.methods.all fun x=>(jG c t x).isSome<;>rfl
def SJ (c:List Ct)(a b:Int):Option (Ct×Cm):=(dj c a).bind fun t=>(dj t.methods b).map fun q=>(t,q)
def UB (c:List Ct)(a b:Int):List SV:=bif az (Hi c) 0 then(match SJ c a b with|none=>[]|some p=>(jG c p.1 p.2).getD [])else[]
variable {α:Type}
def jI {l:List α}{x:Int}(h:x<0\/(l.length:Int)<=x):dj l x=none:=by
 unfold dj;by_cases h0:0<=x
 ·rw[if_pos h0,lτ (by omega)]
 ·rw[if_neg h0]
def Cf {l:List α}{x:Int}(h1:aG x 0=false)(h2:aL (l.length:Int) x=false):∃y,dj l x=some y/\y∈l:=by
 rw[bX,lζ]at h1;rw[bj,lζ]at h2;exact iR ⟨by omega,by omega⟩
def Č {c}(h:Hi c=0):CP c=true/\∀t∈c,∀m∈t.methods,∃s,jG c t m=some s:=by
 unfold Hi at h;cases hf:CP c with
 |false=>rw[hf]at h;cases h
 |true=>
  rw[hf,cond_true]at h;refine⟨rfl,?_⟩;cases ha:c.all fun t=>t.methods.all fun m=>(jG c t m).isSome with
  |false=>rw[ha]at h;cases h
  |true=>
   intro t ht m hm;exact Option.isSome_iff_exists.1 (mε.1 (mε.1 ha t ht) m hm)
def Jc {c:List Ct}(hc:AJ c)(a b:Int)(hm:400002<=m):Ω m 86 [.p (de c).e,pI a,pI b] []=some (pL 3 ((UB c a b).map SV.e),[]):=by
 replace hm:=fuel hm;obtain⟨m,rfl,hm⟩:=hm;apply JE m (de c) a b;unfold w5 UB;refine(aa (wO hc (m:=m) (by omega)) _).trans ?_;simp only[aY,bW,aB];cases hv:az (Hi c) 0 with
 |false=>rfl
 |true=>
  have hv0:=Č (eqI_t.1 hv);rw[Bool.not_true,bo,cond_true,show(de c).Types=c.map Ct.e from rfl,lβ];unfold SJ;cases h1:aG a 0 with
  |true=>rw[bX,lδ]at h1;rw[jI (.inl h1)];rfl
  |false=>
  cases h2:aL (c.length:Int) a with
  |true=>rw[bj,lδ]at h2;rw[jI (.inr h2)];rfl
  |false=>
  obtain⟨t,ht,htm⟩:=Cf h1 h2;rw[ht,Option.bind_some];cases h3:aG b 0 with
  |true=>rw[bX,lδ]at h3;rw[jI (.inl h3)];rfl
  |false=>
  simp only[bo,aU,bf,ht,bG,Cs,show t.r.Methods=t.methods.map Cm.e from rfl,lβ];cases h4:aL (t.methods.length:Int) b with
  |true=>rw[bj,lδ]at h4;rw[jI (.inr h4)];rfl
  |false=>
   obtain⟨q,hq,hqm⟩:=Cf h3 h4;rw[hq,bo,bG,FQ];refine(aa (Η (zU hc htm hqm (sL hv0.1 t htm q hqm)) (m:=m) (by omega)) _).trans ?_;simp only[c3,aR,aY,oU,aJ,aB];show iL _ _ _=some (pL 3 (((jG c t q).getD []).map SV.e),[]);cases(jG c t q).isSome<;>rfl
def U7 (c:List Ct)(a b p:Int):List Bool:=match dj (UB c a b) p,SJ c a b with
 |some v,some q=>(List.range q.2.locals.length).map fun i=>v.set.testBit i
 |_,_=>[]
def HY {m:Nat}(L:List SV)(p:Int)(v:SV)(hv:dj L p=some v)(h2:v.set<256)(n:Nat)(hn:n<60)(k0:_->R):∀(d q i:Nat),i+d=n->d<q->itL (fk (dC lay0.tab m) m k0) q (p,L.map SV.e,n,(n:Int),(i:Int),((List.range i).map fun j=>Da.bool (v.set.testBit j))++List.replicate d (Da.bool false))=k0 (p,L.map SV.e,n,(n:Int),(n:Int),(List.range n).map fun j=>Da.bool (v.set.testBit j))
 |0,q+1,i,h,_=>by
  obtain rfl:i=n:=by omega
  rw[bb];simp only[fk,eT,bo,List.replicate_zero,mκ]
 |d+1,q+1,i,h,hq=>by
  have h0:aL 0 (i:Int)=true:=by rw[bj];exact lν (by omega)
  have h1:aG (i:Int) 0=false:=Q5 (by omega);have hl:((List.range i).map fun j=>Da.bool (v.set.testBit j)).length=i:=by rw[lβ,List.length_range]
  have hg:(((List.range i).map fun j=>Da.bool (v.set.testBit j))++List.replicate (d+1) (Da.bool false))[0+i]?=some (Da.bool false):=by
   rw[Nat.zero_add,lσ (by omega),hl,Nat.sub_self];rfl
  have hs:∀x:Bool,(((List.range i).map fun j=>Da.bool (v.set.testBit j))++List.replicate (d+1) (Da.bool false)).set (0+i) (Da.bool x)=((List.range i).map fun j=>Da.bool (v.set.testBit j))++Da.bool x::List.replicate d (Da.bool false):=fun x=>by
   rw[Nat.zero_add,List.set_append_right _ _ (by omega),hl,Nat.sub_self];rfl
  have hr:((List.range (i+1)).map fun j=>Da.bool (v.set.testBit j))=((List.range i).map fun j=>Da.bool (v.set.testBit j))++[Da.bool (v.set.testBit i)]:=by rw[List.range_succ,List.map_append];rfl
  have ih:=HY (m:=m) L p v hv h2 n hn k0 d q (i+1) (by omega) (by omega);rw[hr,mξ]at ih;rw[bb];simp only[fk,hZ (show(i:Int)<(n:Int) by omega),be,aU,bf,hv,bG,show PQ v.e=true from rfl,YQ,h0,h1,bo,Int.toNat_natCast,YF h2 (show i<64 by omega),hg,show Nat.beq (List.length (cells (Da.bool false))) 1=true from rfl,show ∀x,eK (Da.bool false) (cells (Da.bool x))=some (Da.bool x)from fun _=>rfl,hs,wS (show i<eH by unfold eH;omega)];cases hb:v.set.testBit i with
  |true=>rw[hb]at ih;exact ih
  |false=>rw[hb]at ih;exact ih
def AN {c:List Ct}(hc:AJ c)(a b p:Int)(hm:400003<=m):Ω m 46 [.p (de c).e,pI a,pI b,pI p] []=some (pL 1 ((U7 c a b p).map Da.bool),[]):=by
 replace hm:=fuel hm;obtain⟨m,rfl,hm⟩:=hm;apply BV m (de c) a b p;unfold rh U7;refine(aa (Jc hc a b (m:=m) (by omega)) _).trans ?_;simp only[aY,oU,aB,lβ];cases h1:aG p 0 with
 |true=>rw[bX,lδ]at h1;rw[jI (.inl h1)];rfl
 |false=>
 cases h2:aL ((UB c a b).length:Int) p with
 |true=>rw[bj,lδ]at h2;rw[jI (.inr h2)];rfl
 |false=>
 obtain⟨v,hv,hvm⟩:=Cf h1 h2;rw[hv,bo,bo];unfold UB at hvm;cases h3:az (Hi c) 0 with
 |false=>rw[h3]at hvm;cases hvm
 |true=>
 rw[h3,cond_true]at hvm;cases h4:SJ c a b with
 |none=>rw[h4]at hvm;cases hvm
 |some q=>
 rw[h4]at hvm;obtain⟨t,me⟩:=q;unfold SJ at h4;cases h5:dj c a with
 |none=>rw[h5]at h4;cases h4
 |some t'=>
 rw[h5,Option.bind_some]at h4;cases h6:dj t'.methods b with
 |none=>rw[h6]at h4;cases h4
 |some me'=>
 rw[h6]at h4;cases h4;have mem:∀{α:Type} {l:List α} {x:Int} {y:α},dj l x=some y->y∈l:=fun {α l x y} h=>by
  unfold dj at h;by_cases h0:0<=x
  ·rw[if_pos h0]at h;exact mδ h
  ·rw[if_neg h0]at h;cases h
 have hv0:=Č (eqI_t.1 h3);have hfo:=zU hc (mem h5) (mem h6) (sL hv0.1 _ (mem h5) _ (mem h6));obtain⟨s,hs⟩:=hv0.2 _ (mem h5) _ (mem h6);have hl8:=hfo.l;have hvs:v.set<256:=((FB hfo hs).v v (by simp only[hs]at hvm;exact hvm)).2;simp only[show(de c).Types=c.map Ct.e from rfl,aU,bf,h5,bG,show PQ t.e=false from rfl,bo,Cs,show t.r.Methods=t.methods.map Cm.e from rfl,h6,FQ,show me.r.Locals=me.locals.map iE from rfl,lβ,Int.toNat_natCast];have hc1:(aL 0 (me.locals.length:Int)&&aL (me.locals.length:Int) (me.locals.length:Int)&&Nat.ble (me.locals.length*1) 281474976710656&&aL (me.locals.length:Int) 9223372036854775807)=true:=by
  simp only[lγ,bj,Nat.ble_eq,lδ];omega
 rw[hc1,be];refine(HY (UB c a b) p v hv hvs me.locals.length (by omega) _ me.locals.length m 0 (by omega) (by omega)).trans ?_;simp only[List.drop_zero];rw[lκ (by rw[lβ,List.length_range];omega),List.map_map];rfl
def QG {a b c:Nat}(h1:a &&& b=a)(h2:b &&& c=b):a &&& c=a:=by
 rw[<-h1,Nat.and_assoc,h2]
def LeS (s s':List SV):Prop:=∀(i:Nat) (v:SV),s[i]?=some v->v.r=true->∃v':SV,s'[i]?=some v'/\v'.r=true/\v'.st=v.st/\v'.set &&& v.set=v'.set
def LeS.rfl' (s:List SV):LeS s s:=fun i v h hr=>⟨v,h,hr,rfl,Nat.and_self _⟩
def LeS.tr {a b c:List SV}(h1:LeS a b)(h2:LeS b c):LeS a c:=fun i v h hr=>by
 obtain⟨u,hu,hur,hus,hss⟩:=h1 i v h hr;obtain⟨w,hw,hwr,hws,hwt⟩:=h2 i u hu hur;exact⟨w,hw,hwr,hws.trans hus,QG hwt hss⟩
def Has (s:List SV)(to:Nat)(st:LI)(set:Nat):Prop:=∃u:SV,s[to]?=some u/\u.r=true/\u.st=st/\u.set &&& set=u.set
variable {st:LI}
def Has.mono {s s':List SV}{to:Nat}{set:Nat}(h:Has s to st set)(hl:LeS s s'):Has s' to st set:=by
 obtain⟨u,hu,hr,hs,hb⟩:=h;obtain⟨w,hw,hwr,hws,hwb⟩:=hl to u hu hr;exact⟨w,hw,hwr,hws.trans hs,QG hwb hb⟩
structure Jy (s s':List SV)(w w':LN):Prop where
 l:LeS s s'
 c:∀i:Nat,s'[i]?=s[i]?\/i∈w'
 w:∀p∈w,p∈w'
def Ur {set:Nat}{to:Int}{s s':List SV}{w w':LN}(h:D1 st set to s w=some (s',w')):Jy s s' w w'/\Has s' to.toNat st set:=by
 unfold D1 at h;cases hv:s[to.toNat]? with
 |none=>rw[hv]at h;cases h
 |some v=>
  rw[hv]at h;have hl:=(List.getElem?_eq_some_iff.1 hv).1;have at':∀u:SV,(s.set to.toNat u)[to.toNat]?=some u:=fun u=>by rw[mψ hl]
  have ne':∀(u:SV) i,i≠to.toNat->(s.set to.toNat u)[i]?=s[i]?:=fun u i hi=>mρ (fun e=>hi e.symm)
  have ch:∀(u:SV) i,(s.set to.toNat u)[i]?=s[i]?\/i∈to.toNat::w:=fun u i=>by
   by_cases hi:i=to.toNat
   ·exact .inr (hi▸lυ)
   ·exact .inl (ne' u i hi)
  revert h
  show(bif v.r then _ else _)=_->_;cases hr:v.r with
  |true=>
   by_cases e1:v.st=st
   ·by_cases e2:v.set &&& set=v.set
    ·simp only[lν e1,lν e2,cond_true];rintro h;cases h;exact⟨⟨LeS.rfl' s,fun i=> .inl rfl,fun p h=>h⟩,v,hv,hr,e1,e2⟩
    ·simp only[lν e1,mθ e2,cond_true,cond_false];rintro h;cases h;refine⟨⟨fun i u hu hur=>?_,ch _,fun p hp=>mα _ hp⟩,_,at' _,rfl,e1,?_⟩
     ·by_cases hi:i=to.toNat
      ·subst hi;rw[hv]at hu;cases hu;refine⟨_,at' _,rfl,rfl,?_⟩;show(v.set &&& set) &&& v.set=v.set &&& set;rw[Nat.and_assoc,Nat.and_comm set,<-Nat.and_assoc,Nat.and_self]
      ·exact⟨u,(ne' _ i hi).trans hu,hur,rfl,Nat.and_self _⟩
     ·show(v.set &&& set) &&& set=v.set &&& set;rw[Nat.and_assoc,Nat.and_self]
   ·simp only[mθ e1,cond_true,cond_false];rintro h;cases h
  |false=>
   rintro h;cases h
   refine⟨⟨fun i u hu hur=>?_,ch _,fun p hp=>mα _ hp⟩,_,at' _,rfl,rfl,Nat.and_self _⟩
   by_cases hi:i=to.toNat
   ·subst hi;rw[hv]at hu;cases hu;rw[hr]at hur;cases hur
   ·exact⟨u,(ne' _ i hi).trans hu,hur,rfl,Nat.and_self _⟩
def Jy.tr {a b c:List SV}{u v w:LN}(h1:Jy a b u v)(h2:Jy b c v w):Jy a c u w:=
 ⟨h1.l.tr h2.l,fun i=>by
  rcases h2.c i with h|h
  ·rcases h1.c i with g|g
   ·exact .inl (h.trans g)
   ·exact .inr (h2.w i g)
  ·exact .inr h,fun p h=>h2.w p (h1.w p h)⟩
def D2 {st:LI}{set:Nat}:∀{tos:LI} {s s':List SV} {w w':LN},lm st set tos s w=some (s',w')->Jy s s' w w'/\∀to∈tos,Has s' to.toNat st set
 |[],s,s',w,w',h=>by cases h;exact⟨⟨LeS.rfl' s,fun i=> .inl rfl,fun p h=>h⟩,fun _ h=>by cases h⟩
 |to::r,s,s',w,w',h=>by
  unfold lm at h;cases hp:D1 st set to s w with
  |none=>rw[hp]at h;cases h
  |some p=>
   rw[hp]at h;obtain⟨q1,q2⟩:=Ur (s':=p.1) (w':=p.2) hp;obtain⟨r1,r2⟩:=D2 h;refine⟨q1.tr r1,fun k hk=>?_⟩
   rcases lω.1 hk with rfl|hk
   ·exact q2.mono r1.l
   ·exact r2 k hk
def Con (c:List Ct)(t:Ct)(m:Cm)(s:List SV)(pc:Nat):Prop:=∀(x:Cd) (v:SV),m.code[pc]?=some x->s[pc]?=some v->∃st',tZ c t m x v.st=some (st',true)/\(eM m pc x).2=true/\∀to∈(eM m pc x).1,Has s to.toNat st' (lA x v.set)
def Con.mono {c t m s s' pc}(h:Con c t m s pc)(hl:LeS s s')(he:s'[pc]?=s[pc]?):Con c t m s' pc:=fun x v hx hv=>by
 obtain⟨st',h1,h2,h3⟩:=h x v hx (he▸hv);exact⟨st',h1,h2,fun to hto=>(h3 to hto).mono hl⟩
def HU {c t m}(hf:HI c t m):∀{e:Nat} {s s':List SV} {w:LN},oH c t m e s w=some s'->yO m s->(∀p∈w,p<m.code.length)->w.length+GJ s<=e->(∀(pc:Nat) (v:SV),s[pc]?=some v->v.r=true->pc∈w\/Con c t m s pc)->LeS s s'/\∀(pc:Nat) (v:SV),s'[pc]?=some v->v.r=true->Con c t m s' pc
 |e,s,s',[],h,hs,hp,he,hi=>by
  have:oH c t m e s []=some s:=by cases e<;>rfl
  rw[this]at h;cases h;exact⟨LeS.rfl' s,fun pc v hv hr=>(hi pc v hv hr).resolve_left (by simp)⟩
 |0,s,s',pc::w,h,hs,hp,he,hi=>by simp only[List.length_cons]at he;omega
 |e+1,s,s',pc::w,h,hs,hp,he,hi=>by
  have hpc:pc<m.code.length:=hp pc lυ;have hps:pc<s.length:=by rw[hs.n];exact hpc
  have hin:=hf.i _ (lρ hpc);have hv:=hs.v _ (lρ hps);simp only[List.length_cons]at he;unfold oH at h;rw[lε hpc,lε hps]at h;simp only at h;revert h;split
  ·rename_i st hr;cases h2:(eM m pc m.code[pc]).2 with
   |false=>intro h;cases h
   |true=>
    rw[cond_true];cases hpr:lm st (lA m.code[pc] s[pc].set) (eM m pc m.code[pc]).1 s w with
    |none=>intro h;cases h
    |some p=>
     intro h;obtain⟨o1,o2,-,o4⟩:=sW (s':=p.1) (w':=p.2) (yT hr) (G5 hin hf.l hv.2) hpr hs fun x hx=>hp x (mα _ hx)
     obtain⟨i1,i2⟩:=D2 (s':=p.1) (w':=p.2) hpr;have key:∀(k:Nat) (v:SV),p.1[k]?=some v->v.r=true->k∈p.2\/Con c t m p.1 k:=fun k v hk hkr=>by
      rcases i1.c k with hc|hc
      ·by_cases hkp:k=pc
       ·subst hkp;refine .inr fun x u hx hu=>?_
        rw[lε hpc]at hx;cases hx;rw[hc,lε hps]at hu;cases hu;exact⟨st,hr,h2,i2⟩
       ·rcases hi k v (hc▸hk) hkr with hm|hm
        ·rcases lω.1 hm with e|hm
         ·exact absurd e hkp
         ·exact .inl (i1.w k hm)
        ·exact .inr (hm.mono i1.l hc)
      ·exact .inl hc
     obtain⟨r1,r2⟩:=HU hf h o1 o4 (by omega) key;exact⟨i1.l.tr r1,r2⟩
  ·intro h;cases h
structure Í (c:List Ct)(t:Ct)(m:Cm)(s:List SV):Prop where
 o:yO m s
 z:∃v:SV,s[0]?=some v/\v.st=[]/\v.set &&& (2 ^ m.params.length - 1)=v.set
 c:∀(pc:Nat) (x:Cd) (v:SV),m.code[pc]?=some x->s[pc]?=some v->∃st',tZ c t m x v.st=some (st',true)/\(eM m pc x).2=true/\∀to∈(eM m pc x).1,Has s to.toNat st' (lA x v.set)
 l:∀(pc:Nat) (x:Cd) (v:SV),m.code[pc]?=some x->s[pc]?=some v->x.op=2->v.set.testBit x.a.toNat=true
def R2 {c t m s}(hf:HI c t m)(h:jG c t m=some s):Í c t m s:=by
 have hok:=FB hf h;have hcn:=hf.n;unfold jG at h;cases hg:oH c t m (256*m.code.length+1) (EN m) [0]with
 |none=>rw[hg]at h;cases h
 |some u=>
  rw[hg,Option.bind_some]at h;cases hc:(u.zip m.code).all nm with
  |false=>rw[hc]at h;cases h
  |true=>
   rw[hc]at h;cases h;have hphi:GJ (EN m)<=256*m.code.length:=by
    have hp:=hf.p;have h2:2 ^ m.params.length<=2 ^ 4:=Nat.pow_le_pow_right (by omega) hp;have:=sU (List.replicate m.code.length (⟨false,[],0⟩:SV)) 0 (by rw[mμ];exact hcn) ⟨true,[],2 ^ m.params.length - 1⟩;rw[IS,List.getElem_replicate]at this;simp only[cond_true,cond_false]at this;unfold EN;omega
   have h00:(EN m)[0]?=some ⟨true,[],2 ^ m.params.length - 1⟩:=by
    unfold EN;rw[mψ (by rw[mμ];exact hcn)]
   obtain⟨r1,r2⟩:=HU hf hg (Qy hf) (fun p hp=>by rw[List.mem_singleton.1 hp];exact hcn) (by simp only[List.length_cons,List.length_nil];omega) fun pc v hv hr=>by
    refine .inl ?_;by_cases hp:pc=0
    ·simp[hp]
    ·unfold EN at hv;rw[mρ (fun e=>hp e.symm),List.getElem?_replicate]at hv;by_cases hpl:pc<m.code.length
     ·rw[if_pos hpl]at hv;cases hv;cases hr
     ·rw[if_neg hpl]at hv;cases hv
   have good:∀(pc:Nat) (x:Cd) (v:SV),m.code[pc]?=some x->s[pc]?=some v->nm (v,x)=true:=fun pc x v hx hv=>by
    obtain⟨h1,rfl⟩:=List.getElem?_eq_some_iff.1 hx;obtain⟨h2,rfl⟩:=List.getElem?_eq_some_iff.1 hv;have:=mε.1 hc ((s.zip m.code)[pc]'(by rw[qα];omega)) (lρ _);rw[List.getElem_zip]at this;exact this
   have reach:∀(pc:Nat) (x:Cd) (v:SV),m.code[pc]?=some x->s[pc]?=some v->v.r=true:=fun pc x v hx hv=>by
    have:=good pc x v hx hv;unfold nm at this;rw[lγ]at this;exact this.1
   refine⟨hok,?_,fun pc x v hx hv=>r2 pc v hv (reach pc x v hx hv) x v hx hv,fun pc x v hx hv ho=>?_⟩
   ·obtain⟨v,hv,-,hs,hb⟩:=r1 0 _ h00 rfl;exact⟨v,hv,hs,hb⟩
   ·have:=good pc x v hx hv;unfold nm at this;rw[lγ]at this;have h2:=this.2;simp only[ho,show az 2 2=true from rfl,Bool.not_true,Bool.false_or]at h2;exact h2
def lB (n:Int):Prop:= -9223372036854775808<=n/\n<=9223372036854775807
def LS (n:Int):ag .i64 n=IntKind.i64.wrap n:= @hE ⟨fun _=>0⟩ .i64 n
def UR (n:Int):lB (ag .i64 n):=by
 rw[LS,IntKind.wrap_i64];unfold lB;omega
structure Wk (v:Va):Prop where
 n:lB v.n
 i:∀x∈v.I,lB x
 s:v.s.length<=64
 I:v.I.length<=16
 L:v.L.length<=16
 e:∀t∈v.L,t.length<=64
 k4:v.k=4->v.L=[]
 kn:v.k≠4->v.I=[]
 k3:v.k≠3->v.s=[]
def LZ (r:Int×Int):R:=some (.tup [pI r.1,pI r.2],[])
def Ñ:ae:=fun _ _ _ _=>none
def yz (P:Int×Int->Prop)(G:R):Prop:=∃r,G=LZ r/\P r
def HX {P:Int×Int->Prop}{b:Bool}{A B:R}(h:b=true->yz P A)(g:b=false->yz P B):yz P (iL b A B):=by cases b;exact g rfl;exact h rfl
def UL {x:Int}(y:Int)(h:lB x):lB (Int.tmod x y):=by
 unfold lB at h ⊢
 rcases Int.le_total 0 x with hx|hx
 ·have:=Int.tmod_nonneg y hx;have h2:Int.tmod x y<=x:=by
   have:=Int.natAbs_tmod x y;have h3:=Nat.mod_le x.natAbs y.natAbs;omega
  omega
 ·have h2:x<=Int.tmod x y/\Int.tmod x y<=0:=by
   have:=Int.natAbs_tmod x y;have h3:=Nat.mod_le x.natAbs y.natAbs;have h4:Int.tmod x y<=0:=by
    have:=Int.tmod_nonneg y (show 0<= -x by omega);rw[Int.neg_tmod]at this;omega
   omega
  omega
def Pu (o:LN){x:Int}(y:Int)(hx:lB x):yz (fun r=>lB r.1) (jT Ñ 0 o x y):=by
 have w (a b:Int) (h:lB a):yz (fun r=>lB r.1) (LZ (a,b)):=⟨_,rfl,h⟩;have z:lB 0:=by unfold lB;omega
 unfold jT kI kJ kK;repeat' (refine HX (fun _=>?_) (fun _=>?_))
 all_goals first|exact w _ _ z|exact w _ _ (UR _)|exact w _ _ (UL _ hx)|simp_all
def U4 (o:LN)(x y:Int):Int×Int:=Classical.epsilon fun r=>jT Ñ 0 o x y=LZ r/\lB r.1
def AP (o:LN)(x y:Int)(hx:lB x)(hm:1<=m):Ω m 297 [pS o,pI x,pI y] []=LZ (U4 o x y):=by
 obtain⟨m,rfl,-⟩:=fuel hm;apply Nn m o x y;exact(Classical.epsilon_spec (Pu o y hx)).1
def U6 (o:LN){x:Int}(y:Int)(hx:lB x):lB (U4 o x y).1:=(Classical.epsilon_spec (Pu o y hx)).2
def Sh (b:Bool):Va:=⟨2,bif b then 1 else 0,[],[],[]⟩
def XA (n:Int):Va:=⟨1,n,[],[],[]⟩
def sq (r:Va×Int):R:=some (.tup [.p r.1.e,pI r.2],[])
def td (b:Bool)(hm:1<=m):Ω m 296 [pB b] []=some (.p (Sh b).e,[]):=by
 obtain⟨m,rfl,-⟩:=fuel hm;apply Fs m b;cases b<;>rfl
def nC (n:Int)(hm:1<=m):Ω m 298 [pI n] []=some (.p (XA n).e,[]):=by
 obtain⟨m,rfl,-⟩:=fuel hm;apply Fw m n;rfl
def QS (o:LN)(v:Va):Va×Int:=bif cg o [33]then(Sh (az v.n 0),0)else(XA (U4 [45] 0 v.n).1,(U4 [45] 0 v.n).2)
def EK:lB 0:=by unfold lB;omega
def My (o:LN)(v:Va)(hm:2<=m):Ω m 229 [pS o,.p v.e] []=sq (QS o v):=by
 replace hm:=fuel hm;obtain⟨m,rfl,hm⟩:=hm;apply No m o v.r;unfold Bh QS;cases cg o [33]with
 |true=>
  simp only[be,aa (td (m:=m) (az v.r.N 0) hm),aY,aB,Va.e,FT,cond_true];rfl
 |false=>
  have e:=AP (m:=m) [45] 0 v.n EK hm;unfold LZ at e;simp only[bo,show v.r.N=v.n from rfl,aa e,c3,aR,aY,bW,aB,aa (nC (m:=m) _ hm),Va.e,FT,cond_false];rfl
def K3 (a b:Va):Bool:=bif az a.k 3 then Ue a.s b.s else aG a.n b.n
def Ro (a b:Va)(hm:1<=m):Ω m 299 [.p a.e,.p b.e] []=some (pB (K3 a b),[]):=by
 replace hm:=fuel hm;obtain⟨m,rfl,hm⟩:=hm;apply RK m a.r b.r;unfold Hy K3;show iL (az a.k 3) _ _=_;cases az a.k 3<;>rfl
def Q2 (o:LN)(a b:Va):Va×Int:=
 bif cg o [61,61]then(Sh (fd a b),0)else
 bif cg o [33,61]then(Sh (!fd a b),0)else
 bif cg o [60]then(Sh (K3 a b),0)else
 bif cg o [60,61]then(Sh (!K3 b a),0)else
 bif cg o [62]then(Sh (K3 b a),0)else
 bif cg o [62,61]then(Sh (!K3 a b),0)else
 bif cg o [43]&&az a.k 3 then(bif aG 64 (a.s.length+b.s.length:Nat)then(v0,5)else(⟨3,0,a.s++b.s,[],[]⟩,0))else
 (XA (U4 o a.n b.n).1,(U4 o a.n b.n).2)
def Jg (o:LN)(a b:Va)(ha:Wk a)(hb:Wk b)(hm:1510<=m):Ω m 231 [pS o,.p a.e,.p b.e] []=sq (Q2 o a b):=by
 replace hm:=fuel hm;obtain⟨m,rfl,hm⟩:=hm;apply JO m o a.r b.r;have hI:=ha.I;have hL:=ha.L;have hs:=ha.s;have hs2:=hb.s;have es:=su (n:=m - 1504) a b (.inl (by omega)) (.inl (by omega));rw[show m - 1504+1504=m by omega]at es;have es':=aa es;have el:=fun a b=>aa (Ro (m:=m) a b (by omega))
 have eb:=fun b=>aa (td (m:=m) b (by omega))
 have ei:=fun n=>aa (nC (m:=m) n (by omega))
 have ea:=AP (m:=m) o a.n b.n ha.n (by omega);unfold LZ at ea;have ea':=aa ea;unfold xe Q2;simp only[show a.r.e=Da.agg a.c from rfl,show b.r.e=Da.agg b.c from rfl,es',Va.e]at el eb ei ea' ⊢
 simp only[es',el,eb,ei,aY,aJ,aB,FT,show a.r.N=a.n from rfl,show b.r.N=b.n from rfl,show a.r.S=a.s from rfl,show b.r.S=b.s from rfl,show a.r.Kind=a.k from rfl,ea',c3,aR,bW];have hw:ag .i64 ((a.s.length:Int)+(b.s.length:Int))=((a.s.length+b.s.length:Nat):Int):=by rw[fO (by omega) (by omega)];omega
 have hb2:Nat.ble (a.s.length+b.s.length) ŭ=true:=by rw[Nat.ble_eq];exact qβ (show a.s.length+b.s.length<=128 by omega) (by decide)
 rw[hw,hb2];cases cg o [61,61]
 ·cases cg o [33,61]
  ·cases cg o [60]
   ·cases cg o [60,61]
    ·cases cg o [62]
     ·cases cg o [62,61]
      ·cases cg o [43]<;>cases az a.k 3<;>cases aG 64 (a.s.length+b.s.length:Nat)<;>rfl
      ·rfl
     ·rfl
    ·rfl
   ·rfl
  ·rfl
 ·rfl
def jj (v:Va)(k:Int):Bool:=az v.k k&&ra v
def yD (v:Va)(k:Int)(hm:1504<=m):Ω m 47 [.p v.e,pI k] []=some (pB (jj v k),[]):=by
 replace hm:=fuel hm;obtain⟨m,rfl,hm⟩:=hm;apply RJ m v.r k;have e:=tf (n:=m - 1503) v;rw[show m - 1503+1503=m by omega]at e;unfold Hx jj;show iL (az v.k k) (dC lay0.tab m 87 [.p (.agg v.c)] [] _) _=_;rw[aa e];simp only[aY,aJ,aB,nV,OB]
def uw:List Va->LI->Bool
 |[],[]=>true
 |v::l,k::m=>jj v k&&uw l m
 |_,_=>false
def CM:∀(l:List Va) (m:LI),l.length=m.length->uw l m=(l.zip m).all fun p=>jj p.1 p.2
 |[],[],_=>rfl
 |v::l,k::m,h=>by
  simp only[uw,List.zip_cons_cons,List.all_cons,CM l m (by simpa using h)]
def CL:∀(l:List Va) (m:LI),l.length≠m.length->uw l m=false
 |[],[],h=>absurd rfl h
 |[],_::_,_=>rfl
 |_::_,[],_=>rfl
 |v::l,k::m,h=>by
  simp only[uw,CL l m (by simpa using h),Bool.and_false]
def J_ (l:List Va)(ks:LI)(hl:l.length<1501)(hm:1506<=m):Ω m 83 [pL 5 (l.map Va.e),pL 1 (ks.map iE),.p (.fn 47 [])] []=some (pB (uw l ks),[]):=by
 replace hm:=fuel hm;obtain⟨m,rfl,hm⟩:=hm;apply K_ m (l.map Va.e) (ks.map iE);unfold x_;rw[lβ,lβ,cE,pp];by_cases h:(l.length:Int)=(ks.length:Int)
 ·have h':l.length=ks.length:=by omega
  rw[if_pos h,CM l ks h'];have hz:(l.zip ks).length=l.length:=by rw[qα];omega
  refine(bA (l.zip ks) (fun q i=>itL (Ť _ m _ _) q (ks.map iE,l.map Va.e,(l.length:Int),i)) (fun p=>!jj p.1 p.2) (fun _=>some (pB false,[])) (some (pB true,[])) (fun q i hi=>?_) (fun q=>?_) (by omega)).trans ?_
  ·rw[hz]at hi;rw[bb];simp only[Ť,hZ (show((i:Int)<(l.length:Int)) by omega),be,aU,bf,bw hi,bw (show i<ks.length by omega),bG,Va.e,FT,dI,wS (show i<eH by unfold eH;omega),List.getElem_zip];have e:=yD (m:=m) l[i] ks[i] (by omega);simp only[Va.e]at e;show dC lay0.tab m 47 [.p (.agg l[i].c),_] [] _=_;rw[aa e];simp only[aY,aJ,aB];cases jj l[i] ks[i]<;>rfl
  ·rw[bb,hz];simp only[Ť,eT,bo]
  ·rw[gL];cases(l.zip ks).findIdx? fun p=>!jj p.1 p.2<;>rfl
 ·rw[if_neg h,CL l ks (by omega)]
def k_ (l:List Va)(ks:LI)(hl:l.length<1501)(hm:1507<=m):Ω m 38 [pL 5 (l.map Va.e),pL 1 (ks.map iE)] []=some (pB (uw l ks),[]):=by
 replace hm:=fuel hm;obtain⟨m,rfl,hm⟩:=hm;apply o_ m (l.map Va.e) (ks.map iE);unfold ϐ;rw[aa (J_ (m:=m) l ks hl hm)];simp only[aY,aJ,bM]
structure Ef where
 k:Int
 n:LN
 (a b:Int)
def Ef.e (x:Ef):Da:= .agg [.int .i64 x.k,.str x.n,.int .i64 x.a,.int .i64 x.b]
def LW:Ef:=⟨0,[],0,0⟩
def oJ (q:Int)(l:List Va)(c:Nat):Option (Ef×Int):=
 match l with
 |[]=>none
 |a::r=>
  bif aL 16 (c:Int)then some (LW,5)else bif cg a.s []then some (LW,5)else bif aG 32 (a.s.length:Int)then some (LW,5)else
  bif az q 1 then(match r with|b::_=>some (⟨q,a.s,b.n,0⟩,0)|_=>none)else
  bif az q 2 then(match r with|b::d::_=>bif aG b.n 1 then some (LW,5)else bif aG 1073741824 b.n then some (LW,5)else bif aG d.n 1 then some (LW,5)else bif aG 1073741824 d.n then some (LW,5)else some (⟨q,a.s,b.n,d.n⟩,0)|_=>none)else
  some (⟨q,a.s,0,0⟩,0)
def Ll (r:Ef×Int):R:=some (.tup [.p r.1.e,pI r.2],[])
def fT (f:α->R)(b:Bool)(x y:Option α)(X Y:R){r:α}(h:(bif b then x else y)=some r)(hx:x=some r->X=f r)(hy:y=some r->Y=f r):iL b X Y=f r:=by
 cases b
 ·exact hy h
 ·exact hx h
def VT (q:Int)(l:List Va)(c:Nat){r:Ef×Int}(h:oJ q l c=some r)(hm:1<=m):Ω m 237 [pI q,pL 5 (l.map Va.e),pI c] []=Ll r:=by
 replace hm:=fuel hm;obtain⟨m,rfl,hm⟩:=hm;apply V8 m q (l.map Va.e) c;unfold MN;unfold oJ at h;have z:∀y:Ef×Int,some y=some r->Ll y=Ll r:=fun y e=>by rw[Option.some.inj e]
 match l,h with
 |a::t,h=>
  show iL (aL 16 (c:Int)) _ (iL (cg a.s []) _ (iL (aG 32 (a.s.length:Int)) _ (iL (az q 1) _ (iL (az q 2) _ _))))=_;refine fT Ll _ _ _ _ _ h (z _) fun h=>?_
  refine fT Ll _ _ _ _ _ h (z _) fun h=>?_
  refine fT Ll _ _ _ _ _ h (z _) fun h=>?_
  refine fT Ll _ _ _ _ _ h (fun h=>?_) fun h=>?_
  ·match t,h with
   |b::_,h=>exact z _ h
  refine fT Ll _ _ _ _ _ h (fun h=>?_) (z _);match t,h with
  |b::d::_,h=>
   show iL (aG b.n 1) _ (iL (aG 1073741824 b.n) _ (iL (aG d.n 1) _ (iL (aG 1073741824 d.n) _ _)))=_;refine fT Ll _ _ _ _ _ h (z _) fun h=>?_
   refine fT Ll _ _ _ _ _ h (z _) fun h=>?_
   refine fT Ll _ _ _ _ _ h (z _) fun h=>?_
   exact fT Ll _ _ _ _ _ h (z _) (z _)
def ç (m:Nat)(l:LD):Ω (m+1) 84 [pL 5 l] []=dH 5 80 [.slice 5 l]:=by kernel_rfl
def Y1 (m:Nat)(lo n:Nat)(l:LD):Ω (m+1) 84 [.arr 0 lo n 5] [.arr l]=jb 5 80 [.arr 0 lo n 5] [.arr l]:=by kernel_rfl
def å (m:Nat)(l:LD):Ω (m+1) 76 [pL 1 l] []=dH 1 8 [.slice 1 l]:=by kernel_rfl
def æ (m:Nat)(l:LD):Ω (m+1) 77 [pL 1 l] []=dH 1 16 [.slice 1 l]:=by kernel_rfl
def OJ {z b:Nat}{l:LD}(h:l.length<1501)(hb:b<=1000):dH z b [.slice z l]=some (.arr 0 0 l.length z,[.arr l]):=by
 have h1:(2*(0+l.length)+192)*b<=(2*(0+l.length)+192)*1000:=Nat.mul_le_mul_left _ hb;have:et l.length b=true:=by
  unfold et;rw[lγ,Nat.ble_eq,Nat.ble_eq];omega
 show(bif Nat.beq z z&&et l.length b then some (D.arr 0 0 l.length z,[Ob.arr l])else none)=_;rw[Nat.beq_refl,this];rfl
def Yt (l:LD)(h:l.length<1501)(hm:1<=m):Ω m 84 [pL 5 l] []=some (.arr 0 0 l.length 5,[.arr l]):=by
 replace hm:=fuel hm;obtain⟨m,rfl,hm⟩:=hm;rw[ç,OJ h (by decide)]
def UU (l:LD)(lo n:Nat)(h:lo+n<=l.length)(h2:n<1501)(hm:1<=m):Ω m 84 [.arr 0 lo n 5] [.arr l]=some (.arr 1 0 n 5,[.arr l,.arr ((l.drop lo).take n)]):=by
 replace hm:=fuel hm;obtain⟨m,rfl,hm⟩:=hm;rw[Y1];have:et n 80=true:=by
  unfold et;rw[lγ,Nat.ble_eq,Nat.ble_eq];omega
 show(bif Nat.beq 0 0&&(Nat.beq 5 5&&(Nat.ble (lo+n) l.length&&et n 80))then some (D.arr 1 0 n 5,[Ob.arr l,.arr ((l.drop lo).take n)])else none)=_
 rw[this,show Nat.ble (lo+n) l.length=true by rw[Nat.ble_eq];exact h];rfl
def Ë (l:LD)(h:l.length<1501)(hm:1<=m):Ω m 76 [pL 1 l] []=some (.arr 0 0 l.length 1,[.arr l]):=by
 replace hm:=fuel hm;obtain⟨m,rfl,hm⟩:=hm;rw[å,OJ h (by decide)]
def Ì (l:LD)(h:l.length<1501)(hm:1<=m):Ω m 77 [pL 1 l] []=some (.arr 0 0 l.length 1,[.arr l]):=by
 replace hm:=fuel hm;obtain⟨m,rfl,hm⟩:=hm;rw[æ,OJ h (by decide)]
def eE (l:LD)(k:LD->R):cO (.arr l) k=k l:=rfl
def eC (i z n:Nat)(k:Nat->R):dF i z (.arr i 0 n z) k=k n:=by
 unfold dF;simp[iL]
def nM (x:List D)(K:List D->R):ne (.agg x) K=K x:=rfl
def Va.cl (v:Va):D:= .agg [pI v.k,pI v.n,pS v.s,.arr 0 0 v.I.length 1,.arr 1 0 v.L.length 1]
def Va.ch (v:Va):List Ob:=[.arr (v.I.map iE),.arr (v.L.map .str)]
structure Lg (v:Va):Prop where
 I:v.I.length<1501
 L:v.L.length<1501
def gQ (v:Va)(h:Lg v)(hm:2<=m):Ω m 55 [.p v.e] []=some (v.cl,v.ch):=by
 replace hm:=fuel hm;obtain⟨m,rfl,hm⟩:=hm;apply Nq m v.r;unfold Bj;rw[aa (Ë (m:=m) v.r.I (by show(v.I.map iE).length<_;rw[lβ];exact h.I) (by omega)),eC];simp only[aR,eE,aB];rw[aa (Ì (m:=m) v.r.L (by show(v.L.map Da.str).length<_;rw[lβ];exact h.L) (by omega)),eC];simp only[aR,eE,aB,Va.r,lβ];rfl
def H8 {m:Nat}(l:List Va)(hl:l.length<1501)(hv:∀v∈l,Lg v)(hm:1503<=m)(k0:_->R){Z:R}(hk:∀a b c,k0 (l.length,a,b,c,l.map Va.e)=Z):∀(e q i:Nat),i+e=l.length->e<q->itL (gS (dC lay0.tab m) m k0) q (l.length,(l.length:Int),(i:Int),l.map Va.e)=Z
 |0,q+1,i,hi,_=>by
  obtain rfl:i=l.length:=by omega
  rw[bb];simp only[gS,eT,bo,hk]
 |e+1,q+1,i,hi,hq=>by
  have hil:i<l.length:=by omega
  have hg:(l.map Va.e)[0+(i:Int).toNat]?=some (Da.agg l[i].c):=by
   rw[Nat.zero_add,Int.toNat_natCast,lξ,lε hil];rfl
  have hs:∀d:Da,d=Da.agg l[i].c->(l.map Va.e).set (0+(i:Int).toNat) d=l.map Va.e:=by
   intro d hd;rw[Nat.zero_add,Int.toNat_natCast,hd];apply List.ext_getElem?;intro k;rw[List.getElem?_set];by_cases hk:i=k
   ·subst hk;rw[if_pos rfl,if_pos (by rw[lβ];exact hil),lξ,lε hil];rfl
   ·rw[if_neg hk]
  have ec:=aa (gQ (m:=m) l[i] (hv _ (lρ _)) (by omega));simp only[Va.e]at ec;rw[bb];have t1:Da.agg (splice (cells (Da.agg l[i].c)) 0 (cells (Da.agg [Da.int .i64 l[i].k,Da.int .i64 l[i].n,Da.str l[i].s,Da.slice 1 (List.take l[i].I.length (List.drop 0 (l[i].I.map iE))),Da.slice 1 (List.take l[i].L.length (List.drop 0 (l[i].L.map Da.str)))])))=Da.agg l[i].c:=by
   rw[List.drop_zero,List.drop_zero,lκ (by rw[lβ];omega),lκ (by rw[lβ];omega)];rfl
  simp only[gS,hZ (show((i:Int)<(l.length:Int)) by omega),be,bj,show(0:Int)<=(i:Int) by omega,decide_true,hg,bG,FT,show l[i].r.e=Da.agg l[i].c from rfl,ec,Va.cl,Va.ch,nM,aR,aY,bW,iU,eC,aB,eE];rw[hs _ t1,wS (show i<eH by unfold eH;omega)];exact H8 l hl hv hm k0 hk e q (i+1) (by omega) (by omega)
def qq (l:List Va)(hl:l.length<1501)(hv:∀v∈l,Lg v)(hm:1504<=m):Ω m 39 [pL 5 (l.map Va.e)] []=some (.arr 0 0 l.length 5,[.arr (l.map Va.e)]):=by
 replace hm:=fuel hm;obtain⟨m,rfl,hm⟩:=hm;apply JR m (l.map Va.e);unfold xh;rw[aa (Yt (m:=m) (l.map Va.e) (by rw[lβ];exact hl) (by omega)),eC];simp only[aR,eE,aB,lβ];exact H8 l hl hv (by omega) _ (fun _ _ _=>rfl) l.length m 0 (by omega) (by omega)
def Cq {m:Nat}(l:List Va)(hl:l.length<1501)(hv:∀v∈l,Lg v)(hm:1503<=m)(X:LD)(k0:_->R){Z:R}(hk:∀a b c,k0 (l.length,a,b,c,X,l.map Va.e)=Z):∀(e q i:Nat),i+e=l.length->e<q->itL (fS (dC lay0.tab m) m k0) q (l.length,(l.length:Int),(i:Int),X,l.map Va.e)=Z
 |0,q+1,i,hi,_=>by
  obtain rfl:i=l.length:=by omega
  rw[bb];simp only[fS,eT,bo,hk]
 |e+1,q+1,i,hi,hq=>by
  have hil:i<l.length:=by omega
  have hg:(l.map Va.e)[0+(i:Int).toNat]?=some (Da.agg l[i].c):=by
   rw[Nat.zero_add,Int.toNat_natCast,lξ,lε hil];rfl
  have hs:∀d:Da,d=Da.agg l[i].c->(l.map Va.e).set (0+(i:Int).toNat) d=l.map Va.e:=by
   intro d hd;rw[Nat.zero_add,Int.toNat_natCast,hd];apply List.ext_getElem?;intro k;rw[List.getElem?_set];by_cases hk:i=k
   ·subst hk;rw[if_pos rfl,if_pos (by rw[lβ];exact hil),lξ,lε hil];rfl
   ·rw[if_neg hk]
  have ec:=aa (gQ (m:=m) l[i] (hv _ (lρ _)) (by omega));simp only[Va.e]at ec;rw[bb];have t1:Da.agg (splice (cells (Da.agg l[i].c)) 0 (cells (Da.agg [Da.int .i64 l[i].k,Da.int .i64 l[i].n,Da.str l[i].s,Da.slice 1 (List.take l[i].I.length (List.drop 0 (l[i].I.map iE))),Da.slice 1 (List.take l[i].L.length (List.drop 0 (l[i].L.map Da.str)))])))=Da.agg l[i].c:=by
   rw[List.drop_zero,List.drop_zero,lκ (by rw[lβ];omega),lκ (by rw[lβ];omega)];rfl
  simp only[fS,hZ (show((i:Int)<(l.length:Int)) by omega),be,bj,show(0:Int)<=(i:Int) by omega,decide_true,hg,bG,FT,show l[i].r.e=Da.agg l[i].c from rfl,ec,Va.cl,Va.ch,nM,aR,aY,bW,iU,eC,aB,eE];rw[hs _ t1,wS (show i<eH by unfold eH;omega)];exact Cq l hl hv hm X k0 hk e q (i+1) (by omega) (by omega)
def EU (l:List Va)(hl:l.length<1501)(hv:∀v∈l,Lg v)(hm:1504<=m):Ω m 39 [.arr 0 0 l.length 5] [.arr (l.map Va.e)]=some (.arr 1 0 l.length 5,[.arr (l.map Va.e),.arr (l.map Va.e)]):=by
 replace hm:=fuel hm;obtain⟨m,rfl,hm⟩:=hm;apply Fu m l.length (l.map Va.e);unfold tu;rw[aa (UU (m:=m) (l.map Va.e) 0 l.length (by rw[lβ];omega) hl (by omega)),eC];simp only[aR,eE,aB,List.drop_zero,lκ (l:=l.map Va.e) (show(l.map Va.e).length<=l.length by rw[lβ];omega)];exact Cq l hl hv (by omega) _ _ (fun _ _ _=>rfl) l.length m 0 (by omega) (by omega)
def Od {n:Nat}(h:n<1000000001):c8 n 8=true:=kX h (by omega)
def Ε (v:Va):Nat:=v.s.length+v.I.length+v.L.length
def jh (o:LN)(l:List Va):Option (Va×Int):=
 bif cg o [105,110,116,115]then some (⟨4,0,[],l.map Va.n,[]⟩,0)else bif cg o [115,116,114,105,110,103,115]then some (⟨5,0,[],[],l.map Va.s⟩,0)else
 match l with
 |[]=>none
 |a::r=>
  bif cg o [108,101,110]then some (XA (Ε a:Nat),0)else
  bif cg o [115,116,114]then some (⟨3,0,xU a.n,[],[]⟩,0)else
  match r with
  |[]=>none
  |b::r2=>
   bif cg o [97,112,112,101,110,100]then(bif az (Ε a:Nat) 16 then some (v0,5)else bif az a.k 4 then some (⟨a.k,a.n,a.s,a.I++[b.n],a.L⟩,0)else some (⟨a.k,a.n,a.s,a.I,a.L++[b.s]⟩,0))else
   bif aG b.n 0 then some (v0,20)else bif aL (Ε a:Nat) b.n then some (v0,20)else
   bif cg o [97,116]then(bif az a.k 4 then a.I[b.n.toNat]?.map (fun x=>(XA x,0))else a.L[b.n.toNat]?.map (fun t=>(⟨3,0,t,[],[]⟩,0)))else
   match r2 with
   |[]=>none
   |c::_=>
    bif az a.k 4 then a.I[b.n.toNat]?.map (fun _=>(⟨a.k,a.n,a.s,a.I.set b.n.toNat c.n,a.L⟩,0))else a.L[b.n.toNat]?.map (fun _=>(⟨a.k,a.n,a.s,a.I,a.L.set b.n.toNat c.s⟩,0))
def Y0 (m:Nat)(n:Int):Ω (m+1) 301 [pI n] []=ka [.int .i64 n]:=by kernel_rfl
def VP (n:Int)(h:lB n)(hm:1<=m):Ω m 301 [pI n] []=some (pS (xU n),[]):=by
 replace hm:=fuel hm;obtain⟨m,rfl,hm⟩:=hm;rw[Y0];have h1:aL (-9223372036854775808) n=true:=by rw[bj];exact lν h.1
 have h2:aL n 9223372036854775807=true:=by rw[bj];exact lν h.2
 simp only[ka,h1,h2,Bool.and_self,cond_true]
def H0 {m:Nat}(l:List Va)(hl:l.length<1501)(i2:Int)(s4 s5:LN)(K:_->R):∀(e q i:Nat),i+e=l.length->e<q->itL (fQ (dC lay0.tab m) m K) q (l.map Va.e,(l.length:Int),(i:Int),s4,s5,i,(l.take i).map fun v=>Da.int .i64 v.n)=K (l.map Va.e,(l.length:Int),(l.length:Int),false,s4,s5,l.length,l.map fun v=>Da.int .i64 v.n)
 |0,q+1,i,hi,_=>by
  obtain rfl:i=l.length:=by omega
  rw[bb];simp only[fQ,eT,bo,List.take_length]
 |e+1,q+1,i,hi,hq=>by
  have hil:i<l.length:=by omega
  rw[bb];have hb:c8 (((l.take i).map fun v=>Da.int .i64 v.n).length+[Da.int .i64 l[i].r.N].length) 8=true:=Od (by rw[lβ,mγ];simp;omega);have hn:Nat.beq i ((l.take i).map fun v=>Da.int .i64 v.n).length=true:=by rw[lβ,mγ,Nat.min_eq_left (by omega),Nat.beq_refl]
  have ht:(l.take i).map (fun v=>Da.int .i64 v.n)++[Da.int .i64 l[i].r.N]=(l.take (i+1)).map fun v=>Da.int .i64 v.n:=by
   rw[List.take_add_one,lε hil,Option.toList_some,List.map_append];rfl
  simp only[fQ,hZ (show((i:Int)<(l.length:Int)) by omega),be,aU,bf,bw hil,bG,Va.e,FT,hb,hn,wS (show i<eH by unfold eH;omega)];rw[ht,show((l.take (i+1)).map fun v=>Da.int .i64 v.n).length=i+1 by rw[lβ,mγ];omega];exact H0 l hl i2 s4 s5 K e q (i+1) (by omega) (by omega)
def H1 {m:Nat}(l:List Va)(hl:l.length<1501)(i2:Int)(s4 s5:LN)(K:_->R):∀(e q i:Nat),i+e=l.length->e<q->itL (fR (dC lay0.tab m) m K) q (l.map Va.e,(l.length:Int),(i:Int),s4,s5,i,(l.take i).map fun v=>Da.str v.s)=K (l.map Va.e,(l.length:Int),(l.length:Int),false,s4,s5,l.length,l.map fun v=>Da.str v.s)
 |0,q+1,i,hi,_=>by
  obtain rfl:i=l.length:=by omega
  rw[bb];simp only[fR,eT,bo,List.take_length]
 |e+1,q+1,i,hi,hq=>by
  have hil:i<l.length:=by omega
  rw[bb];have hb:c8 (((l.take i).map fun v=>Da.str v.s).length+[Da.str l[i].r.S].length) 16=true:=by
   unfold c8;rw[lγ,Nat.ble_eq,Nat.ble_eq,lβ,mγ];simp only[List.length_cons,List.length_nil];omega
  have hn:Nat.beq i ((l.take i).map fun v=>Da.str v.s).length=true:=by rw[lβ,mγ,Nat.min_eq_left (by omega),Nat.beq_refl]
  have ht:(l.take i).map (fun v=>Da.str v.s)++[Da.str l[i].r.S]=(l.take (i+1)).map fun v=>Da.str v.s:=by
   rw[List.take_add_one,lε hil,Option.toList_some,List.map_append];rfl
  simp only[fR,hZ (show((i:Int)<(l.length:Int)) by omega),be,aU,bf,bw hil,bG,Va.e,FT,hb,hn,wS (show i<eH by unfold eH;omega)];rw[ht,show((l.take (i+1)).map fun v=>Da.str v.s).length=i+1 by rw[lβ,mγ];omega];exact H1 l hl i2 s4 s5 K e q (i+1) (by omega) (by omega)
def VS (v:Va)(hv:Wk v)(hm:1<=m)(x y:Nat)(hx:x=v.I.length)(hy:y=v.L.length):Ω m 300 [.agg [pI v.k,pI v.n,pS v.s,.arr 0 0 x 1,.arr 1 0 y 1]] [.arr (v.I.map iE),.arr (v.L.map .str)]=some (pI (Ε v:Nat),[.arr (v.I.map iE),.arr (v.L.map .str)]):=by
 replace hm:=fuel hm;obtain⟨m,rfl,hm⟩:=hm;apply Nx m v.k v.n v.s x y;subst hx hy;have h1:=hv.s;have h2:=hv.I;have h3:=hv.L;unfold Br Ε;rw[fO (n:=(v.s.length:Int)+(v.I.length:Int)) (by omega) (by omega),fO (by omega) (by omega)];simp only[Int.natCast_add]
def ES (o:LN)(l:List Va){r:Va×Int}(hw:∀v∈l,Wk v)(hl:l.length<=100)(h:jh o l=some r)(hm:1510<=m):Ω m 233 [pS o,pL 5 (l.map Va.e)] []=sq r:=by
 replace hm:=fuel hm;obtain⟨m,rfl,hm⟩:=hm;apply Fp m o (l.map Va.e);unfold tn;unfold jh at h;have z:∀y:Va×Int,some y=some r->sq y=sq r:=fun y e=>by rw[Option.some.inj e]
 refine fT sq _ _ _ _ _ h (fun h=>?_) fun h=>?_
 ·rw[lβ];refine(H0 l (by omega) 0 _ _ _ l.length m 0 (by omega) (by omega)).trans ?_;rw[<-Option.some.inj h];show some (_,_)=sq _;unfold sq Va.e Va.c;simp only[List.drop_zero,List.map_map];rw[lκ (by rw[lβ];omega)];rfl
 refine fT sq _ _ _ _ _ h (fun h=>?_) fun h=>?_
 ·rw[lβ];refine(H1 l (by omega) 0 _ _ _ l.length m 0 (by omega) (by omega)).trans ?_;rw[<-Option.some.inj h];show some (_,_)=sq _;unfold sq Va.e Va.c;simp only[List.drop_zero,List.map_map];rw[lκ (by rw[lβ];omega)];rfl
 match l,h with
 |a::t,h=>
  have wa:=hw a lυ;have h1:=wa.s;have h2:=wa.I;have h3:=wa.L;have ec:=gQ (m:=m) a ⟨by omega,by omega⟩ (by omega)
  have es:=VS (m:=m) a wa (by omega) _ _ rfl rfl;have ei:=fun n=>aa (nC (m:=m) n (by omega))
  simp only[Va.e,Va.cl,Va.ch]at ec ei;rw[show bU (List.map Va.e (a::t)) 0=some (Da.agg a.c)from rfl,bG,FT,show a.r.e=Da.agg a.c from rfl,aa ec];simp only[show ∀(x:List D) (K:List D->R),ne (.agg x) K=K x from fun _ _=>rfl,aR,aY,bW,iU,eC,aB,eE,aa es,ei,FT];refine fT sq _ _ _ _ _ h (z _) fun h=>?_
  refine fT sq _ _ _ _ _ h (fun h=>?_) fun h=>?_
  ·rw[aa (VP (m:=m) a.n wa.n (by omega))];exact z _ h
  match t,h with
  |b::t2,h=>
   have wb:=hw b (mα _ lυ);refine fT sq _ _ _ _ _ h (fun h=>?_) fun h=>?_
   ·refine fT sq _ _ _ _ _ h (z _) fun h=>?_
    refine fT sq _ _ _ _ _ h (fun h=>?_) (fun h=>?_)
    ·show iL (Nat.beq a.I.length (a.I.map iE).length) (iL (c8 ((a.I.map iE).length+1) 8) _ _) _=_;rw[lβ,Nat.beq_refl,Od (by omega),be,be];rw[<-z _ h];unfold sq Va.e Va.c;simp only[List.drop_zero,List.take_length,List.map_append,List.map_cons,List.map_nil];rw[lκ (by rw[lβ];omega)];rfl
    ·show iL (Nat.beq a.L.length (a.L.map Da.str).length) (iL (c8 ((a.L.map Da.str).length+1) 16) _ _) _=_;have:c8 (a.L.length+1) 16=true:=by unfold c8;rw[lγ,Nat.ble_eq,Nat.ble_eq];omega
     rw[lβ,Nat.beq_refl,this,be,be];rw[<-z _ h];unfold sq Va.e Va.c;simp only[List.drop_zero,List.take_length,List.map_append,List.map_cons,List.map_nil];rw[lκ (by rw[lβ];omega)];try rfl
   show iL (aG b.n 0) _ (iL (aL (Ε a:Nat) b.n) _ (iL (cg o [97,116]) _ _))=_;cases hn:aG b.n 0 with
   |true=>rw[hn,cond_true]at h;exact z _ h
   |false=>
   rw[hn,cond_false]at h;rw[bo];rw[bX,lζ]at hn;have h0:aL 0 b.n=true:=by rw[bj];exact lν (by omega)
   refine fT sq _ _ _ _ _ h (z _) fun h=>?_
   have eI:∀x,a.I[b.n.toNat]?=some x->aG b.n (a.I.length:Nat)=true/\(a.I.map iE)[0+b.n.toNat]?=some (iE x):=fun x e=>by
    obtain⟨g1,g2⟩:=List.getElem?_eq_some_iff.1 e;refine⟨by rw[bX];exact lν (by omega),?_⟩
    rw[Nat.zero_add,lξ,e];rfl
   have eL:∀x,a.L[b.n.toNat]?=some x->aG b.n (a.L.length:Nat)=true/\(a.L.map Da.str)[0+b.n.toNat]?=some (.str x):=fun x e=>by
    obtain⟨g1,g2⟩:=List.getElem?_eq_some_iff.1 e;refine⟨by rw[bX];exact lν (by omega),?_⟩
    rw[Nat.zero_add,lξ,e];rfl
   cases ha:cg o [97,116]with
   |true=>
    rw[ha,cond_true]at h;rw[be];refine fT sq _ _ _ _ _ h (fun h=>?_) fun h=>?_
    ·rw[lπ]at h;obtain⟨x,hx,rfl⟩:=h;obtain⟨g1,g2⟩:=eI x hx;show iL (aL 0 b.n) (iL (aG b.n (a.I.length:Nat)) (cL ((a.I.map iE)[0+b.n.toNat]?) _) _) _=_;rw[h0,g1,g2];rfl
    ·rw[lπ]at h;obtain⟨x,hx,rfl⟩:=h;obtain⟨g1,g2⟩:=eL x hx;show iL (aL 0 b.n) (iL (aG b.n (a.L.length:Nat)) (cL ((a.L.map Da.str)[0+b.n.toNat]?) _) _) _=_;rw[h0,g1,g2];rfl
   |false=>
    rw[ha,cond_false]at h;rw[bo,bo];match t2,h with
    |c::_,h=>
     refine fT sq _ _ _ _ _ h (fun h=>?_) fun h=>?_
     ·rw[lπ]at h;obtain⟨x,hx,rfl⟩:=h;obtain⟨g1,g2⟩:=eI x hx;show iL (aL 0 b.n) (iL (aG b.n (a.I.length:Nat)) (cL ((a.I.map iE)[0+b.n.toNat]?) _) _) _=_;rw[h0,g1,g2];show some (D.tup [.p (.agg [_,_,_,.slice 1 (List.take a.I.length (List.drop 0 ((a.I.map iE).set (0+b.n.toNat) (iE c.n)))),.slice 1 (List.take a.L.length (List.drop 0 (a.L.map Da.str)))]),_],[])=_;unfold sq Va.e Va.c;rw[List.drop_zero,List.drop_zero,Nat.zero_add,lκ (by rw[List.length_set,lβ];omega),lκ (by rw[lβ];omega),List.map_set];try rfl
     ·rw[lπ]at h;obtain⟨x,hx,rfl⟩:=h;obtain⟨g1,g2⟩:=eL x hx;show iL (aL 0 b.n) (iL (aG b.n (a.L.length:Nat)) (cL ((a.L.map Da.str)[0+b.n.toNat]?) _) _) _=_;rw[h0,g1,g2];show some (D.tup [.p (.agg [_,_,_,.slice 1 (List.take a.I.length (List.drop 0 (a.I.map iE))),.slice 1 (List.take a.L.length (List.drop 0 ((a.L.map Da.str).set (0+b.n.toNat) (.str c.s))))]),_],[])=_;unfold sq Va.e Va.c;rw[List.drop_zero,List.drop_zero,Nat.zero_add,lκ (l:=a.I.map iE) (by rw[lβ];omega),lκ (by rw[List.length_set,lβ];omega),List.map_set];try rfl
def Fv (k:Int)(v:Va):Prop:=jj v k=true/\lB v.n/\∀x∈v.I,lB x
def QW (v:Va):ra v=true↔(0<=v.k/\v.k<=5)/\(v.n=0\/v.k=1\/(v.k=2/\v.n=1))/\(v.s=[]\/v.k=3)/\(v.I=[]\/v.k=4)/\(v.L=[]\/v.k=5)/\v.s.length<=64/\v.I.length<=16/\v.L.length<=16/\∀t∈v.L,t.length<=64:=by
 have e0:∀{α:Type} (l:List α),(0<(l.length:Int)->False)↔l=[]:=fun l=>by
  cases l with
  |nil=>simp
  |cons a r=>simp
 unfold ra xz xA HZ t8 j3;simp only[lγ,Bool.not_eq_true',qε,Bool.and_eq_false_iff,Bool.not_eq_false',bX,cE,ma,lζ,lδ,mε,Bool.not_eq_eq_eq_not,Bool.not_true,Bool.not_false];constructor
 ·rintro⟨⟨h1,h2⟩,h3,⟨h4,h5,h6⟩,⟨h7,h8,h9⟩,h10⟩
  refine⟨by omega,?_,?_,?_,?_,by omega,by omega,by omega,fun t ht=>by have:=h10 t ht;omega⟩
  ·rcases h3 with h|h|h
   ·exact .inl h
   ·exact .inr (.inl h)
   ·exact .inr (.inr h)
  ·exact h4
  ·rcases h5 with h|h
   ·exact .inl ((e0 v.I).1 h)
   ·exact .inr h
  ·rcases h6 with h|h
   ·exact .inl ((e0 v.L).1 h)
   ·exact .inr h
 ·rintro⟨h1,h3,h4,h5,h6,h7,h8,h9,h10⟩
  refine⟨⟨by omega,by omega⟩,?_,⟨h4,?_,?_⟩,⟨by omega,by omega,by omega⟩,fun t ht=>by have:=h10 t ht;omega⟩
  ·rcases h3 with h|h|h
   ·exact .inl h
   ·exact .inr (.inl h)
   ·exact .inr (.inr h)
  ·rcases h5 with h|h
   ·exact .inl ((e0 v.I).2 h)
   ·exact .inr h
  ·rcases h6 with h|h
   ·exact .inl ((e0 v.L).2 h)
   ·exact .inr h
def k6 (k:Int)(v:Va):Fv k v↔(v.k=k/\(0<=k/\k<=5)/\(v.n=0\/k=1\/(k=2/\v.n=1))/\(v.s=[]\/k=3)/\(v.I=[]\/k=4)/\(v.L=[]\/k=5)/\v.s.length<=64/\v.I.length<=16/\v.L.length<=16/\∀t∈v.L,t.length<=64)/\lB v.n/\∀x∈v.I,lB x:=by
 unfold Fv jj;rw[lγ,QW,eqI_t];constructor
 ·rintro⟨⟨rfl,h⟩,h2⟩;exact⟨⟨rfl,h⟩,h2⟩
 ·rintro⟨⟨rfl,h⟩,h2⟩;exact⟨⟨rfl,h⟩,h2⟩
def xQ {k:Int}{v:Va}(h:Fv k v):Wk v:=by
 obtain⟨⟨h0,h1,h2,h3,h4,h5,h6,h7,h8,h9⟩,h10,h11⟩:=(k6 k v).1 h;exact⟨h10,h11,h6,h7,h8,h9,fun e=>h5.resolve_right (by omega),fun e=>h4.resolve_right (by omega),fun e=>h3.resolve_right (by omega)⟩
def VN:Wk v0:=⟨EK,(fun x hx=>by cases hx),by simp[v0],by simp[v0],by simp[v0],(fun x hx=>by cases hx),fun _=>rfl,fun _=>rfl,fun _=>rfl⟩
def fv1 {v:Va}:Fv 1 v↔∃n,v=⟨1,n,[],[],[]⟩/\lB n:=by
 rw[k6];constructor
 ·rintro⟨⟨h0,h1,h2,h3,h4,h5,h6,h7,h8,h9⟩,h10,h11⟩
  obtain⟨k,n,s,I,L⟩:=v;simp only at*
  subst h0;exact⟨n,by rw[h3.resolve_right (by omega),h4.resolve_right (by omega),h5.resolve_right (by omega)],h10⟩
 ·rintro⟨n,rfl,h⟩
  exact⟨⟨rfl,by omega,.inr (.inl rfl),.inl rfl,.inl rfl,.inl rfl,by simp,by simp,by simp,by simp⟩,h,by simp⟩
def fv2 {v:Va}:Fv 2 v↔∃n,v=⟨2,n,[],[],[]⟩/\(n=0\/n=1):=by
 rw[k6];constructor
 ·rintro⟨⟨h0,h1,h2,h3,h4,h5,h6,h7,h8,h9⟩,h10,h11⟩
  obtain⟨k,n,s,I,L⟩:=v;simp only at*
  subst h0;exact⟨n,by rw[h3.resolve_right (by omega),h4.resolve_right (by omega),h5.resolve_right (by omega)],by omega⟩
 ·rintro⟨n,rfl,h⟩
  refine⟨⟨rfl,by omega,?_,.inl rfl,.inl rfl,.inl rfl,by simp,by simp,by simp,by simp⟩,by unfold lB;simp only;omega,by simp⟩
  rcases h with h|h
  ·exact .inl h
  ·exact .inr (.inr ⟨rfl,h⟩)
def fv3 {v:Va}:Fv 3 v↔∃s,v=⟨3,0,s,[],[]⟩/\s.length<=64:=by
 rw[k6];constructor
 ·rintro⟨⟨h0,h1,h2,h3,h4,h5,h6,h7,h8,h9⟩,h10,h11⟩
  obtain⟨k,n,s,I,L⟩:=v;simp only at*
  subst h0;exact⟨s,by rw[show n=0 by omega,h4.resolve_right (by omega),h5.resolve_right (by omega)],h6⟩
 ·rintro⟨s,rfl,h⟩
  exact⟨⟨rfl,by omega,.inl rfl,.inr rfl,.inl rfl,.inl rfl,h,by simp,by simp,by simp⟩,EK,by simp⟩
def fv4 {v:Va}:Fv 4 v↔∃I,v=⟨4,0,[],I,[]⟩/\I.length<=16/\∀x∈I,lB x:=by
 rw[k6];constructor
 ·rintro⟨⟨h0,h1,h2,h3,h4,h5,h6,h7,h8,h9⟩,h10,h11⟩
  obtain⟨k,n,s,I,L⟩:=v;simp only at*
  subst h0;exact⟨I,by rw[show n=0 by omega,h3.resolve_right (by omega),h5.resolve_right (by omega)],h7,h11⟩
 ·rintro⟨I,rfl,h,h'⟩
  exact⟨⟨rfl,by omega,.inl rfl,.inl rfl,.inr rfl,.inl rfl,by simp,h,by simp,by simp⟩,EK,h'⟩
def fv5 {v:Va}:Fv 5 v↔∃L,v=⟨5,0,[],[],L⟩/\L.length<=16/\∀t∈L,t.length<=64:=by
 rw[k6];constructor
 ·rintro⟨⟨h0,h1,h2,h3,h4,h5,h6,h7,h8,h9⟩,h10,h11⟩
  obtain⟨k,n,s,I,L⟩:=v;simp only at*
  subst h0;exact⟨L,by rw[show n=0 by omega,h3.resolve_right (by omega),h4.resolve_right (by omega)],h8,h9⟩
 ·rintro⟨L,rfl,h,h'⟩
  exact⟨⟨rfl,by omega,.inl rfl,.inl rfl,.inl rfl,.inr rfl,by simp,by simp,h,h'⟩,EK,by simp⟩
def Io {n:Int}(h:lB n):Fv 1 (XA n):=fv1.2 ⟨n,rfl,h⟩
def Vr (b:Bool):Fv 2 (Sh b):=fv2.2 ⟨_,rfl,by cases b<;>simp⟩
def VY (k:Int)(r:Va×Int):Prop:=r.2=0->Fv k r.1
def Yh {v:Va}:VY 1 (QS [45] v):=fun _=>Io (U6 [45] v.n EK)
def Yi {v:Va}:VY 2 (QS [33] v):=fun _=>Vr _
variable {a:Va}
def Ci {b:Va}(o:LN)(ho:o=[43]\/o=[45]\/o=[42]\/o=[47]\/o=[37])(ha:Fv 1 a):VY 1 (Q2 o a b):=fun _=>by
 obtain⟨n,rfl,hn⟩:=fv1.1 ha;rcases ho with rfl|rfl|rfl|rfl|rfl<;>exact Io (U6 _ _ hn)
def Wu {b:Va}(ha:Fv 3 a)(hb:Fv 3 b):VY 3 (Q2 [43] a b):=by
 obtain⟨s,rfl,hs⟩:=fv3.1 ha;obtain⟨t,rfl,ht⟩:=fv3.1 hb;have e:Q2 [43] ⟨3,0,s,[],[]⟩ ⟨3,0,t,[],[]⟩=bif aG 64 (s.length+t.length:Nat)then(v0,5)else(⟨3,0,s++t,[],[]⟩,0):=rfl
 rw[e];cases h:aG 64 (s.length+t.length:Nat)with
 |true=>intro h;cases h
 |false=>
  intro _;rw[bX,lζ]at h;exact fv3.2 ⟨_,rfl,by rw[mη];omega⟩
def jJ {b:Va}(o:LN)(ho:o=[61,61]\/o=[33,61]\/o=[60]\/o=[60,61]\/o=[62]\/o=[62,61]):VY 2 (Q2 o a b):=fun _=>by
 rcases ho with rfl|rfl|rfl|rfl|rfl|rfl<;>exact Vr _
def Q1 (k:Int)(o:Option (Va×Int)):Prop:=∃r,o=some r/\VY k r
def FH {k:Int}(ha:Fv k a):Q1 1 (jh [108,101,110] [a]):=by
 refine⟨_,rfl,fun _=>Io ?_⟩
 have:=xQ ha;have h1:=this.s;have h2:=this.I;have h3:=this.L;unfold Ε lB;omega
def PU {n:Int}(h:lB n):(xU n).length<=64:=by
 unfold xU;rw[lβ];have:=Lib.itoa_length_le n h.1 h.2;omega
def Wy (ha:Fv 1 a):Q1 3 (jh [115,116,114] [a]):=by
 obtain⟨n,rfl,hn⟩:=fv1.1 ha;exact⟨_,rfl,fun _=>fv3.2 ⟨_,rfl,PU hn⟩⟩
def Wv {b:Va}(ha:Fv 4 a)(hb:Fv 1 b):Q1 1 (jh [97,116] [a,b]):=by
 obtain⟨I,rfl,hl,hI⟩:=fv4.1 ha;obtain⟨n,rfl,hn⟩:=fv1.1 hb;have e:jh [97,116] [⟨4,0,[],I,[]⟩,⟨1,n,[],[],[]⟩]=bif aG n 0 then some (v0,20)else bif aL ((Ε ⟨4,0,[],I,[]⟩:Nat):Int) n then some (v0,20)else I[n.toNat]?.map (fun x=>(XA x,0)):=rfl
 rw[e,show Ε ⟨4,0,[],I,[]⟩=I.length by simp[Ε]];cases h1:aG n 0 with
 |true=>exact⟨_,rfl,fun h=>by cases h⟩
 |false=>
 cases h2:aL (I.length:Int) n with
 |true=>exact⟨_,rfl,fun h=>by cases h⟩
 |false=>
  rw[bX,lζ]at h1;rw[bj,lζ]at h2;rw[cond_false,cond_false,lε (by omega)];exact⟨_,rfl,fun _=>Io (hI _ (lρ _))⟩
def Ww {b:Va}(ha:Fv 5 a)(hb:Fv 1 b):Q1 3 (jh [97,116] [a,b]):=by
 obtain⟨L,rfl,hl,hL⟩:=fv5.1 ha;obtain⟨n,rfl,hn⟩:=fv1.1 hb;have e:jh [97,116] [⟨5,0,[],[],L⟩,⟨1,n,[],[],[]⟩]=bif aG n 0 then some (v0,20)else bif aL ((Ε ⟨5,0,[],[],L⟩:Nat):Int) n then some (v0,20)else L[n.toNat]?.map (fun t=>(⟨3,0,t,[],[]⟩,0)):=rfl
 rw[e,show Ε ⟨5,0,[],[],L⟩=L.length by simp[Ε]];cases h1:aG n 0 with
 |true=>exact⟨_,rfl,fun h=>by cases h⟩
 |false=>
 cases h2:aL (L.length:Int) n with
 |true=>exact⟨_,rfl,fun h=>by cases h⟩
 |false=>
  rw[bX,lζ]at h1;rw[bj,lζ]at h2;rw[cond_false,cond_false,lε (by omega)];exact⟨_,rfl,fun _=>fv3.2 ⟨_,rfl,hL _ (lρ _)⟩⟩
def Sk {b:Va}(ha:Fv 4 a)(hb:Fv 1 b):Q1 4 (jh [97,112,112,101,110,100] [a,b]):=by
 obtain⟨I,rfl,hl,hI⟩:=fv4.1 ha;obtain⟨n,rfl,hn⟩:=fv1.1 hb;have e:jh [97,112,112,101,110,100] [⟨4,0,[],I,[]⟩,⟨1,n,[],[],[]⟩]=bif az ((Ε ⟨4,0,[],I,[]⟩:Nat):Int) 16 then some (v0,5)else some (⟨4,0,[],I++[n],[]⟩,0):=rfl
 rw[e,show Ε ⟨4,0,[],I,[]⟩=I.length by simp[Ε]];cases h1:az (I.length:Int) 16 with
 |true=>exact⟨_,rfl,fun h=>by cases h⟩
 |false=>
  rw[cE,lζ]at h1;refine⟨_,rfl,fun _=>fv4.2 ⟨_,rfl,by rw[mη];simp only[List.length_singleton];omega,fun x hx=>?_⟩⟩
  rcases qδ.1 hx with hx|hx
  ·exact hI x hx
  ·rw[List.mem_singleton.1 hx];exact hn
def Sl {b:Va}(ha:Fv 5 a)(hb:Fv 3 b):Q1 5 (jh [97,112,112,101,110,100] [a,b]):=by
 obtain⟨L,rfl,hl,hL⟩:=fv5.1 ha;obtain⟨s,rfl,hs⟩:=fv3.1 hb;have e:jh [97,112,112,101,110,100] [⟨5,0,[],[],L⟩,⟨3,0,s,[],[]⟩]=bif az ((Ε ⟨5,0,[],[],L⟩:Nat):Int) 16 then some (v0,5)else some (⟨5,0,[],[],L++[s]⟩,0):=rfl
 rw[e,show Ε ⟨5,0,[],[],L⟩=L.length by simp[Ε]];cases h1:az (L.length:Int) 16 with
 |true=>exact⟨_,rfl,fun h=>by cases h⟩
 |false=>
  rw[cE,lζ]at h1;refine⟨_,rfl,fun _=>fv5.2 ⟨_,rfl,by rw[mη];simp only[List.length_singleton];omega,fun x hx=>?_⟩⟩
  rcases qδ.1 hx with hx|hx
  ·exact hL x hx
  ·rw[List.mem_singleton.1 hx];exact hs
variable {y:α}
def yb {P:α->Prop}{l:List α}{i:Nat}(h:∀x∈l,P x)(hy:P y):∀x∈l.set i y,P x:=fun x hx=>by
 rcases List.mem_or_eq_of_mem_set hx with hx|rfl
 ·exact h x hx
 ·exact hy
def Sm {b d:Va}(ha:Fv 4 a)(hb:Fv 1 b)(hd:Fv 1 d):Q1 4 (jh [115,101,116] [a,b,d]):=by
 obtain⟨I,rfl,hl,hI⟩:=fv4.1 ha;obtain⟨n,rfl,hn⟩:=fv1.1 hb;obtain⟨x,rfl,hx⟩:=fv1.1 hd;have e:jh [115,101,116] [⟨4,0,[],I,[]⟩,⟨1,n,[],[],[]⟩,⟨1,x,[],[],[]⟩]=bif aG n 0 then some (v0,20)else bif aL ((Ε ⟨4,0,[],I,[]⟩:Nat):Int) n then some (v0,20)else I[n.toNat]?.map (fun _=>(⟨4,0,[],I.set n.toNat x,[]⟩,0)):=rfl
 rw[e,show Ε ⟨4,0,[],I,[]⟩=I.length by simp[Ε]];cases h1:aG n 0 with
 |true=>exact⟨_,rfl,fun h=>by cases h⟩
 |false=>
 cases h2:aL (I.length:Int) n with
 |true=>exact⟨_,rfl,fun h=>by cases h⟩
 |false=>
  rw[bX,lζ]at h1;rw[bj,lζ]at h2;rw[cond_false,cond_false,lε (by omega)];exact⟨_,rfl,fun _=>fv4.2 ⟨_,rfl,by rw[List.length_set];exact hl,yb hI hx⟩⟩
def Sn {b d:Va}(ha:Fv 5 a)(hb:Fv 1 b)(hd:Fv 3 d):Q1 5 (jh [115,101,116] [a,b,d]):=by
 obtain⟨L,rfl,hl,hL⟩:=fv5.1 ha;obtain⟨n,rfl,hn⟩:=fv1.1 hb;obtain⟨x,rfl,hx⟩:=fv3.1 hd;have e:jh [115,101,116] [⟨5,0,[],[],L⟩,⟨1,n,[],[],[]⟩,⟨3,0,x,[],[]⟩]=bif aG n 0 then some (v0,20)else bif aL ((Ε ⟨5,0,[],[],L⟩:Nat):Int) n then some (v0,20)else L[n.toNat]?.map (fun _=>(⟨5,0,[],[],L.set n.toNat x⟩,0)):=rfl
 rw[e,show Ε ⟨5,0,[],[],L⟩=L.length by simp[Ε]];cases h1:aG n 0 with
 |true=>exact⟨_,rfl,fun h=>by cases h⟩
 |false=>
 cases h2:aL (L.length:Int) n with
 |true=>exact⟨_,rfl,fun h=>by cases h⟩
 |false=>
  rw[bX,lζ]at h1;rw[bj,lζ]at h2;rw[cond_false,cond_false,lε (by omega)];exact⟨_,rfl,fun _=>fv5.2 ⟨_,rfl,by rw[List.length_set];exact hl,yb hL hx⟩⟩
def So {l:List Va}(hl:l.length<=16)(h:∀v∈l,Fv 1 v):Q1 4 (jh [105,110,116,115] l):=by
 refine⟨_,rfl,fun _=>fv4.2 ⟨_,rfl,by rw[lβ];exact hl,fun x hx=>?_⟩⟩
 obtain⟨v,hv,rfl⟩:=List.mem_map.1 hx;exact(h v hv).2.1
def FI {l:List Va}(hl:l.length<=16)(h:∀v∈l,Fv 3 v):Q1 5 (jh [115,116,114,105,110,103,115] l):=by
 refine⟨_,rfl,fun _=>fv5.2 ⟨_,rfl,by rw[lβ];exact hl,fun x hx=>?_⟩⟩
 obtain⟨v,hv,rfl⟩:=List.mem_map.1 hx;exact(xQ (h v hv)).s
section
structure Mc where
 (ty me pc:Int)
 ls:List Va
def Mc.r (m:Mc):bd:=⟨m.ty,m.me,m.pc,m.ls.map Va.e⟩
def Mc.e (m:Mc):Da:=m.r.e
def wM (c:List Ct)(a:Int):Option Ct:=bif az (Hi c) 0 then dj c a else none
def t0:Ct:=⟨[],[],[]⟩
def m0:Cm:=⟨[],[],0,[],[]⟩
def nJ {l:List α}{x:Int}(h:dj l x=some y):y∈l:=by
 unfold dj at h;by_cases h0:0<=x
 ·rw[if_pos h0]at h;exact mδ h
 ·rw[if_neg h0]at h;cases h
def ZJ {c:List Ct}{a:Int}{t:Ct}(h:wM c a=some t):Hi c=0/\dj c a=some t/\t∈c:=by
 unfold wM at h;cases hb:az (Hi c) 0 with
 |false=>rw[hb]at h;cases h
 |true=>rw[hb,cond_true]at h;exact⟨eqI_t.1 hb,h,nJ h⟩
def ĵ (o:Option Ct):R:=some (.tup [.p (o.getD t0).e,pB o.isSome],[])
def Ĵ (o:Option Cm):R:=some (.tup [.p (o.getD m0).e,pB o.isSome],[])
section
variable {m:Nat} {c:List Ct} (hc:AJ c)
include hc
def wT (a:Int)(hm:400002<=m):Ω m 51 [.p (de c).e,pI a] []=ĵ (wM c a):=by
 replace hm:=fuel hm;obtain⟨m,rfl,hm⟩:=hm;apply JT m (de c) a;unfold xj wM;refine(aa (wO hc (m:=m) (by omega)) _).trans ?_;simp only[aY,bW,aB];cases hv:az (Hi c) 0 with
 |false=>rfl
 |true=>
  rw[Bool.not_true,bo,cond_true,show(de c).Types=c.map Ct.e from rfl,lβ];cases h1:aG a 0 with
  |true=>rw[bX,lδ]at h1;rw[jI (.inl h1)];rfl
  |false=>
  cases h2:aL (c.length:Int) a with
  |true=>rw[bj,lδ]at h2;rw[jI (.inr h2)];rfl
  |false=>
  obtain⟨t,ht,htm⟩:=Cf h1 h2;rw[bo,bo,aU,bf,ht,bG,Cs];rfl
def la (c:List Ct)(a b:Int):Option Cm:=(wM c a).bind fun t=>dj t.methods b
def rg (x:Mc)(hm:400003<=m):Ω m 45 [.p (de c).e,.p x.e] []=Ĵ (la c x.ty x.me):=by
 replace hm:=fuel hm;obtain⟨m,rfl,hm⟩:=hm;apply BW m (de c) x.r;unfold ri la;refine(aa (wT hc x.ty (m:=m) (by omega)) _).trans ?_;simp only[c3,aR,aY,Cs,aJ,aB];cases ht:wM c x.ty with
 |none=>rfl
 |some t=>
  rw[Option.bind_some];show iL true (iL (aG x.me 0) _ (iL (aL ((t.methods.map Cm.e).length:Int) x.me) _ (cL (bU (t.methods.map Cm.e) x.me) _))) _=_;rw[be,lβ];cases h1:aG x.me 0 with
  |true=>rw[bX,lδ]at h1;rw[jI (.inl h1)];rfl
  |false=>
  cases h2:aL (t.methods.length:Int) x.me with
  |true=>rw[bj,lδ]at h2;rw[jI (.inr h2)];rfl
  |false=>
  obtain⟨q,hq,-⟩:=Cf h1 h2;rw[bo,bo,aU,bf,hq,bG,FQ];rfl
omit hc
def Rn (v:Va)(f:Fe)(hm:1505<=m):Ω m 53 [.p v.e,.p f.e] []=dX (jj v f.kind):=by
 replace hm:=fuel hm;obtain⟨m,rfl,hm⟩:=hm;apply RI m v.r f.r;unfold Hw;refine(aa (yD v f.kind (m:=m) hm) _).trans ?_;simp only[aY,aJ,aB]
def Rm (l:List Va)(fs:List Fe)(hl:l.length<1501)(hm:1507<=m):Ω m 52 [pL 5 (l.map Va.e),pL 7 (fs.map Fe.e),.p (.fn 53 [])] []=dX (uw l (fs.map Fe.kind)):=by
 replace hm:=fuel hm;obtain⟨m,rfl,hm⟩:=hm;apply RH m (l.map Va.e) (fs.map Fe.e);unfold Hv;rw[lβ,lβ,cE,pp];by_cases h:(l.length:Int)=(fs.length:Int)
 ·have h':l.length=fs.length:=by omega
  rw[if_pos h,CM l (fs.map Fe.kind) (by rw[lβ];exact h')];have hz:(l.zip fs).length=l.length:=by rw[qα];omega
  refine(bA (l.zip fs) (fun q i=>itL (jX _ m _ _) q (fs.map Fe.e,l.map Va.e,(l.length:Int),i)) (fun p=>!jj p.1 p.2.kind) (fun _=>some (pB false,[])) (some (pB true,[])) (fun q i hi=>?_) (fun q=>?_) (by omega)).trans ?_
  ·rw[hz]at hi;rw[bb];simp only[jX,hZ (show((i:Int)<(l.length:Int)) by omega),be,aU,bf,bw hi,bw (show i<fs.length by omega),bG,Va.e,FT,YN,wS (show i<eH by unfold eH;omega),List.getElem_zip];refine(aa (Rn l[i] fs[i] (m:=m) (by omega)) _).trans ?_;simp only[aY,aJ,aB];cases jj l[i] fs[i].kind<;>rfl
  ·rw[bb,hz];simp only[jX,eT,bo]
  ·rw[show((l.zip (fs.map Fe.kind)).all fun p=>jj p.1 p.2)=(l.zip fs).all fun p=>jj p.1 p.2.kind by rw[List.zip_map_right,List.all_map];rfl,gL];cases(l.zip fs).findIdx? fun p=>!jj p.1 p.2.kind<;>rfl
 ·rw[if_neg h,CL l _ (by rw[lβ];omega)]
def QV (c:List Ct)(a:Int)(l:List Va):Bool:=match wM c a with|none=>false|some t=>uw l (t.fields.map Fe.kind)
include hc
def VV (a:Int)(l:List Va)(hl:l.length<1501)(hm:400003<=m):Ω m 19 [.p (de c).e,pI a,pL 5 (l.map Va.e)] []=dX (QV c a l):=by
 replace hm:=fuel hm;obtain⟨m,rfl,hm⟩:=hm;apply Wb m (de c) a (l.map Va.e);unfold MQ QV;refine(aa (wT hc a (m:=m) (by omega)) _).trans ?_;simp only[c3,aR,aY,Cs,aJ,aB];cases ht:wM c a with
 |none=>rfl
 |some t=>
  rw[show(some t).isSome=true from rfl,be];refine(aa (Rm l t.fields hl (m:=m) (by omega)) _).trans ?_;simp only[aY,aJ];exact bM _ _
omit hc
include hc
omit hc
def Qb {c:List Ct}{a b:Int}{q:Cm}(hc:AJ c)(h:la c a b=some q):∃t s,Hi c=0/\dj c a=some t/\t∈c/\dj t.methods b=some q/\q∈t.methods/\HI c t q/\jG c t q=some s/\UB c a b=s/\SJ c a b=some (t,q)/\yO q s:=by
 unfold la at h;cases ht:wM c a with
 |none=>rw[ht]at h;cases h
 |some t=>
  rw[ht,Option.bind_some]at h;obtain⟨h1,h2,h3⟩:=ZJ ht;have hv:=Č h1;have hm:=nJ h;have hf:=zU hc h3 hm (sL hv.1 t h3 q hm);obtain⟨s,hs⟩:=hv.2 t h3 q hm;have hct:SJ c a b=some (t,q):=by unfold SJ;rw[h2,Option.bind_some,h];rfl
  refine⟨t,s,h1,h2,h3,h,hm,hf,hs,?_,hct,FB hf hs⟩;unfold UB;rw[show az (Hi c) 0=true from eqI_t.2 h1,cond_true,hct];show(jG c t q).getD []=s;rw[hs];rfl
def U8 {c:List Ct}{a b p:Int}{q:Cm}{s:List SV}{t:Ct}(h1:UB c a b=s)(h2:SJ c a b=some (t,q))(h3:s.length=q.code.length)(h4:0<=p/\p<q.code.length):∃v,dj s p=some v/\v∈s/\U7 c a b p=(List.range q.locals.length).map fun i=>v.set.testBit i:=by
 obtain⟨v,hv,hm⟩:=iR (l:=s) (x:=p) ⟨h4.1,by rw[h3];exact h4.2⟩
 refine⟨v,hv,hm,?_⟩;unfold U7;rw[h1,hv,h2]
def xC (q:Cm)(p:Int):Bool:=bif aG 0 p then(match dj q.code (p - 1)with|some x=>az x.op 30|none=>false)else true
def Dl (bs:List Bool)(ls:List Va)(ks:LI):Bool:=(bs.zip (ls.zip ks)).all fun p=>jj p.2.1 p.2.2||(!p.1&&fd p.2.1 v0)
def ot (c:List Ct)(x:Mc):Bool:=match la c x.ty x.me with
 |none=>false
 |some q=>!aG x.pc 0&&(!aL q.code.length x.pc&&(xC q x.pc&&(decide (x.ls.length=q.locals.length)&&Dl (U7 c x.ty x.me x.pc) x.ls q.locals)))
def VM {c:List Ct}{x:Mc}{q:Cm}(h:la c x.ty x.me=some q):ot c x=(!aG x.pc 0&&(!aL q.code.length x.pc&&(xC q x.pc&&(decide (x.ls.length=q.locals.length)&&Dl (U7 c x.ty x.me x.pc) x.ls q.locals)))):=by
 unfold ot;rw[h]
def VL {c:List Ct}{x:Mc}(h:la c x.ty x.me=none):ot c x=false:=by
 unfold ot;rw[h]
def MF (v:Va)(hm:1504<=m):Ω m 48 [.p v.e,.p (.agg [.int .i64 0,.int .i64 0,.str [],.slice 1 [],.slice 1 []])] []=dX (fd v v0):=by
 obtain⟨k,rfl⟩:=uz hm;exact su (n:=k) v v0 (.inr (by decide)) (.inr (by decide))
def UP (bs:List Bool)(x:Mc)(q:Cm)(h1:bs.length=x.ls.length)(h2:x.ls.length=q.locals.length)(h3:bs.length<1501)(hm:1600<=m):itL (dV (dC lay0.tab m) m (fun _=>dX false) (fun _=>dX true)) m (bs.map Da.bool,(bs.length:Int),0,x.r,q.r)=dX (Dl bs x.ls q.locals):=by
 have hl:(bs.zip (x.ls.zip q.locals)).length=bs.length:=by rw[qα,qα];omega
 refine(bA (bs.zip (x.ls.zip q.locals)) (fun k i=>itL (dV (dC lay0.tab m) m (fun _=>dX false) (fun _=>dX true)) k (bs.map Da.bool,(bs.length:Int),i,x.r,q.r)) (fun p=>!(jj p.2.1 p.2.2||(!p.1&&fd p.2.1 v0))) (fun _=>dX false) (dX true) (fun k i hi=>?_) (fun k=>?_) (by omega)).trans ?_
 ·rw[hl]at hi;have hi2:i<x.ls.length:=by omega
  have hi3:i<q.locals.length:=by omega
  rw[bb];simp only[dV,hZ (show(i:Int)<(bs.length:Int) by omega),be,aU,bf,bw hi,bG,show ∀b,zB (Da.bool b)=true from fun _=>rfl,aJ,show x.r.Locals=x.ls.map Va.e from rfl,show q.r.Locals=q.locals.map iE from rfl,bw hi2,bw hi3,show ∀k,zB (iE k)=false from fun _=>rfl,bo,dI,Va.e,FT,wS (show i<eH by unfold eH;omega),List.getElem_zip];have hf:=aa (yD x.ls[i] q.locals[i] (m:=m) (by omega));have hs:=aa (MF x.ls[i] (m:=m) (by omega));cases bs[i]with
  |true=>
   rw[be];refine(hf _).trans ?_;simp only[aY,aJ,aB];cases jj x.ls[i] q.locals[i]<;>rfl
  |false=>
   rw[bo];refine(hf _).trans ?_;simp only[aY,aJ,aB];cases jj x.ls[i] q.locals[i]with
   |true=>rfl
   |false=>
    rw[bo];refine(hs _).trans ?_;simp only[aY,aJ,aB];cases fd x.ls[i] v0<;>rfl
 ·rw[bb,hl];simp only[dV,eT,bo]
 ·unfold Dl;rw[gL];cases(bs.zip (x.ls.zip q.locals)).findIdx? fun p=>!(jj p.2.1 p.2.2||(!p.1&&fd p.2.1 v0))<;>rfl
include hc
def Jh (x:Mc)(hm:400010<=m):Ω m 17 [.p (de c).e,.p x.e] []=dX (ot c x):=by
 replace hm:=fuel hm;obtain⟨m,rfl,hm⟩:=hm;apply JQ m (de c) x.r;unfold xg;refine(aa (rg hc x (m:=m) (by omega)) _).trans ?_;simp only[c3,aR,aY,FQ,aJ,aB];cases hq:la c x.ty x.me with
 |none=>rw[VL hq];rfl
 |some q=>
  rw[VM hq];obtain⟨t,s,g1,g2,g3,g4,g5,g6,g7,g8,g9,g10⟩:=Qb hc hq;rw[show(some q).isSome=true from rfl,be];show iL (aG x.pc 0) _ (iL (aL ((q.code.map Cd.e).length:Int) x.pc) _ _)=_;rw[lβ];cases h1:aG x.pc 0 with
  |true=>rfl
  |false=>
  cases h2:aL (q.code.length:Int) x.pc with
  |true=>simp only[bo,be,Bool.not_true,Bool.false_and,Bool.and_false]
  |false=>
  have hp:0<=x.pc/\x.pc<(q.code.length:Int):=by
   rw[bX,lζ]at h1;rw[bj,lζ]at h2;omega
  obtain⟨v,hv,-,has⟩:=U8 g8 g9 g10.n hp;have hll:=g6.l;have hcl:=g6.z.c;have ji:(iL (!az ((x.ls.map Va.e).length:Int) ((q.locals.map iE).length:Int)) (dX false) (dC lay0.tab m 46 [.p (de c).e,pI x.ty,pI x.me,pI x.pc] [] fun d14 o15=>
    dP d14 fun x16=>
    hM 1 x16 fun l17=>
    af o15<|
    itL (dV (dC lay0.tab m) m (fun _=>dX false) (fun _=>dX true)) m (l17,↑(List.length l17),0,x.r,q.r)))=dX (decide (x.ls.length=q.locals.length)&&Dl (U7 c x.ty x.me x.pc) x.ls q.locals):=by
   rw[lβ,lβ,cE,pp];by_cases hl:(x.ls.length:Int)=(q.locals.length:Int)
   ·have hl':x.ls.length=q.locals.length:=by omega
    rw[if_pos hl,lν hl',Bool.true_and,aa (AN hc x.ty x.me x.pc (m:=m) (by omega))];simp only[aY,oU,aB,lβ];have ha:(U7 c x.ty x.me x.pc).length=x.ls.length:=by rw[has,lβ,List.length_range,hl']
    exact UP _ x q ha hl' (by omega) (by omega)
   ·rw[if_neg hl,mθ (by omega)];rfl
  rw[bo,bo];unfold xC;show iL (aG 0 x.pc) (cL (bU (q.code.map Cd.e) (ag .i64 (x.pc - 1))) _) _=_;rw[Bool.not_false,Bool.true_and,Bool.true_and];cases h3:aG 0 x.pc with
  |false=>rw[bo,cond_false,Bool.true_and];exact ji
  |true=>
   rw[bX,lδ]at h3;obtain⟨y,hy,-⟩:=iR (l:=q.code) (x:=x.pc - 1) ⟨by omega,by omega⟩
   rw[fO (by omega) (by omega),be,cond_true,aU,bf,hy,bG,Vf];simp only;show iL (!az y.op 30) _ _=dX (az y.op 30&&_);cases az y.op 30
   ·rfl
   ·rw[Bool.not_true,bo,Bool.true_and];exact ji
def R8 (c:List Ct)(x:Mc):Int:=bif az x.pc 0 then 0 else(((la c x.ty x.me).bind fun q=>(dj q.code (x.pc - 1)).bind fun y=>fA c y.a y.b).getD m0).res
omit hc
def R9 {q:Cm}{t:Ct}{y:Cd}(hf:HI c t q)(hy:y∈q.code)(h:y.op=30):∃z,fA c y.a y.b=some z:=by
 have:=jO (hf.i y hy);rw[h]at this;exact Option.isSome_iff_exists.1 this
include hc
def ET (x:Mc)(hv:ot c x=true)(hm:1<=m):Ω m 44 [.p (de c).e,.p x.e] []=some (pI (R8 c x),[]):=by
 replace hm:=fuel hm;obtain⟨m,rfl,hm⟩:=hm;apply Fq m (de c) x.r;unfold tq R8;unfold ot at hv;cases hq:la c x.ty x.me with
 |none=>rw[hq]at hv;cases hv
 |some q=>
  rw[hq]at hv;obtain⟨t,s,g1,g2,g3,g4,g5,g6,g7,g8,g9,g10⟩:=Qb hc hq;simp only[lγ,Bool.not_eq_true',bX,bj,lζ]at hv;obtain⟨h1,h2,h3,-⟩:=hv;have hcl:=g6.z.c;show iL (az x.pc 0) _ (cL (bU (c.map Ct.e) x.ty) _)=_;cases h0:az x.pc 0 with
  |true=>rfl
  |false=>
   rw[cE,lζ]at h0;unfold xC at h3;rw[show aG 0 x.pc=true from hZ (by omega),cond_true]at h3;obtain⟨y,hy,hym⟩:=iR (l:=q.code) (x:=x.pc - 1) ⟨by omega,by omega⟩
   rw[hy]at h3;obtain⟨z,hz⟩:=R9 g6 hym (eqI_t.1 h3);rw[bo,cond_false,Option.bind_some,hy,Option.bind_some,hz,aU,bf,g2,bG,Cs];show cL (bU (t.methods.map Cm.e) x.me) _=_;rw[aU,bf,g4,bG,FQ];show cL (bU (q.code.map Cd.e) (ag .i64 (x.pc - 1))) _=_;rw[fO (by omega) (by omega),aU,bf,hy,bG,Vf];unfold fA at hz;cases ht:dj c y.a with
   |none=>rw[ht]at hz;cases hz
   |some u=>
    rw[ht,Option.bind_some]at hz;show cL (bU (c.map Ct.e) y.a) _=_;rw[aU,bf,ht,bG,Cs];show cL (bU (u.methods.map Cm.e) y.b) _=_;rw[aU,bf,hz,bG,FQ];rfl
def Jf (x:Mc)(hm:400011<=m):Ω m 14 [.p (de c).e,.p x.e] []=some (.tup [pI (bif ot c x then R8 c x else 0),pB (ot c x)],[]):=by
 replace hm:=fuel hm;obtain⟨m,rfl,hm⟩:=hm;apply JN m (de c) x.r;unfold xc;refine(aa (Jh hc x (m:=m) (by omega)) _).trans ?_;simp only[aY,aJ,aB];cases hv:ot c x with
 |false=>rfl
 |true=>
  rw[be];refine(aa (ET hc x hv (m:=m) (by omega)) _).trans ?_;simp only[aY,bW,aB];rfl
end
end
section
structure Xs where
 c:List Ct
 q:Cm
 (ty me:Int)
 ky:LN
structure Xt where
 pc:Int
 (ls fs st:List Va)
 es:List Ef
 done:Bool
 ok:Int
 ov:Va
 (tT tK mn:LN)
 ar:List Va
 fu:Int
def Xt.x (s:Xs)(X:Xt)(J:LD):Xn:={ct:=s.c.map Ct.e,mn:=s.q.name,mp:=s.q.params.map iE,mr:=s.q.res,ml:=s.q.locals.map iE,mc:=s.q.code.map Cd.e,aT:=s.ty,aM:=s.me,aP:=X.pc,ln:=X.ls.length,ky:=s.ky,fn:=X.fs.length,sn:=X.st.length,en:=X.es.length,dn:=X.done,oK:=X.ok,vK:=X.ov.k,vN:=X.ov.n,vS:=X.ov.s,vI:=X.ov.I.map iE,vL:=X.ov.L.map .str,tT:=X.tT,tK:=X.tK,me:=X.mn,ar:=X.ar.map Va.e,er:=0,oT:=0,oM:=0,oP:=0,ol:=[],of:=[],oe:=[],fu:=X.fu,ls:=X.ls.map Va.e,fs:=X.fs.map Va.e,st:=X.st.map Va.e++J,es:=X.es.map Ef.e}
def fo (X:Xt)(v:Va):Xt:={X with st:=X.st++[v]}
def eF (r:Va×Int)(X:Xt):Xt×Int:=(bif az r.2 0 then fo X r.1 else X,r.2)
def sk (r:Ef×Int)(X:Xt):Xt×Int:=(bif az r.2 0 then {X with es:=X.es++[r.1]}else X,r.2)
section
variable {m:Nat} (s:Xs) (X:Xt) (J:LD)
def Rp (v:Va)(hs:X.st.length<1501)(hm:1<=m):Ω m 56 [.box 0 0,.p v.e] ((X.x s J).hp 0)=some (.tup [],((fo X v).x s []).hp 0):=by
 replace hm:=fuel hm;obtain⟨m,rfl,hm⟩:=hm;apply RO m (X.x s J) v.r;unfold HC;have ht:List.take (X.x s J).sn (X.x s J).st=X.st.map Va.e:=by
  show List.take X.st.length (X.st.map Va.e++J)=_;rw[List.take_append_of_le_length (by rw[lβ];exact Nat.le_refl _),lκ (by rw[lβ];exact Nat.le_refl _)]
 rw[ht,show c8 ((X.st.map Va.e).length+List.length [Da.agg [Da.int .i64 v.r.Kind,Da.int .i64 v.r.N,Da.str v.r.S,Da.slice 1 v.r.I,Da.slice 1 v.r.L]]) 80=true from kX (by rw[lβ];show X.st.length+1<_;omega) (by omega),be]
 have h2:X.st.map Va.e++[Da.agg [Da.int .i64 v.r.Kind,Da.int .i64 v.r.N,Da.str v.r.S,Da.slice 1 v.r.I,Da.slice 1 v.r.L]]=(X.st++[v]).map Va.e:=by rw[List.map_append];rfl
 rw[h2];unfold Xt.x fo;simp only[lβ,mκ]
def AR (v:Va)(hs:X.st.length<1501)(hm:1<=m):Ω m 56 [.box 0 0,.agg [pI v.k,pI v.n,pS v.s,.arr 1 0 v.I.length 1,.arr 2 0 v.L.length 1]] ((X.x s J).bx 3:: .arr (v.I.map iE):: .arr (v.L.map .str)::(X.x s J).rs)=some (.tup [],((fo X v).x s []).bx 3:: .fz (v.I.map iE):: .fz (v.L.map .str)::((fo X v).x s []).rs):=by
 replace hm:=fuel hm;obtain⟨m,rfl,hm⟩:=hm;apply NE m (X.x s J) v.k v.n v.s v.I.length v.L.length (v.I.map iE) (v.L.map .str);unfold Bz;have ht:List.take (X.x s J).sn (X.x s J).st=X.st.map Va.e:=by
  show List.take X.st.length (X.st.map Va.e++J)=_;rw[List.take_append_of_le_length (by rw[lβ];exact Nat.le_refl _),lκ (by rw[lβ];exact Nat.le_refl _)]
 simp only[ht,List.drop_zero,lκ (l:=v.I.map iE) (show(v.I.map iE).length<=v.I.length by rw[lβ];exact Nat.le_refl _),lκ (l:=v.L.map Da.str) (show(v.L.map Da.str).length<=v.L.length by rw[lβ];exact Nat.le_refl _)];rw[show c8 ((X.st.map Va.e).length+List.length [Da.agg [Da.int .i64 v.k,Da.int .i64 v.n,Da.str v.s,Da.slice 1 (v.I.map iE),Da.slice 1 (v.L.map .str)]]) 80=true from kX (by rw[lβ];show X.st.length+1<_;omega) (by omega),be]
 have h2:X.st.map Va.e++[Da.agg [Da.int .i64 v.k,Da.int .i64 v.n,Da.str v.s,Da.slice 1 (v.I.map iE),Da.slice 1 (v.L.map .str)]]=(X.st++[v]).map Va.e:=by rw[List.map_append];rfl
 rw[h2];unfold Xt.x fo;simp only[lβ,mκ]
def Jl (v:Va)(e:Int)(hs:X.st.length<1501)(hm:2<=m):∃J',Ω m 228 [.box 0 0,.p v.e,pI e] ((X.x s J).hp 0)=some (pI e,((eF (v,e) X).1.x s J').hp 0):=by
 replace hm:=fuel hm;obtain⟨m,rfl,hm⟩:=hm;refine⟨bif az e 0 then[]else J,?_⟩
 apply JZ m (X.x s J) v.r e;unfold xn eF;cases az e 0 with
 |false=>rfl
 |true=>
  rw[be];refine(aa (Rp s X J v hs (m:=m) (by omega)) _).trans ?_;rw[c3,aB,OT];rfl
def ko (s:Xs)(g:Nat)(cap:List D)(x:Cd)(l:List Va)(r:Option (Xt×Int))(X:Xt)(J:LD)(m:Nat):Prop:=∀y,r=some y->∃J',Ω m g (.box 0 0:: .p x.e:: .p (.slice 5 (l.map Va.e))::cap) ((X.x s J).hp 0)=some (pI y.2,(y.1.x s J').hp 0)
def pR (v:Va)(hv:Lg v)(hs:X.st.length<1501)(hm:3<=m):(dC lay0.tab m 55 [(.p v.r.e)] [] fun d5 o6=>
 ne d5 fun r7=>
 ab r7 fun d8 r9=>
 dP d8 fun x10=>
 ba .i64 x10 fun i11=>
 ab r9 fun d12 r13=>
 dP d12 fun x14=>
 ba .i64 x14 fun i15=>
 ab r13 fun d16 r17=>
 dP d16 fun x18=>
 eR x18 fun s19=>
 ab r17 fun d20 r21=>
 dF 0 1 d20 fun n22=>
 ab r21 fun d23 r24=>
 dF 1 1 d23 fun n25=>
 af r24<|
 ab o6 fun u26 o27=>
 cO u26 fun l28=>
 ab o27 fun u29 o30=>
 cO u29 fun l31=>
 af o30<|
 dC lay0.tab m 56 [(.box 0 0),(.agg [(pI i11),(pI i15),(pS s19),(.arr 1 0 n22 1),(.arr 2 0 n25 1)])] (Xn.hp 2 ({(X.x s J)with ls:=l28,fs:=l31,st:=(X.x s J).ls,es:=(X.x s J).fs}:Xn)++[(.arr (X.x s J).st),(.arr (X.x s J).es)]) fun d32 o33=>
 ff d32 fun r34=>
 af r34<|
 SP o33 fun u35 l36 l37=>
 some ((pI 0),(u35.hp 0)))=some (pI 0,((fo X v).x s []).hp 0):=by
 refine(aa (gQ v hv (m:=m) (by omega)) _).trans ?_;simp only[Va.cl,Va.ch,nM,aR,aY,bW,iU,eC,aB,eE];refine(aa (AR s X J v hs (m:=m) (by omega)) _).trans ?_;rw[c3,aB,Vj]
def L2 (x:Cd)(l:List Va)(hv:Lg x.v)(hs:X.st.length<1501)(hm:4<=m):ko s 225 [.p (.ptr (.agg [.fn 148 []]))] x l (some (fo X x.v,0)) X J m:=by
 rintro y hy;cases hy
 refine⟨[],?_⟩;replace hm:=fuel hm;obtain⟨m,rfl,hm⟩:=hm;apply NF m (X.x s J) x.r (l.map Va.e);unfold BA;have h1:Ω m 148 [.box 0 0,.p x.r.e] ((X.x s J).hp 0)=some (.p x.v.r.e,(X.x s J).hp 0):=by
  obtain⟨m,rfl,-⟩:=fuel hm;apply RQ m (X.x s J) x.r;rfl
 refine(aa h1 _).trans ?_;rw[aY,ZW];refine(bM _ _).trans ?_;exact pR s X J x.v hv hs hm
def L5 (x:Cd)(l:List Va)(hs:X.st.length<1501)(hm:4<=m):ko s 225 [.p (.ptr (.agg [.fn 151 []]))] x l (some (fo X ⟨3,0,s.ky,[],[]⟩,0)) X J m:=by
 rintro y hy;cases hy
 refine⟨[],?_⟩;replace hm:=fuel hm;obtain⟨m,rfl,hm⟩:=hm;apply NI m (X.x s J) x.r (l.map Va.e);unfold BD;have h1:Ω m 151 [.box 0 0,.p x.r.e] ((X.x s J).hp 0)=some (.p (Va.r ⟨3,0,s.ky,[],[]⟩).e,(X.x s J).hp 0):=by
  obtain⟨m,rfl,-⟩:=fuel hm;apply RT m (X.x s J) x.r;rfl
 refine(aa h1 _).trans ?_;rw[aY,ZW];refine(bM _ _).trans ?_;exact pR s X J ⟨3,0,s.ky,[],[]⟩ ⟨by simp,by simp⟩ hs hm
def jH {l:List α}{x:Int}(h:dj l x=some y):0<=x/\x<l.length/\l[x.toNat]?=some y:=by
 unfold dj at h;by_cases h0:0<=x
 ·rw[if_pos h0]at h;have:=(List.getElem?_eq_some_iff.1 h).1;exact⟨h0,by omega,h⟩
 ·rw[if_neg h0]at h;cases h
def L3 (x:Cd)(l:List Va)(hv:∀v∈X.ls,Lg v)(hs:X.st.length<1501)(hm:4<=m):ko s 225 [.p (.ptr (.agg [.fn 149 []]))] x l ((dj X.ls x.a).map fun v=>(fo X v,0)) X J m:=by
 rintro y hy
 cases ha:dj X.ls x.a with
 |none=>rw[ha]at hy;cases hy
 |some v=>
 rw[ha]at hy;cases hy;obtain⟨g1,g2,g3⟩:=jH ha;refine⟨[],?_⟩;replace hm:=fuel hm;obtain⟨m,rfl,hm⟩:=hm;apply NG m (X.x s J) x.r (l.map Va.e);unfold BB;have h1:Ω m 149 [.box 0 0,.p x.r.e] ((X.x s J).hp 0)=some (.p v.r.e,(X.x s J).hp 0):=by
  obtain⟨m,rfl,-⟩:=fuel hm;apply RR m (X.x s J) x.r;unfold HD;show iL (aL 0 x.a) (iL (aG x.a (X.ls.length:Int)) (cL ((X.ls.map Va.e)[0+x.a.toNat]?) _) _) _=_;rw[show aL 0 x.a=true by rw[bj];exact lν g1,hZ g2,be,be,Nat.zero_add,lξ,g3];rfl
 refine(aa h1 _).trans ?_;rw[aY,ZW];refine(bM _ _).trans ?_;exact pR s X J v (hv v (nJ ha)) hs hm
def L4 (x:Cd)(l:List Va)(hv:∀v∈X.fs,Lg v)(hs:X.st.length<1501)(hm:4<=m):ko s 225 [.p (.ptr (.agg [.fn 150 []]))] x l ((dj X.fs x.a).map fun v=>(fo X v,0)) X J m:=by
 rintro y hy
 cases ha:dj X.fs x.a with
 |none=>rw[ha]at hy;cases hy
 |some v=>
 rw[ha]at hy;cases hy;obtain⟨g1,g2,g3⟩:=jH ha;refine⟨[],?_⟩;replace hm:=fuel hm;obtain⟨m,rfl,hm⟩:=hm;apply NH m (X.x s J) x.r (l.map Va.e);unfold BC;have h1:Ω m 150 [.box 0 0,.p x.r.e] ((X.x s J).hp 0)=some (.p v.r.e,(X.x s J).hp 0):=by
  obtain⟨m,rfl,-⟩:=fuel hm;apply RS m (X.x s J) x.r;unfold HE;show iL (aL 0 x.a) (iL (aG x.a (X.fs.length:Int)) (cL ((X.fs.map Va.e)[0+x.a.toNat]?) _) _) _=_;rw[show aL 0 x.a=true by rw[bj];exact lν g1,hZ g2,be,be,Nat.zero_add,lξ,g3];rfl
 refine(aa h1 _).trans ?_;rw[aY,ZW];refine(bM _ _).trans ?_;exact pR s X J v (hv v (nJ ha)) hs hm
def vU (v w:Va):Da.agg (splice (cells (aw.e w.r)) 0 (cells (Da.agg [Da.int .i64 v.k,Da.int .i64 v.n,Da.str v.s,Da.slice 1 (List.take v.I.length (List.drop 0 (v.I.map iE))),Da.slice 1 (List.take v.L.length (List.drop 0 (v.L.map Da.str)))])))=v.e:=by
 rw[List.drop_zero,List.drop_zero,lκ (by rw[lβ];exact Nat.le_refl _),lκ (by rw[lβ];exact Nat.le_refl _)];rfl
def L6 (x:Cd)(l:List Va)(hv:∀v∈l,Lg v)(hm:4<=m):ko s 226 [.p (.ptr (.agg [.fn 153 []]))] x l (l.head?.bind fun v=>(dj X.ls x.a).map fun _=>({X with ls:=X.ls.set x.a.toNat v},0)) X J m:=by
 rintro y hy
 cases l with
 |nil=>cases hy
 |cons v r=>
 rw[List.head?_cons,Option.bind_some]at hy;cases ha:dj X.ls x.a with
 |none=>rw[ha]at hy;cases hy
 |some w=>
 rw[ha]at hy;cases hy;obtain⟨g1,g2,g3⟩:=jH ha;refine⟨J,?_⟩;replace hm:=fuel hm;obtain⟨m,rfl,hm⟩:=hm;apply NK m (X.x s J) x.r ((v::r).map Va.e);unfold BF;have h1:Ω m 153 [.box 0 0,.p x.r.e] ((X.x s J).hp 0)=some (.el 1 x.a.toNat 0,(X.x s J).hp 0):=by
  obtain⟨m,rfl,-⟩:=fuel hm;apply RU m (X.x s J) x.r;unfold HF;show iL (aL 0 x.a) (iL (aG x.a (X.ls.length:Int)) _ _) _=_;rw[show aL 0 x.a=true by rw[bj];exact lν g1,hZ g2,be,be];show some (D.el 1 (0+x.a.toNat) 0,_)=_;rw[Nat.zero_add]
 refine(aa h1 _).trans ?_;rw[show ∀K,SM 1 0 (.el 1 x.a.toNat 0) K=K x.a.toNat from fun K=>by unfold SM;simp[iL]];refine(bM _ _).trans ?_;rw[show bU ((v::r).map Va.e) 0=some v.e from rfl,bG,OS];refine(aa (gQ v (hv v lυ) (m:=m) (by omega)) _).trans ?_;simp only[Va.cl,Va.ch,nM,aR,aY,bW,iU,eC,aB,eE];show cL ((X.ls.map Va.e)[x.a.toNat]?) _=_;rw[lξ,g3];show ao w.e _=_;rw[OS,vU];show some (D.p (Da.int .i64 0),Xn.hp 0 {(X.x s J)with ls:=(X.ls.map Va.e).set x.a.toNat v.e})=_;rw[<-List.map_set];unfold Xt.x;simp only[List.length_set]
def L7 (x:Cd)(l:List Va)(hv:∀v∈l,Lg v)(hm:4<=m):ko s 226 [.p (.ptr (.agg [.fn 154 []]))] x l (l.head?.bind fun v=>(dj X.fs x.a).map fun _=>({X with fs:=X.fs.set x.a.toNat v},0)) X J m:=by
 rintro y hy
 cases l with
 |nil=>cases hy
 |cons v r=>
 rw[List.head?_cons,Option.bind_some]at hy;cases ha:dj X.fs x.a with
 |none=>rw[ha]at hy;cases hy
 |some w=>
 rw[ha]at hy;cases hy;obtain⟨g1,g2,g3⟩:=jH ha;refine⟨J,?_⟩;replace hm:=fuel hm;obtain⟨m,rfl,hm⟩:=hm;apply NL m (X.x s J) x.r ((v::r).map Va.e);unfold BG;have h1:Ω m 154 [.box 0 0,.p x.r.e] ((X.x s J).hp 0)=some (.el 2 x.a.toNat 0,(X.x s J).hp 0):=by
  obtain⟨m,rfl,-⟩:=fuel hm;apply RV m (X.x s J) x.r;unfold HG;show iL (aL 0 x.a) (iL (aG x.a (X.fs.length:Int)) _ _) _=_;rw[show aL 0 x.a=true by rw[bj];exact lν g1,hZ g2,be,be];show some (D.el 2 (0+x.a.toNat) 0,_)=_;rw[Nat.zero_add]
 refine(aa h1 _).trans ?_;rw[show ∀K,SM 2 0 (.el 2 x.a.toNat 0) K=K x.a.toNat from fun K=>by unfold SM;simp[iL]];refine(bM _ _).trans ?_;rw[show bU ((v::r).map Va.e) 0=some v.e from rfl,bG,OS];refine(aa (gQ v (hv v lυ) (m:=m) (by omega)) _).trans ?_;simp only[Va.cl,Va.ch,nM,aR,aY,bW,iU,eC,aB,eE];show cL ((X.fs.map Va.e)[x.a.toNat]?) _=_;rw[lξ,g3];show ao w.e _=_;rw[OS,vU];show some (D.p (Da.int .i64 0),Xn.hp 0 {(X.x s J)with fs:=(X.fs.map Va.e).set x.a.toNat v.e})=_;rw[<-List.map_set];unfold Xt.x;simp only[List.length_set]
def oh (r:Va×Int)(hs:X.st.length<1501)(hm:2<=m):∃J',(dC lay0.tab m 228 [(.box 0 0),(.p r.1.e),(pI r.2)] ((X.x s J).hp 0) fun d14 o15=>
 dP d14 fun x16=>
 ba .i64 x16 fun i17=>
 Q3 o15 fun u18=>
 some ((pI i17),(u18.hp 0)))=some (pI (eF r X).2,((eF r X).1.x s J').hp 0):=by
 obtain⟨J',h⟩:=Jl s X J r.1 r.2 hs hm;refine⟨J',(aa h _).trans ?_⟩;rw[aY,bW,OT];rfl
def Ô (v:Va)(K:aw->R):ao v.e K=K v.r:=rfl
def wN (x:Cd)(l:List Va)(o:LN)(hs:X.st.length<1501)(hm:4<=m):ko s 227 [.p (.ptr (.agg [.str o]))] x l (l.head?.map fun v=>eF (QS o v) X) X J m:=by
 rintro y hy
 cases l with
 |nil=>cases hy
 |cons v r=>
 cases hy;replace hm:=fuel hm;obtain⟨m,rfl,hm⟩:=hm;obtain⟨J',hJ⟩:=oh s X J (QS o v) hs (m:=m) (by omega);refine⟨J',?_⟩;apply J0 m (X.x s J) x.r ((v::r).map Va.e) o;unfold xp;rw[show bU ((v::r).map Va.e) 0=some v.e from rfl,bG,OS];refine(aa (My o v (m:=m) (by omega)) _).trans ?_;simp only[c3,aR,aY,Ô,bW,aB];exact hJ
def pM (o:LN)(l:List Va)(X:Xt):Option (Xt×Int):=match l with|a::b::_=>some (eF (Q2 o a b) X)|_=>none
def bY (x:Cd)(l:List Va)(o:LN)(hw:∀v∈l,Wk v)(hs:X.st.length<1501)(hm:1512<=m):ko s 230 [.p (.ptr (.agg [.str o]))] x l (pM o l X) X J m:=by
 rintro y hy
 match l,hw,hy with
 |a::b::r,hw,hy=>
 cases hy;replace hm:=fuel hm;obtain⟨m,rfl,hm⟩:=hm;obtain⟨J',hJ⟩:=oh s X J (Q2 o a b) hs (m:=m) (by omega);refine⟨J',?_⟩;apply yQ m (X.x s J) x.r ((a::b::r).map Va.e) o;unfold oA;rw[show bU ((a::b::r).map Va.e) 0=some a.e from rfl,bG,OS,show bU ((a::b::r).map Va.e) 1=some b.e from rfl,bG,OS];refine(aa (Jg o a b (hw a lυ) (hw b (mα _ lυ)) (m:=m) (by omega)) _).trans ?_;simp only[sq,c3,aR,aY,Ô,bW,aB];exact hJ
def eN (x:Cd)(l:List Va)(o:LN)(hw:∀v∈l,Wk v)(hl:l.length<=100)(hs:X.st.length<1501)(hm:1512<=m):ko s 232 [.p (.ptr (.agg [.str o]))] x l ((jh o l).map fun r=>eF r X) X J m:=by
 rintro y hy
 cases hb:jh o l with
 |none=>rw[hb]at hy;cases hy
 |some r=>
 rw[hb]at hy;cases hy;replace hm:=fuel hm;obtain⟨m,rfl,hm⟩:=hm;obtain⟨J',hJ⟩:=oh s X J r hs (m:=m) (by omega);refine⟨J',?_⟩;apply BY m (X.x s J) x.r (l.map Va.e) o;unfold rk;refine(aa (ES o l hw hl hb (m:=m) (by omega)) _).trans ?_;simp only[sq,c3,aR,aY,Ô,bW,aB];exact hJ
def YM (v:Ef)(K:ef->R):bP v.e K=K ⟨v.k,v.n,v.a,v.b⟩:=rfl
def qm (x:Cd)(l:List Va)(q:Int)(hs:X.es.length<1501)(hm:2<=m):ko s 236 [.p (.ptr (.agg [.int .i64 q]))] x l ((oJ q l X.es.length).map fun r=>sk r X) X J m:=by
 rintro y hy
 cases hb:oJ q l X.es.length with
 |none=>rw[hb]at hy;cases hy
 |some r=>
 rw[hb]at hy;cases hy;replace hm:=fuel hm;obtain⟨m,rfl,hm⟩:=hm;refine⟨J,?_⟩;apply JU m (X.x s J) x.r (l.map Va.e) q;unfold xk;refine(aa (VT q l X.es.length hb (m:=m) (by omega)) _).trans ?_;simp only[Ll,c3,aR,aY,YM,bW,aB];unfold sk;cases az r.2 0 with
 |false=>rfl
 |true=>
  have ht:List.take (X.x s J).en (X.x s J).es=X.es.map Ef.e:=by
   show List.take X.es.length (X.es.map Ef.e)=_;rw[lκ (by rw[lβ];exact Nat.le_refl _)]
  rw[be,ht,show c8 ((X.es.map Ef.e).length+List.length [Da.agg [Da.int .i64 r.1.k,Da.str r.1.n,Da.int .i64 r.1.a,Da.int .i64 r.1.b]]) 40=true from kX (by rw[lβ];show X.es.length+1<_;omega) (by omega),be]
  have h2:X.es.map Ef.e++[Da.agg [Da.int .i64 r.1.k,Da.str r.1.n,Da.int .i64 r.1.a,Da.int .i64 r.1.b]]=(X.es++[r.1]).map Ef.e:=by rw[List.map_append];rfl
  rw[h2,cond_true];unfold Xt.x;simp only[lβ]
def Gc (x:Cd)(l:List Va)(X:Xt):Xt×Int:=match l with|[]=>({X with pc:=x.a},0)|v::_=>bif az v.n 0 then({X with pc:=x.a},0)else(X,0)
def Hl (x:Cd)(l:List Va)(hm:1<=m):ko s 160 [] x l (some (Gc x l X)) X J m:=by
 rintro y hy;cases hy
 replace hm:=fuel hm;obtain⟨m,rfl,hm⟩:=hm;refine⟨J,?_⟩;apply RN m (X.x s J) x.r (l.map Va.e);unfold HB;cases l with
 |nil=>rfl
 |cons v r=>
  rw[show az ((((v::r).map Va.e).length:Nat):Int) 0=false by rw[cE,lζ];simp;omega,bo,show bU ((v::r).map Va.e) 0=some v.e from rfl,bG,OS];show iL (az v.n 0) _ _=_;have e:Gc x (v::r) X=bif az v.n 0 then({X with pc:=x.a},0)else(X,0):=rfl
  rw[e];cases az v.n 0<;>rfl
def Q8 (x:Cd)(l:List Va)(hm:1<=m):ko s 164 [] x l (some (X,0)) X J m:=by
 rintro y hy;cases hy
 replace hm:=fuel hm;obtain⟨m,rfl,hm⟩:=hm;refine⟨J,?_⟩;apply RX m (X.x s J) x.r (l.map Va.e);rfl
def Q9 (x:Cd)(l:List Va)(hm:1<=m):ko s 166 [] x l (some (X,26)) X J m:=by
 rintro y hy;cases hy
 replace hm:=fuel hm;obtain⟨m,rfl,hm⟩:=hm;refine⟨J,?_⟩;apply RY m (X.x s J) x.r (l.map Va.e);rfl
def Px (l:List Va)(X:Xt):Xt:={X with done:=true,ok:=1,ov:=l.headD v0,tT:=[],tK:=[],mn:=[],ar:=[],fu:=0}
def Ja (x:Cd)(l:List Va)(hv:∀v∈l,Lg v)(hm:4<=m):ko s 165 [] x l (some (Px l X,0)) X J m:=by
 rintro y hy;cases hy
 replace hm:=fuel hm;obtain⟨m,rfl,hm⟩:=hm;refine⟨J,?_⟩;apply JX m (X.x s J) x.r (l.map Va.e);unfold xm Px;cases l with
 |nil=>rfl
 |cons v r=>
  rw[hZ (show(0:Int)<((((v::r).map Va.e).length:Nat):Int) by rw[lβ,List.length_cons];omega),be,show bU ((v::r).map Va.e) 0=some v.e from rfl,bG,OS];refine(aa (gQ v (hv v lυ) (m:=m) (by omega)) _).trans ?_;simp only[Va.cl,Va.ch,nM,aR,aY,bW,iU,eC,aB,eE,List.drop_zero,lκ (l:=v.I.map iE) (show(v.I.map iE).length<=v.I.length by rw[lβ];exact Nat.le_refl _),lκ (l:=v.L.map Da.str) (show(v.L.map Da.str).length<=v.L.length by rw[lβ];exact Nat.le_refl _)];rfl
def Kh (s:Xs)(x:Cd)(l:List Va)(X:Xt):Option (Xt×Int):=
 match l with
 |[]=>none
 |v::r=>bif aG 32 (v.s.length:Int)then some (X,5)else(dj s.c x.a).bind fun t=>(dj t.methods x.b).map fun q=>({X with done:=true,ok:=2,ov:=v0,tT:=t.name,tK:=v.s,mn:=q.name,ar:=r,fu:=0},0)
def wU {t:Ct}{q:Cm}(x:Cd)(ht:dj s.c x.a=some t)(hq:dj t.methods x.b=some q)(hm:1<=m):Ω m 162 [.box 0 0,.p x.e] ((X.x s J).hp 0)=some (.tup [.p t.e,.p q.e],(X.x s J).hp 0):=by
 replace hm:=fuel hm;obtain⟨m,rfl,hm⟩:=hm;apply JV m (X.x s J) x.r;unfold xl;show cL (bU (s.c.map Ct.e) x.a) _=_;rw[aU,bf,ht,bG,Cs];show cL (bU (t.methods.map Cm.e) x.b) _=_;rw[aU,bf,hq,bG,FQ];rfl
def Q7 (x:Cd)(l:List Va)(hv:∀v∈l,Lg v)(hl:l.length<1501)(hm:1506<=m):ko s 163 [] x l (Kh s x l X) X J m:=by
 rintro y hy
 unfold Kh at hy;cases l with
 |nil=>cases hy
 |cons v r=>
 replace hm:=fuel hm;obtain⟨m,rfl,hm⟩:=hm;refine⟨J,?_⟩;apply RM m (X.x s J) x.r ((v::r).map Va.e);unfold HA;rw[show bU ((v::r).map Va.e) 0=some v.e from rfl,bG,OS];show iL (aG 32 (v.s.length:Int)) _ _=_;simp only at hy;cases h5:aG 32 (v.s.length:Int)with
 |true=>rw[h5,cond_true]at hy;cases hy;rfl
 |false=>
 rw[h5,cond_false]at hy;rw[bo];cases ht:dj s.c x.a with
 |none=>rw[ht]at hy;cases hy
 |some t=>
 rw[ht,Option.bind_some]at hy;cases hq:dj t.methods x.b with
 |none=>rw[hq]at hy;cases hy
 |some q=>
 rw[hq]at hy;cases hy;refine(aa (wU s X J x ht hq (m:=m) (by omega)) _).trans ?_;simp only[c3,aR,aY,Cs,FQ,aB];refine(bM _ _).trans ?_;rw[bG,OS,show aL 1 ((((v::r).map Va.e).length:Nat):Int)=true by rw[bj];exact lν (by simp;omega),be];have hd:List.take (((v::r).map Va.e).length - Int.toNat 1) (List.drop (Int.toNat 1) ((v::r).map Va.e))=r.map Va.e:=by
  show List.take _ (r.map Va.e)=_;rw[lκ (by simp)]
 rw[hd];refine(aa (qq r (by simp at hl;omega) (fun u hu=>hv u (mα _ hu)) (m:=m) (by omega)) _).trans ?_;simp only[eC,aR,eE,aB,List.drop_zero,lκ (l:=r.map Va.e) (show(r.map Va.e).length<=r.length by rw[lβ];exact Nat.le_refl _)];rfl
end
end
end
end Go.Ab
