import Derived.Test.YtmnmeiibmgcddaaGreatDoorKg0
import Derived.Test.YtmnmeiibmgcddaaGreatDoorOg1
import Derived.KernelRfl
import Derived.Lib.ItoaLen
import Derived.Test.YtmnmeiibmgcddaaGreatDoorOg2
set_option linter.all false
namespace Go.Ab
open Go
set_option maxRecDepth 100000
noncomputable section
def nm (p:SV×Cd):Bool:=p.1.r&&(!az p.2.op 2||p.1.set.testBit p.2.a.toNat)
def EN (m:Cm):List SV:=(List.replicate m.code.length (⟨false,[],0⟩:SV)).set 0 ⟨true,[],2 ^ m.params.length - 1⟩
def jG (c:List Ct)(t:Ct)(m:Cm):Option (List SV):=(oH c t m (256*m.code.length+1) (EN m) [0]).bind fun s=>bif(s.zip m.code).all nm then some s else none
def IS (n:Nat):GJ (List.replicate n (⟨false,[],0⟩:SV))=256*n:=by
 induction n with
 |zero=>rfl
 |succ n ih=>rw[List.replicate_succ,GJ,ih];show 256+_=_;omega
def Qu (o:Option (List SV)):R:=some (.tup [pL 3 ((o.getD []).map SV.e),pB o.isSome],[])
def yV {c t m}(hf:HI c t m):∀{e:Nat} {s s':List SV} {w:LN},oH c t m e s w=some s'->yO m s->(∀p∈w,p<m.code.length)->yO m s'
 |0,s,s',w,h,hs,_=>by cases h;exact hs
 |e+1,s,s',[],h,hs,_=>by cases h;exact hs
 |e+1,s,s',pc::w,h,hs,hp=>by
  have hpc:pc<m.code.length:=hp pc lυ;have hps:pc<s.length:=by rw[hs.n];exact hpc
  have hin:=hf.i _ (lρ hpc);have hv:=hs.v _ (lρ hps);unfold oH at h;rw[lε hpc,lε hps]at h;simp only at h;revert h;split
  ·rename_i st hr;cases(eM m pc m.code[pc]).2 with
   |false=>intro h;cases h
   |true=>
    rw[cond_true];cases hpr:lm st (lA m.code[pc] s[pc].set) (eM m pc m.code[pc]).1 s w with
    |none=>intro h;cases h
    |some p=>
     intro h;obtain⟨o1,-,-,o4⟩:=sW (s':=p.1) (w':=p.2) (yT hr) (G5 hin hf.l hv.2) hpr hs fun x hx=>hp x (mα _ hx)
     exact yV hf h o1 o4
  ·intro h;cases h
def Qy {c t m}(hf:HI c t m):yO m (EN m):=by
 have hp:=hf.p;have h2:2 ^ m.params.length<=2 ^ 4:=Nat.pow_le_pow_right (by omega) hp;unfold EN;refine yO.set ⟨by rw[mμ],fun v hv=>?_⟩ 0 (by simp) (show 2 ^ m.params.length - 1<256 by omega)
 rw[(List.mem_replicate.1 hv).2];simp
def FB {c t m s}(hf:HI c t m)(h:jG c t m=some s):yO m s:=by
 unfold jG at h;cases hg:oH c t m (256*m.code.length+1) (EN m) [0]with
 |none=>rw[hg]at h;cases h
 |some u=>
  rw[hg,Option.bind_some]at h;have:=yV hf hg (Qy hf) fun p hp=>by rw[List.mem_singleton.1 hp];exact hf.n
  cases hc:(u.zip m.code).all nm with
  |false=>rw[hc]at h;cases h
  |true=>rw[hc]at h;cases h;exact this
variable {m:Nat}
def YA {c t me}(hf:HI c t me)(s:List SV)(hs:yO me s)(hm:2000<=m):itL (dB (dC lay0.tab m) m (fun _=>Qu none) (fun(n150,n151,i152,i153,u154,l155)=>some ((.tup [(pL 3 (List.take n150 (List.drop 0 l155))),(pB true)]),[]))) m (me.code.length,me.code.length,(me.code.length:Int),0,me.r,s.map SV.e)=Qu (bif(s.zip me.code).all nm then some s else none):=by
 have hcl:=hf.z.c;have hl:(s.zip me.code).length=me.code.length:=by rw[qα,hs.n,Nat.min_self]
 refine(bA (s.zip me.code) (fun q i=>itL (dB (dC lay0.tab m) m (fun _=>Qu none) _) q (me.code.length,me.code.length,(me.code.length:Int),i,me.r,s.map SV.e)) (fun p=>!nm p) (fun _=>Qu none) (Qu (some s)) (fun q i hi=>?_) (fun q=>?_) (by omega)).trans ?_
 ·have hc:i<me.code.length:=by omega
  have hi2:i<s.length:=by rw[hs.n];exact hc
  have hv:=hs.v _ (lρ hi2);rw[bb,List.getElem_zip];have g:(s.map SV.e)[0+i]?=some (s[i].e):=by rw[Nat.zero_add,lξ,lε hi2];rfl
  have h0:aL 0 (i:Int)=true:=by rw[bj];exact lν (by omega)
  simp only[dB,hZ (show(i:Int)<(me.code.length:Int) by omega),h0,be,Int.toNat_natCast,g,bG,YQ,show me.r.Code=me.code.map Cd.e from rfl,aU,bf,bw hc,Vf,wS (show i<eH by unfold eH;omega)];unfold nm;cases s[i].r with
  |false=>rfl
  |true=>
   rw[be];show iL (az me.code[i].op 2) _ _=_;cases h2:az me.code[i].op 2 with
   |false=>rfl
   |true=>
    have h1:=jO (hf.i _ (lρ hc));rw[eqI_t.1 h2]at h1;have hw:=EJ h1;have:=hf.l;rw[be];have e1:aG me.code[i].r.A 0=false:=Q5 (show ¬me.code[i].a<0 by omega);rw[e1,bo];have e2:∀j:Nat,j<64->ag .u64 ((BitVec.toNat (BitVec.ofInt (IntKind.bits .u64) (Int.fdiv (s[i].set:Int) (2 ^ min j (IntKind.bits .u64))) &&& BitVec.ofInt (IntKind.bits .u64) 1):Nat):Int)=bif s[i].set.testBit j then 1 else 0:=fun j hj=>YF hv.2 hj
    rw[e2 (Int.toNat me.code[i].r.A) (show me.code[i].a.toNat<64 by omega),show me.code[i].r.A=me.code[i].a from rfl];cases s[i].set.testBit me.code[i].a.toNat<;>rfl
 ·rw[bb,hl];simp only[dB,eT,bo];show some (D.tup [pL 3 (List.take _ (s.map SV.e)),_],_)=_;rw[lκ (by rw[lβ,hs.n];omega)];rfl
 ·rw[gL];cases(s.zip me.code).findIdx? fun p=>!nm p<;>rfl
def Η {c t me}(hf:HI c t me)(hm:400000<=m):Ω m 64 [.p (de c).e,.p t.e,.p me.e] []=Qu (jG c t me):=by
 replace hm:=ei hm;obtain⟨m,rfl,hm⟩:=hm;apply Fl m (de c) t.r me.r;unfold tg;have hcl:=hf.z.c;have hcn:=hf.n;have hpl:=hf.p;rw[show me.r.Code=me.code.map Cd.e from rfl,lβ,Int.toNat_natCast];have hc1:(aL 0 (me.code.length:Int)&&aL (me.code.length:Int) (me.code.length:Int)&&Nat.ble (me.code.length*40) 281474976710656&&aL (me.code.length:Int) 9223372036854775807)=true:=by
  simp only[lγ,bj,Nat.ble_eq,lδ];omega
 rw[hc1,be,hZ (show(0:Int)<(me.code.length:Int) by omega),be];have hrep:List.replicate me.code.length (Da.agg [Da.bool false,Da.slice 1 [],Da.int .u64 0])=(List.replicate me.code.length (⟨false,[],0⟩:SV)).map SV.e:=by rw[List.map_replicate];rfl
 have hget:(List.replicate me.code.length (Da.agg [Da.bool false,Da.slice 1 [],Da.int .u64 0]))[0]?=some (SV.e ⟨false,[],0⟩):=by rw[List.getElem?_replicate,if_pos hcn];rfl
 have hset:ag .u64 (ag .u64 (1*2 ^ min (Int.toNat (me.params.length:Int)) (IntKind.bits .u64)) - 1)=((2 ^ me.params.length - 1:Nat):Int):=by
  have:me.params.length=0\/me.params.length=1\/me.params.length=2\/me.params.length=3\/me.params.length=4:=by omega
  rcases this with h|h|h|h|h<;>rw[h]<;>rfl
 rw[hget,bG,YQ];have hs0:=Qy hf;have hphi:GJ (EN me)<=256*me.code.length:=by
  have hp:=hf.p;have h2:2 ^ me.params.length<=2 ^ 4:=Nat.pow_le_pow_right (by omega) hp;have:=sU (List.replicate me.code.length (⟨false,[],0⟩:SV)) 0 (by rw[mμ];exact hcn) ⟨true,[],2 ^ me.params.length - 1⟩;rw[IS,List.getElem_replicate]at this;simp only[cond_true,cond_false]at this;unfold EN;omega
 have key:=UZ c t me hf (m:=m) (by omega) (Er:=Qu none) (k0:=fun _=>Qu none) (k1:=fun _=>Qu none) (k2:=fun(n129,n130,u131,u132,u133,l134,l135)=>
   itL (dB (dC lay0.tab m) m (fun(u146,l147,u148,u149)=>Qu none) (fun(n150,n151,i152,i153,u154,l155)=>
   some ((.tup [(pL 3 (List.take n150 (List.drop 0 l155))),(pB true)]),[]))) m (n129,n129,↑n129,0,u133,l134)) (G:=fun l=>itL (dB (dC lay0.tab m) m (fun _=>Qu none) (fun(n150,n151,i152,i153,u154,l155)=>some ((.tup [(pL 3 (List.take n150 (List.drop 0 l155))),(pB true)]),[]))) m (me.code.length,me.code.length,(me.code.length:Int),0,me.r,l)) (fun _=>rfl) (fun _=>rfl) (fun _ _ _=>rfl) (256*me.code.length+1) m (EN me) [0] [wE 0] hs0 (fun p hp=>by rw[List.mem_singleton.1 hp];exact hcn) rfl (by simp only[List.length_cons,List.length_nil];omega) (by omega) (by omega)
 have hs1:(List.replicate me.code.length (Da.agg [Da.bool false,Da.slice 1 [],Da.int .u64 0])).set 0 (Da.agg (splice (cells (bh.e ⟨false,[],0⟩)) 0 (cells (Da.agg [Da.bool true,Da.slice 1 [],Da.int .u64 (ag .u64 (ag .u64 (1*2 ^ min (Int.toNat (me.params.length:Int)) (IntKind.bits .u64)) - 1))]))))=(EN me).map SV.e:=by
  rw[hset,hrep];unfold EN;rw[List.map_set];rfl
 show itL (dz _ _ _ _ _) _ (_,_,_,_,_,(List.replicate me.code.length (Da.agg [Da.bool false,Da.slice 1 [],Da.int .u64 0])).set 0 (Da.agg (splice (cells (bh.e ⟨false,[],0⟩)) 0 (cells (Da.agg [Da.bool true,Da.slice 1 [],Da.int .u64 (ag .u64 (ag .u64 (1*2 ^ min (Int.toNat ((me.params.map iE).length:Int)) (IntKind.bits .u64)) - 1))])))),_)=_;rw[lβ,hs1];refine Eq.trans key ?_;unfold jG;cases hg:oH c t me (256*me.code.length+1) (EN me) [0]with
 |none=>rfl
 |some u=>
  have hu:=yV hf hg hs0 fun p hp=>by rw[List.mem_singleton.1 hp];exact hcn
  exact YA hf u hu (by omega)
def EF {c t}:∀{l:List Cm} {a b:Nat},wL c t a l=some b->∀x∈l,uS c t x=true
 |[],a,b,_,x,hx=>by cases hx
 |y::r,a,b,h,x,hx=>by
  unfold wL at h;revert h;cases aG 3000 (a+y.code.length:Nat)with
  |true=>intro h;cases h
  |false=>
   cases h2:uS c t y with
   |false=>intro h;cases h
   |true=>
    intro h;rcases lω.1 hx with rfl|hx
    ·exact h2
    ·exact EF h x hx
def EE {c}:∀{l:List Ct} {a b:Nat},Hf c a l=some b->∀t∈l,∀x∈t.methods,uS c t x=true
 |[],a,b,_,t,ht=>by cases ht
 |u::r,a,b,h,t,ht=>by
  unfold Hf at h;cases h1:wL c u a u.methods with
  |none=>rw[h1]at h;cases h
  |some k=>
   rw[h1]at h;rcases lω.1 ht with rfl|ht
   ·exact EF h1
   ·exact EE h t ht
def sL {c}(h:CP c=true):∀t∈c,∀x∈t.methods,uS c t x=true:=by
 unfold CP at h;simp only[lγ]at h;obtain⟨b,hb⟩:=Option.isSome_iff_exists.1 h.2.2.2;exact EE hb
def SE {c a b q}(h:fA c a b=some q):∃t∈c,q∈t.methods:=by
 unfold fA at h;cases ht:dj c a with
 |none=>rw[ht]at h;cases h
 |some t=>
  rw[ht,Option.bind_some]at h;have mem:∀{α:Type} {l:List α} {x:Int} {y:α},dj l x=some y->y∈l:=fun {α l x y} h=>by
   unfold dj at h;by_cases h0:0<=x
   ·rw[if_pos h0]at h;exact mδ h
   ·rw[if_neg h0]at h;cases h
  exact⟨t,mem ht,mem h⟩
def zU {c t m}(hc:AJ c)(ht:t∈c)(hm:m∈t.methods)(h:uS c t m=true):HI c t m:=by
 unfold uS at h;simp only[lγ,Bool.not_eq_true',bX,lζ,lδ,cE,mε]at h;obtain⟨h1,-,-,h2,-,-,h3,h4,h5⟩:=h;exact⟨(hc.s t ht).s m hm,by omega,by omega,h3,by omega,h5,fun x _ q hq=>by obtain⟨u,hu,hq⟩:=SE hq;exact((hc.s u hu).s q hq).p⟩
def Hi (c:List Ct):Int:=bif CP c then(bif c.all fun t=>t.methods.all fun m=>(jG c t m).isSome then 0 else 16)else 1
def č {c:List Ct}{t:Ct}(hz:Yy t)(hf:∀x∈t.methods,HI c t x)(l1:LD)(i2 i3:Int)(hm:400000<=m)(k0 k1:_->R){Er:R}(hk0:∀x,k0 x=Er):itL (fG (dC lay0.tab m) m k0 k1) m (l1,i2,i3,t.methods.map Cm.e,(t.methods.length:Int),0,de c,t.r)=bif t.methods.all fun x=>(jG c t x).isSome then k1 (l1,i2,i3,t.methods.map Cm.e,(t.methods.length:Int),(t.methods.length:Int),de c,t.r)else Er:=by
 have:=hz.m;refine(bA t.methods (fun q i=>itL (fG (dC lay0.tab m) m k0 k1) q (l1,i2,i3,t.methods.map Cm.e,(t.methods.length:Int),i,de c,t.r)) (fun x=>!(jG c t x).isSome) (fun _=>Er) (k1 (l1,i2,i3,t.methods.map Cm.e,(t.methods.length:Int),(t.methods.length:Int),de c,t.r)) (fun q i hi=>?_) (fun q=>?_) (by omega)).trans ?_
 ·rw[bb];have h:=aa (Η (hf _ (lρ hi)) (m:=m) hm);simp only[fG,hZ (show(i:Int)<(t.methods.length:Int) by omega),be,aU,bf,bw hi,bG,FQ,wS (show i<eH by unfold eH;omega),hk0];refine(h _).trans ?_;simp only[c3,aR,aY,oU,aJ,aB];cases(jG c t t.methods[i]).isSome<;>rfl
 ·rw[bb];simp only[fG,eT,bo]
 ·rw[gL];cases t.methods.findIdx? fun x=>!(jG c t x).isSome<;>rfl
def wO {c:List Ct}(hc:AJ c)(hm:400001<=m):Ω m 29 [.p (de c).e] []=some (pI (Hi c),[]):=by
 replace hm:=ei hm;obtain⟨m,rfl,hm⟩:=hm;apply Jz m (de c);unfold wV Hi;refine(aa (Rf c hc (m:=m) (by omega)) _).trans ?_;simp only[aY,aJ,aB];cases hf:CP c with
 |false=>rfl
 |true=>
  rw[be,cond_true];have hn:=hc.n;show itL (fF _ _ _ _) _ (c.map Ct.e,((c.map Ct.e).length:Int),0,de c)=_;rw[lβ];refine(bA c (fun q i=>itL (fF (dC lay0.tab m) m _ _) q (c.map Ct.e,(c.length:Int),i,de c)) (fun t=>!t.methods.all fun x=>(jG c t x).isSome) (fun _=>some (pI 16,[])) (some (pI 0,[])) (fun q i hi=>?_) (fun q=>?_) (by omega)).trans ?_
  ·rw[bb];have ht:=lρ hi;simp only[fF,hZ (show(i:Int)<(c.length:Int) by omega),be,aU,bf,bw hi,bG,Cs,show c[i].r.Methods=c[i].methods.map Cm.e from rfl,lβ];rw[č (hc.s _ ht) (fun x hx=>zU hc ht hx (sL hf _ ht x hx)) _ _ _ hm _ _ (Er:=some (pI 16,[])) fun _=>rfl];cases c[i].methods.all fun x=>(jG c c[i] x).isSome
   ·rfl
   ·simp only[wS (show i<eH by unfold eH;omega)];rfl
  ·rw[bb];simp only[fF,eT,bo]
  ·rw[gL];cases c.findIdx? fun t=>!t.methods.all fun x=>(jG c t x).isSome<;>rfl
def SJ (c:List Ct)(a b:Int):Option (Ct×Cm):=(dj c a).bind fun t=>(dj t.methods b).map fun q=>(t,q)
def UB (c:List Ct)(a b:Int):List SV:=bif az (Hi c) 0 then(match SJ c a b with|none=>[]|some p=>(jG c p.1 p.2).getD [])else[]
variable {α:Type}
def jI {l:List α}{x:Int}(h:x<0\/(l.length:Int)<=x):dj l x=none:=by
 unfold dj;by_cases h0:0<=x
 ·rw[if_pos h0,lτ (by omega)]
 ·rw[if_neg h0]
def Cf {l:List α}{x:Int}(h1:aG x 0=false)(h2:aL (l.length:Int) x=false):∃y,dj l x=some y/\y∈l:=by
 rw[bX,lζ]at h1;rw[bj,lζ]at h2;exact iR ⟨by omega,by omega⟩
def Č {c}(h:Hi c=0):CP c=true/\∀t∈c,∀m∈t.methods,∃s,jG c t m=some s:=by
 unfold Hi at h;cases hf:CP c with
 |false=>rw[hf]at h;cases h
 |true=>
  rw[hf,cond_true]at h;refine⟨rfl,?_⟩;cases ha:c.all fun t=>t.methods.all fun m=>(jG c t m).isSome with
  |false=>rw[ha]at h;cases h
  |true=>
   intro t ht m hm;exact Option.isSome_iff_exists.1 (mε.1 (mε.1 ha t ht) m hm)
def Jc {c:List Ct}(hc:AJ c)(a b:Int)(hm:400002<=m):Ω m 86 [.p (de c).e,pI a,pI b] []=some (pL 3 ((UB c a b).map SV.e),[]):=by
 replace hm:=ei hm;obtain⟨m,rfl,hm⟩:=hm;apply JE m (de c) a b;unfold w5 UB;refine(aa (wO hc (m:=m) (by omega)) _).trans ?_;simp only[aY,bW,aB];cases hv:az (Hi c) 0 with
 |false=>rfl
 |true=>
  have hv0:=Č (eqI_t.1 hv);rw[Bool.not_true,bo,cond_true,show(de c).Types=c.map Ct.e from rfl,lβ];unfold SJ;cases h1:aG a 0 with
  |true=>rw[bX,lδ]at h1;rw[jI (.inl h1)];rfl
  |false=>
  cases h2:aL (c.length:Int) a with
  |true=>rw[bj,lδ]at h2;rw[jI (.inr h2)];rfl
  |false=>
  obtain⟨t,ht,htm⟩:=Cf h1 h2;rw[ht,Option.bind_some];cases h3:aG b 0 with
  |true=>rw[bX,lδ]at h3;rw[jI (.inl h3)];rfl
  |false=>
  simp only[bo,aU,bf,ht,bG,Cs,show t.r.Methods=t.methods.map Cm.e from rfl,lβ];cases h4:aL (t.methods.length:Int) b with
  |true=>rw[bj,lδ]at h4;rw[jI (.inr h4)];rfl
  |false=>
   obtain⟨q,hq,hqm⟩:=Cf h3 h4;rw[hq,bo,bG,FQ];refine(aa (Η (zU hc htm hqm (sL hv0.1 t htm q hqm)) (m:=m) (by omega)) _).trans ?_;simp only[c3,aR,aY,oU,aJ,aB];show iL _ _ _=some (pL 3 (((jG c t q).getD []).map SV.e),[]);cases(jG c t q).isSome<;>rfl
def U7 (c:List Ct)(a b p:Int):List Bool:=match dj (UB c a b) p,SJ c a b with
 |some v,some q=>(List.range q.2.locals.length).map fun i=>v.set.testBit i
 |_,_=>[]
def HY {m:Nat}(L:List SV)(p:Int)(v:SV)(hv:dj L p=some v)(h2:v.set<256)(n:Nat)(hn:n<60)(k0:_->R):∀(d q i:Nat),i+d=n->d<q->itL (fk (dC lay0.tab m) m k0) q (p,L.map SV.e,n,(n:Int),(i:Int),((List.range i).map fun j=>Da.bool (v.set.testBit j))++List.replicate d (Da.bool false))=k0 (p,L.map SV.e,n,(n:Int),(n:Int),(List.range n).map fun j=>Da.bool (v.set.testBit j))
 |0,q+1,i,h,_=>by
  obtain rfl:i=n:=by omega
  rw[bb];simp only[fk,eT,bo,List.replicate_zero,mκ]
 |d+1,q+1,i,h,hq=>by
  have h0:aL 0 (i:Int)=true:=by rw[bj];exact lν (by omega)
  have h1:aG (i:Int) 0=false:=Q5 (by omega);have hl:((List.range i).map fun j=>Da.bool (v.set.testBit j)).length=i:=by rw[lβ,List.length_range]
  have hg:(((List.range i).map fun j=>Da.bool (v.set.testBit j))++List.replicate (d+1) (Da.bool false))[0+i]?=some (Da.bool false):=by
   rw[Nat.zero_add,lσ (by omega),hl,Nat.sub_self];rfl
  have hs:∀x:Bool,(((List.range i).map fun j=>Da.bool (v.set.testBit j))++List.replicate (d+1) (Da.bool false)).set (0+i) (Da.bool x)=((List.range i).map fun j=>Da.bool (v.set.testBit j))++Da.bool x::List.replicate d (Da.bool false):=fun x=>by
   rw[Nat.zero_add,List.set_append_right _ _ (by omega),hl,Nat.sub_self];rfl
  have hr:((List.range (i+1)).map fun j=>Da.bool (v.set.testBit j))=((List.range i).map fun j=>Da.bool (v.set.testBit j))++[Da.bool (v.set.testBit i)]:=by rw[List.range_succ,List.map_append];rfl
  have ih:=HY (m:=m) L p v hv h2 n hn k0 d q (i+1) (by omega) (by omega);rw[hr,mξ]at ih;rw[bb];simp only[fk,hZ (show(i:Int)<(n:Int) by omega),be,aU,bf,hv,bG,show PQ v.e=true from rfl,YQ,h0,h1,bo,Int.toNat_natCast,YF h2 (show i<64 by omega),hg,show Nat.beq (List.length (cells (Da.bool false))) 1=true from rfl,show ∀x,eK (Da.bool false) (cells (Da.bool x))=some (Da.bool x)from fun _=>rfl,hs,wS (show i<eH by unfold eH;omega)];cases hb:v.set.testBit i with
  |true=>rw[hb]at ih;exact ih
  |false=>rw[hb]at ih;exact ih
def AN {c:List Ct}(hc:AJ c)(a b p:Int)(hm:400003<=m):Ω m 46 [.p (de c).e,pI a,pI b,pI p] []=some (pL 1 ((U7 c a b p).map Da.bool),[]):=by
 replace hm:=ei hm;obtain⟨m,rfl,hm⟩:=hm;apply BV m (de c) a b p;unfold rh U7;refine(aa (Jc hc a b (m:=m) (by omega)) _).trans ?_;simp only[aY,oU,aB,lβ];cases h1:aG p 0 with
 |true=>rw[bX,lδ]at h1;rw[jI (.inl h1)];rfl
 |false=>
 cases h2:aL ((UB c a b).length:Int) p with
 |true=>rw[bj,lδ]at h2;rw[jI (.inr h2)];rfl
 |false=>
 obtain⟨v,hv,hvm⟩:=Cf h1 h2;rw[hv,bo,bo];unfold UB at hvm;cases h3:az (Hi c) 0 with
 |false=>rw[h3]at hvm;cases hvm
 |true=>
 rw[h3,cond_true]at hvm;cases h4:SJ c a b with
 |none=>rw[h4]at hvm;cases hvm
 |some q=>
 rw[h4]at hvm;obtain⟨t,me⟩:=q;unfold SJ at h4;cases h5:dj c a with
 |none=>rw[h5]at h4;cases h4
 |some t'=>
 rw[h5,Option.bind_some]at h4;cases h6:dj t'.methods b with
 |none=>rw[h6]at h4;cases h4
 |some me'=>
 rw[h6]at h4;cases h4;have mem:∀{α:Type} {l:List α} {x:Int} {y:α},dj l x=some y->y∈l:=fun {α l x y} h=>by
  unfold dj at h;by_cases h0:0<=x
  ·rw[if_pos h0]at h;exact mδ h
  ·rw[if_neg h0]at h;cases h
 have hv0:=Č (eqI_t.1 h3);have hfo:=zU hc (mem h5) (mem h6) (sL hv0.1 _ (mem h5) _ (mem h6));obtain⟨s,hs⟩:=hv0.2 _ (mem h5) _ (mem h6);have hl8:=hfo.l;have hvs:v.set<256:=((FB hfo hs).v v (by simp only[hs]at hvm;exact hvm)).2;simp only[show(de c).Types=c.map Ct.e from rfl,aU,bf,h5,bG,show PQ t.e=false from rfl,bo,Cs,show t.r.Methods=t.methods.map Cm.e from rfl,h6,FQ,show me.r.Locals=me.locals.map iE from rfl,lβ,Int.toNat_natCast];have hc1:(aL 0 (me.locals.length:Int)&&aL (me.locals.length:Int) (me.locals.length:Int)&&Nat.ble (me.locals.length*1) 281474976710656&&aL (me.locals.length:Int) 9223372036854775807)=true:=by
  simp only[lγ,bj,Nat.ble_eq,lδ];omega
 rw[hc1,be];refine(HY (UB c a b) p v hv hvs me.locals.length (by omega) _ me.locals.length m 0 (by omega) (by omega)).trans ?_;simp only[List.drop_zero];rw[lκ (by rw[lβ,List.length_range];omega),List.map_map];rfl
def QG {a b c:Nat}(h1:a &&& b=a)(h2:b &&& c=b):a &&& c=a:=by
 rw[<-h1,Nat.and_assoc,h2]
def LeS (s s':List SV):Prop:=∀(i:Nat) (v:SV),s[i]?=some v->v.r=true->∃v':SV,s'[i]?=some v'/\v'.r=true/\v'.st=v.st/\v'.set &&& v.set=v'.set
def LeS.rfl' (s:List SV):LeS s s:=fun i v h hr=>⟨v,h,hr,rfl,Nat.and_self _⟩
def LeS.tr {a b c:List SV}(h1:LeS a b)(h2:LeS b c):LeS a c:=fun i v h hr=>by
 obtain⟨u,hu,hur,hus,hss⟩:=h1 i v h hr;obtain⟨w,hw,hwr,hws,hwt⟩:=h2 i u hu hur;exact⟨w,hw,hwr,hws.trans hus,QG hwt hss⟩
def Has (s:List SV)(to:Nat)(st:LI)(set:Nat):Prop:=∃u:SV,s[to]?=some u/\u.r=true/\u.st=st/\u.set &&& set=u.set
variable {st:LI}
def Has.mono {s s':List SV}{to:Nat}{set:Nat}(h:Has s to st set)(hl:LeS s s'):Has s' to st set:=by
 obtain⟨u,hu,hr,hs,hb⟩:=h;obtain⟨w,hw,hwr,hws,hwb⟩:=hl to u hu hr;exact⟨w,hw,hwr,hws.trans hs,QG hwb hb⟩
structure Jy (s s':List SV)(w w':LN):Prop where
 l:LeS s s'
 c:∀i:Nat,s'[i]?=s[i]?\/i∈w'
 w:∀p∈w,p∈w'
def Ur {set:Nat}{to:Int}{s s':List SV}{w w':LN}(h:D1 st set to s w=some (s',w')):Jy s s' w w'/\Has s' to.toNat st set:=by
 unfold D1 at h;cases hv:s[to.toNat]? with
 |none=>rw[hv]at h;cases h
 |some v=>
  rw[hv]at h;have hl:=(List.getElem?_eq_some_iff.1 hv).1;have at':∀u:SV,(s.set to.toNat u)[to.toNat]?=some u:=fun u=>by rw[mψ hl]
  have ne':∀(u:SV) i,i≠to.toNat->(s.set to.toNat u)[i]?=s[i]?:=fun u i hi=>mρ (fun e=>hi e.symm)
  have ch:∀(u:SV) i,(s.set to.toNat u)[i]?=s[i]?\/i∈to.toNat::w:=fun u i=>by
   by_cases hi:i=to.toNat
   ·exact .inr (hi▸lυ)
   ·exact .inl (ne' u i hi)
  revert h
  show(bif v.r then _ else _)=_->_;cases hr:v.r with
  |true=>
   by_cases e1:v.st=st
   ·by_cases e2:v.set &&& set=v.set
    ·simp only[lν e1,lν e2,cond_true];rintro h;cases h;exact⟨⟨LeS.rfl' s,fun i=> .inl rfl,fun p h=>h⟩,v,hv,hr,e1,e2⟩
    ·simp only[lν e1,mθ e2,cond_true,cond_false];rintro h;cases h;refine⟨⟨fun i u hu hur=>?_,ch _,fun p hp=>mα _ hp⟩,_,at' _,rfl,e1,?_⟩
     ·by_cases hi:i=to.toNat
      ·subst hi;rw[hv]at hu;cases hu;refine⟨_,at' _,rfl,rfl,?_⟩;show(v.set &&& set) &&& v.set=v.set &&& set;rw[Nat.and_assoc,Nat.and_comm set,<-Nat.and_assoc,Nat.and_self]
      ·exact⟨u,(ne' _ i hi).trans hu,hur,rfl,Nat.and_self _⟩
     ·show(v.set &&& set) &&& set=v.set &&& set;rw[Nat.and_assoc,Nat.and_self]
   ·simp only[mθ e1,cond_true,cond_false];rintro h;cases h
  |false=>
   rintro h;cases h
   refine⟨⟨fun i u hu hur=>?_,ch _,fun p hp=>mα _ hp⟩,_,at' _,rfl,rfl,Nat.and_self _⟩
   by_cases hi:i=to.toNat
   ·subst hi;rw[hv]at hu;cases hu;rw[hr]at hur;cases hur
   ·exact⟨u,(ne' _ i hi).trans hu,hur,rfl,Nat.and_self _⟩
def Jy.tr {a b c:List SV}{u v w:LN}(h1:Jy a b u v)(h2:Jy b c v w):Jy a c u w:=
 ⟨h1.l.tr h2.l,fun i=>by
  rcases h2.c i with h|h
  ·rcases h1.c i with g|g
   ·exact .inl (h.trans g)
   ·exact .inr (h2.w i g)
  ·exact .inr h,fun p h=>h2.w p (h1.w p h)⟩
def D2 {st:LI}{set:Nat}:∀{tos:LI} {s s':List SV} {w w':LN},lm st set tos s w=some (s',w')->Jy s s' w w'/\∀to∈tos,Has s' to.toNat st set
 |[],s,s',w,w',h=>by cases h;exact⟨⟨LeS.rfl' s,fun i=> .inl rfl,fun p h=>h⟩,fun _ h=>by cases h⟩
 |to::r,s,s',w,w',h=>by
  unfold lm at h;cases hp:D1 st set to s w with
  |none=>rw[hp]at h;cases h
  |some p=>
   rw[hp]at h;obtain⟨q1,q2⟩:=Ur (s':=p.1) (w':=p.2) hp;obtain⟨r1,r2⟩:=D2 h;refine⟨q1.tr r1,fun k hk=>?_⟩
   rcases lω.1 hk with rfl|hk
   ·exact q2.mono r1.l
   ·exact r2 k hk
def Con (c:List Ct)(t:Ct)(m:Cm)(s:List SV)(pc:Nat):Prop:=∀(x:Cd) (v:SV),m.code[pc]?=some x->s[pc]?=some v->∃st',tZ c t m x v.st=some (st',true)/\(eM m pc x).2=true/\∀to∈(eM m pc x).1,Has s to.toNat st' (lA x v.set)
def Con.mono {c t m s s' pc}(h:Con c t m s pc)(hl:LeS s s')(he:s'[pc]?=s[pc]?):Con c t m s' pc:=fun x v hx hv=>by
 obtain⟨st',h1,h2,h3⟩:=h x v hx (he▸hv);exact⟨st',h1,h2,fun to hto=>(h3 to hto).mono hl⟩
def HU {c t m}(hf:HI c t m):∀{e:Nat} {s s':List SV} {w:LN},oH c t m e s w=some s'->yO m s->(∀p∈w,p<m.code.length)->w.length+GJ s<=e->(∀(pc:Nat) (v:SV),s[pc]?=some v->v.r=true->pc∈w\/Con c t m s pc)->LeS s s'/\∀(pc:Nat) (v:SV),s'[pc]?=some v->v.r=true->Con c t m s' pc
 |e,s,s',[],h,hs,hp,he,hi=>by
  have:oH c t m e s []=some s:=by cases e<;>rfl
  rw[this]at h;cases h;exact⟨LeS.rfl' s,fun pc v hv hr=>(hi pc v hv hr).resolve_left (by simp)⟩
 |0,s,s',pc::w,h,hs,hp,he,hi=>by simp only[List.length_cons]at he;omega
 |e+1,s,s',pc::w,h,hs,hp,he,hi=>by
  have hpc:pc<m.code.length:=hp pc lυ;have hps:pc<s.length:=by rw[hs.n];exact hpc
  have hin:=hf.i _ (lρ hpc);have hv:=hs.v _ (lρ hps);simp only[List.length_cons]at he;unfold oH at h;rw[lε hpc,lε hps]at h;simp only at h;revert h;split
  ·rename_i st hr;cases h2:(eM m pc m.code[pc]).2 with
   |false=>intro h;cases h
   |true=>
    rw[cond_true];cases hpr:lm st (lA m.code[pc] s[pc].set) (eM m pc m.code[pc]).1 s w with
    |none=>intro h;cases h
    |some p=>
     intro h;obtain⟨o1,o2,-,o4⟩:=sW (s':=p.1) (w':=p.2) (yT hr) (G5 hin hf.l hv.2) hpr hs fun x hx=>hp x (mα _ hx)
     obtain⟨i1,i2⟩:=D2 (s':=p.1) (w':=p.2) hpr;have key:∀(k:Nat) (v:SV),p.1[k]?=some v->v.r=true->k∈p.2\/Con c t m p.1 k:=fun k v hk hkr=>by
      rcases i1.c k with hc|hc
      ·by_cases hkp:k=pc
       ·subst hkp;refine .inr fun x u hx hu=>?_
        rw[lε hpc]at hx;cases hx;rw[hc,lε hps]at hu;cases hu;exact⟨st,hr,h2,i2⟩
       ·rcases hi k v (hc▸hk) hkr with hm|hm
        ·rcases lω.1 hm with e|hm
         ·exact absurd e hkp
         ·exact .inl (i1.w k hm)
        ·exact .inr (hm.mono i1.l hc)
      ·exact .inl hc
     obtain⟨r1,r2⟩:=HU hf h o1 o4 (by omega) key;exact⟨i1.l.tr r1,r2⟩
  ·intro h;cases h
structure Í (c:List Ct)(t:Ct)(m:Cm)(s:List SV):Prop where
 o:yO m s
 z:∃v:SV,s[0]?=some v/\v.st=[]/\v.set &&& (2 ^ m.params.length - 1)=v.set
 c:∀(pc:Nat) (x:Cd) (v:SV),m.code[pc]?=some x->s[pc]?=some v->∃st',tZ c t m x v.st=some (st',true)/\(eM m pc x).2=true/\∀to∈(eM m pc x).1,Has s to.toNat st' (lA x v.set)
 l:∀(pc:Nat) (x:Cd) (v:SV),m.code[pc]?=some x->s[pc]?=some v->x.op=2->v.set.testBit x.a.toNat=true

def Fv (k:Int)(v:Va):Prop:=rp v k=true/\lB v.n/\∀x∈v.I,lB x
def QW (v:Va):ra v=true↔(0<=v.k/\v.k<=5)/\(v.n=0\/v.k=1\/(v.k=2/\v.n=1))/\(v.s=[]\/v.k=3)/\(v.I=[]\/v.k=4)/\(v.L=[]\/v.k=5)/\v.s.length<=64/\v.I.length<=16/\v.L.length<=16/\∀t∈v.L,t.length<=64:=by
 have e0:∀{α:Type} (l:List α),(0<(l.length:Int)->False)↔l=[]:=fun l=>by
  cases l with
  |nil=>simp
  |cons a r=>simp
 unfold ra xz xA HZ t8 j3;simp only[lγ,Bool.not_eq_true',qε,Bool.and_eq_false_iff,Bool.not_eq_false',bX,cE,ma,lζ,lδ,mε,Bool.not_eq_eq_eq_not,Bool.not_true,Bool.not_false];constructor
 ·rintro⟨⟨h1,h2⟩,h3,⟨h4,h5,h6⟩,⟨h7,h8,h9⟩,h10⟩
  refine⟨by omega,?_,?_,?_,?_,by omega,by omega,by omega,fun t ht=>by have:=h10 t ht;omega⟩
  ·rcases h3 with h|h|h
   ·exact .inl h
   ·exact .inr (.inl h)
   ·exact .inr (.inr h)
  ·exact h4
  ·rcases h5 with h|h
   ·exact .inl ((e0 v.I).1 h)
   ·exact .inr h
  ·rcases h6 with h|h
   ·exact .inl ((e0 v.L).1 h)
   ·exact .inr h
 ·rintro⟨h1,h3,h4,h5,h6,h7,h8,h9,h10⟩
  refine⟨⟨by omega,by omega⟩,?_,⟨h4,?_,?_⟩,⟨by omega,by omega,by omega⟩,fun t ht=>by have:=h10 t ht;omega⟩
  ·rcases h3 with h|h|h
   ·exact .inl h
   ·exact .inr (.inl h)
   ·exact .inr (.inr h)
  ·rcases h5 with h|h
   ·exact .inl ((e0 v.I).2 h)
   ·exact .inr h
  ·rcases h6 with h|h
   ·exact .inl ((e0 v.L).2 h)
   ·exact .inr h
def k6 (k:Int)(v:Va):Fv k v↔(v.k=k/\(0<=k/\k<=5)/\(v.n=0\/k=1\/(k=2/\v.n=1))/\(v.s=[]\/k=3)/\(v.I=[]\/k=4)/\(v.L=[]\/k=5)/\v.s.length<=64/\v.I.length<=16/\v.L.length<=16/\∀t∈v.L,t.length<=64)/\lB v.n/\∀x∈v.I,lB x:=by
 unfold Fv rp;rw[lγ,QW,eqI_t];constructor
 ·rintro⟨⟨rfl,h⟩,h2⟩;exact⟨⟨rfl,h⟩,h2⟩
 ·rintro⟨⟨rfl,h⟩,h2⟩;exact⟨⟨rfl,h⟩,h2⟩
def xQ {k:Int}{v:Va}(h:Fv k v):Wk v:=by
 obtain⟨⟨h0,h1,h2,h3,h4,h5,h6,h7,h8,h9⟩,h10,h11⟩:=(k6 k v).1 h;exact⟨h10,h11,h6,h7,h8,h9,fun e=>h5.resolve_right (by omega),fun e=>h4.resolve_right (by omega),fun e=>h3.resolve_right (by omega)⟩
def VN:Wk v0:=⟨EK,(fun x hx=>by cases hx),by simp[v0],by simp[v0],by simp[v0],(fun x hx=>by cases hx),fun _=>rfl,fun _=>rfl,fun _=>rfl⟩
section
structure Mc where
 (ty me pc:Int)
 ls:List Va
def Mc.r (m:Mc):bd:=⟨m.ty,m.me,m.pc,m.ls.map Va.e⟩
def Mc.e (m:Mc):Da:=m.r.e
def wM (c:List Ct)(a:Int):Option Ct:=bif az (Hi c) 0 then dj c a else none
def t0:Ct:=⟨[],[],[]⟩
def m0:Cm:=⟨[],[],0,[],[]⟩
def nJ {l:List α}{x:Int}{y:α}(h:dj l x=some y):y∈l:=by
 unfold dj at h;by_cases h0:0<=x
 ·rw[if_pos h0]at h;exact mδ h
 ·rw[if_neg h0]at h;cases h
def ZJ {c:List Ct}{a:Int}{t:Ct}(h:wM c a=some t):Hi c=0/\dj c a=some t/\t∈c:=by
 unfold wM at h;cases hb:az (Hi c) 0 with
 |false=>rw[hb]at h;cases h
 |true=>rw[hb,cond_true]at h;exact⟨eqI_t.1 hb,h,nJ h⟩
def ĵ (o:Option Ct):R:=some (.tup [.p (o.getD t0).e,pB o.isSome],[])
def Ĵ (o:Option Cm):R:=some (.tup [.p (o.getD m0).e,pB o.isSome],[])
section
variable {m:Nat} {c:List Ct} (hc:AJ c)
include hc
def wT (a:Int)(hm:400002<=m):Ω m 51 [.p (de c).e,pI a] []=ĵ (wM c a):=by
 replace hm:=ei hm;obtain⟨m,rfl,hm⟩:=hm;apply JT m (de c) a;unfold xj wM;refine(aa (wO hc (m:=m) (by omega)) _).trans ?_;simp only[aY,bW,aB];cases hv:az (Hi c) 0 with
 |false=>rfl
 |true=>
  rw[Bool.not_true,bo,cond_true,show(de c).Types=c.map Ct.e from rfl,lβ];cases h1:aG a 0 with
  |true=>rw[bX,lδ]at h1;rw[jI (.inl h1)];rfl
  |false=>
  cases h2:aL (c.length:Int) a with
  |true=>rw[bj,lδ]at h2;rw[jI (.inr h2)];rfl
  |false=>
  obtain⟨t,ht,htm⟩:=Cf h1 h2;rw[bo,bo,aU,bf,ht,bG,Cs];rfl
def la (c:List Ct)(a b:Int):Option Cm:=(wM c a).bind fun t=>dj t.methods b
def rg (x:Mc)(hm:400003<=m):Ω m 45 [.p (de c).e,.p x.e] []=Ĵ (la c x.ty x.me):=by
 replace hm:=ei hm;obtain⟨m,rfl,hm⟩:=hm;apply BW m (de c) x.r;unfold ri la;refine(aa (wT hc x.ty (m:=m) (by omega)) _).trans ?_;simp only[c3,aR,aY,Cs,aJ,aB];cases ht:wM c x.ty with
 |none=>rfl
 |some t=>
  rw[Option.bind_some];show iL true (iL (aG x.me 0) _ (iL (aL ((t.methods.map Cm.e).length:Int) x.me) _ (cL (bU (t.methods.map Cm.e) x.me) _))) _=_;rw[be,lβ];cases h1:aG x.me 0 with
  |true=>rw[bX,lδ]at h1;rw[jI (.inl h1)];rfl
  |false=>
  cases h2:aL (t.methods.length:Int) x.me with
  |true=>rw[bj,lδ]at h2;rw[jI (.inr h2)];rfl
  |false=>
  obtain⟨q,hq,-⟩:=Cf h1 h2;rw[bo,bo,aU,bf,hq,bG,FQ];rfl
omit hc
def Rn (v:Va)(f:Fe)(hm:1505<=m):Ω m 53 [.p v.e,.p f.e] []=dX (rp v f.kind):=by
 replace hm:=ei hm;obtain⟨m,rfl,hm⟩:=hm;apply RI m v.r f.r;unfold Hw;refine(aa (yD v f.kind (m:=m) hm) _).trans ?_;simp only[aY,aJ,aB]
def Rm (l:List Va)(fs:List Fe)(hl:l.length<1501)(hm:1507<=m):Ω m 52 [pL 5 (l.map Va.e),pL 7 (fs.map Fe.e),.p (.fn 53 [])] []=dX (uw l (fs.map Fe.kind)):=by
 replace hm:=ei hm;obtain⟨m,rfl,hm⟩:=hm;apply RH m (l.map Va.e) (fs.map Fe.e);unfold Hv;rw[lβ,lβ,cE,pp];by_cases h:(l.length:Int)=(fs.length:Int)
 ·have h':l.length=fs.length:=by omega
  rw[if_pos h,CM l (fs.map Fe.kind) (by rw[lβ];exact h')];have hz:(l.zip fs).length=l.length:=by rw[qα];omega
  refine(bA (l.zip fs) (fun q i=>itL (jX _ m _ _) q (fs.map Fe.e,l.map Va.e,(l.length:Int),i)) (fun p=>!rp p.1 p.2.kind) (fun _=>some (pB false,[])) (some (pB true,[])) (fun q i hi=>?_) (fun q=>?_) (by omega)).trans ?_
  ·rw[hz]at hi;rw[bb];simp only[jX,hZ (show((i:Int)<(l.length:Int)) by omega),be,aU,bf,bw hi,bw (show i<fs.length by omega),bG,Va.e,FT,YN,wS (show i<eH by unfold eH;omega),List.getElem_zip];refine(aa (Rn l[i] fs[i] (m:=m) (by omega)) _).trans ?_;simp only[aY,aJ,aB];cases rp l[i] fs[i].kind<;>rfl
  ·rw[bb,hz];simp only[jX,eT,bo]
  ·rw[show((l.zip (fs.map Fe.kind)).all fun p=>rp p.1 p.2)=(l.zip fs).all fun p=>rp p.1 p.2.kind by rw[List.zip_map_right,List.all_map];rfl,gL];cases(l.zip fs).findIdx? fun p=>!rp p.1 p.2.kind<;>rfl
 ·rw[if_neg h,CL l _ (by rw[lβ];omega)]
def QV (c:List Ct)(a:Int)(l:List Va):Bool:=match wM c a with|none=>false|some t=>uw l (t.fields.map Fe.kind)
include hc
def VV (a:Int)(l:List Va)(hl:l.length<1501)(hm:400003<=m):Ω m 19 [.p (de c).e,pI a,pL 5 (l.map Va.e)] []=dX (QV c a l):=by
 replace hm:=ei hm;obtain⟨m,rfl,hm⟩:=hm;apply Wb m (de c) a (l.map Va.e);unfold MQ QV;refine(aa (wT hc a (m:=m) (by omega)) _).trans ?_;simp only[c3,aR,aY,Cs,aJ,aB];cases ht:wM c a with
 |none=>rfl
 |some t=>
  rw[show(some t).isSome=true from rfl,be];refine(aa (Rm l t.fields hl (m:=m) (by omega)) _).trans ?_;simp only[aY,aJ];exact bM _ _
def acA (c:List Ct)(a:Int):List Va:=match wM c a with|none=>[]|some t=>t.fields.map Fe.init
omit hc
def adC (fs:List Fe)(hl:fs.length<1501)(hv:∀f∈fs,Lg f.init)(hm:3<=m):∀(d q i:Nat),i+d=fs.length->d<q->itL (q6 (dC lay0.tab m) m (fun(n46,l47,i48,i49,b50,l51)=>
  some ((pL 5 (List.take n46 (List.drop 0 l51))),[]))) q (i,fs.map Fe.e,(fs.length:Int),(i:Int),((fs.take i).map Fe.init).map Va.e)=some (pL 5 ((fs.map Fe.init).map Va.e),[])
 |0,q+1,i,h,_=>by
  obtain rfl:i=fs.length:=by omega
  rw[bb];simp only[q6,eT,bo,List.drop_zero,List.take_length];rw[lκ (by rw[lβ,lβ];exact Nat.le_refl _)]
 |d+1,q+1,i,h,hq=>by
  have hi:i<fs.length:=by omega
  have hlen:(((fs.take i).map Fe.init).map Va.e).length=i:=by rw[lβ,lβ,mγ];omega
  have ec:=aa (gQ (m:=m) fs[i].init (hv _ (lρ hi)) (by omega));simp only[Va.e,Va.c]at ec;have tk:((fs.take (i+1)).map Fe.init).map Va.e=((fs.take i).map Fe.init).map Va.e++[fs[i].init.e]:=by
   rw[List.take_add_one,lε hi,Option.toList_some,List.map_append,List.map_append];rfl
  have ih:=adC fs hl hv hm d q (i+1) (by omega) (by omega);rw[tk]at ih;have hbb:c8 (i+1) 80=true:=kX (by omega) (by omega);rw[bb];simp only[q6,hZ (show((i:Int)<(fs.length:Int)) by omega),be,aU,bf,bw hi,bG,YN,Fe.r,ec,Va.cl,Va.ch,nM,aR,aY,bW,iU,eC,aB,eE,hlen,List.length_singleton,Nat.beq_refl,hbb,wS (show i<eH by unfold eH;omega),mη,List.drop_zero];rw[lκ (l:=fs[i].init.I.map iE) (by rw[lβ];omega),lκ (l:=fs[i].init.L.map Da.str) (by rw[lβ];omega)];exact ih
include hc
def ad4 (a:Int)(hv:∀t∈c,∀f∈t.fields,Lg f.init)(hm:400003<=m):Ω m 22 [.p (de c).e,pI a] []=some (pL 5 ((acA c a).map Va.e),[]):=by
 replace hm:=ei hm;obtain⟨m,rfl,hm⟩:=hm;apply aec m (de c) a;unfold abI acA;refine(aa (wT hc a (m:=m) (by omega)) _).trans ?_;simp only[c3,aR,aY,Cs,aJ,aB];have run:∀fs:List Fe,fs.length<1501->(∀f∈fs,Lg f.init)->itL (q6 (dC lay0.tab m) m (fun(n46,l47,i48,i49,b50,l51)=>
  some ((pL 5 (List.take n46 (List.drop 0 l51))),[]))) m (0,fs.map Fe.e,((fs.map Fe.e).length:Int),0,[])=some (pL 5 ((fs.map Fe.init).map Va.e),[]):=fun fs h1 h2=>by
  rw[lβ];exact adC fs h1 h2 (by omega) fs.length m 0 (by omega) (by omega)
 cases ht:wM c a with
 |none=>exact run [] (by simp) (by simp)
 |some t=>
  have hmem:t∈c:=(ZJ ht).2.2;exact run t.fields (hc.s t hmem).f (hv t hmem)
omit hc
def Qb {c:List Ct}{a b:Int}{q:Cm}(hc:AJ c)(h:la c a b=some q):∃t s,Hi c=0/\dj c a=some t/\t∈c/\dj t.methods b=some q/\q∈t.methods/\HI c t q/\jG c t q=some s/\UB c a b=s/\SJ c a b=some (t,q)/\yO q s:=by
 unfold la at h;cases ht:wM c a with
 |none=>rw[ht]at h;cases h
 |some t=>
  rw[ht,Option.bind_some]at h;obtain⟨h1,h2,h3⟩:=ZJ ht;have hv:=Č h1;have hm:=nJ h;have hf:=zU hc h3 hm (sL hv.1 t h3 q hm);obtain⟨s,hs⟩:=hv.2 t h3 q hm;have hct:SJ c a b=some (t,q):=by unfold SJ;rw[h2,Option.bind_some,h];rfl
  refine⟨t,s,h1,h2,h3,h,hm,hf,hs,?_,hct,FB hf hs⟩;unfold UB;rw[show az (Hi c) 0=true from eqI_t.2 h1,cond_true,hct];show(jG c t q).getD []=s;rw[hs];rfl
def U8 {c:List Ct}{a b p:Int}{q:Cm}{s:List SV}{t:Ct}(h1:UB c a b=s)(h2:SJ c a b=some (t,q))(h3:s.length=q.code.length)(h4:0<=p/\p<q.code.length):∃v,dj s p=some v/\v∈s/\U7 c a b p=(List.range q.locals.length).map fun i=>v.set.testBit i:=by
 obtain⟨v,hv,hm⟩:=iR (l:=s) (x:=p) ⟨h4.1,by rw[h3];exact h4.2⟩
 refine⟨v,hv,hm,?_⟩;unfold U7;rw[h1,hv,h2]
def xC (q:Cm)(p:Int):Bool:=bif aG 0 p then(match dj q.code (p - 1)with|some x=>az x.op 30|none=>false)else true
def Dl (bs:List Bool)(ls:List Va)(ks:LI):Bool:=(bs.zip (ls.zip ks)).all fun p=>rp p.2.1 p.2.2||(!p.1&&fd p.2.1 v0)
def ot (c:List Ct)(x:Mc):Bool:=match la c x.ty x.me with
 |none=>false
 |some q=>!aG x.pc 0&&(!aL q.code.length x.pc&&(xC q x.pc&&(decide (x.ls.length=q.locals.length)&&Dl (U7 c x.ty x.me x.pc) x.ls q.locals)))
def VM {c:List Ct}{x:Mc}{q:Cm}(h:la c x.ty x.me=some q):ot c x=(!aG x.pc 0&&(!aL q.code.length x.pc&&(xC q x.pc&&(decide (x.ls.length=q.locals.length)&&Dl (U7 c x.ty x.me x.pc) x.ls q.locals)))):=by
 unfold ot;rw[h]
def VL {c:List Ct}{x:Mc}(h:la c x.ty x.me=none):ot c x=false:=by
 unfold ot;rw[h]
def MF (v:Va)(hm:1504<=m):Ω m 48 [.p v.e,.p (.agg [.int .i64 0,.int .i64 0,.str [],.slice 1 [],.slice 1 []])] []=dX (fd v v0):=by
 obtain⟨k,rfl⟩:=uz hm;exact su (n:=k) v v0 (.inr (by decide)) (.inr (by decide))
def UP (bs:List Bool)(x:Mc)(q:Cm)(h1:bs.length=x.ls.length)(h2:x.ls.length=q.locals.length)(h3:bs.length<1501)(hm:1600<=m):itL (dV (dC lay0.tab m) m (fun _=>dX false) (fun _=>dX true)) m (bs.map Da.bool,(bs.length:Int),0,x.r,q.r)=dX (Dl bs x.ls q.locals):=by
 have hl:(bs.zip (x.ls.zip q.locals)).length=bs.length:=by rw[qα,qα];omega
 refine(bA (bs.zip (x.ls.zip q.locals)) (fun k i=>itL (dV (dC lay0.tab m) m (fun _=>dX false) (fun _=>dX true)) k (bs.map Da.bool,(bs.length:Int),i,x.r,q.r)) (fun p=>!(rp p.2.1 p.2.2||(!p.1&&fd p.2.1 v0))) (fun _=>dX false) (dX true) (fun k i hi=>?_) (fun k=>?_) (by omega)).trans ?_
 ·rw[hl]at hi;have hi2:i<x.ls.length:=by omega
  have hi3:i<q.locals.length:=by omega
  rw[bb];simp only[dV,hZ (show(i:Int)<(bs.length:Int) by omega),be,aU,bf,bw hi,bG,show ∀b,zB (Da.bool b)=true from fun _=>rfl,aJ,show x.r.Locals=x.ls.map Va.e from rfl,show q.r.Locals=q.locals.map iE from rfl,bw hi2,bw hi3,show ∀k,zB (iE k)=false from fun _=>rfl,bo,dI,Va.e,FT,wS (show i<eH by unfold eH;omega),List.getElem_zip];have hf:=aa (yD x.ls[i] q.locals[i] (m:=m) (by omega));have hs:=aa (MF x.ls[i] (m:=m) (by omega));cases bs[i]with
  |true=>
   rw[be];refine(hf _).trans ?_;simp only[aY,aJ,aB];cases rp x.ls[i] q.locals[i]<;>rfl
  |false=>
   rw[bo];refine(hf _).trans ?_;simp only[aY,aJ,aB];cases rp x.ls[i] q.locals[i]with
   |true=>rfl
   |false=>
    rw[bo];refine(hs _).trans ?_;simp only[aY,aJ,aB];cases fd x.ls[i] v0<;>rfl
 ·rw[bb,hl];simp only[dV,eT,bo]
 ·unfold Dl;rw[gL];cases(bs.zip (x.ls.zip q.locals)).findIdx? fun p=>!(rp p.2.1 p.2.2||(!p.1&&fd p.2.1 v0))<;>rfl
include hc
def Jh (x:Mc)(hm:400010<=m):Ω m 17 [.p (de c).e,.p x.e] []=dX (ot c x):=by
 replace hm:=ei hm;obtain⟨m,rfl,hm⟩:=hm;apply JQ m (de c) x.r;unfold xg;refine(aa (rg hc x (m:=m) (by omega)) _).trans ?_;simp only[c3,aR,aY,FQ,aJ,aB];cases hq:la c x.ty x.me with
 |none=>rw[VL hq];rfl
 |some q=>
  rw[VM hq];obtain⟨t,s,g1,g2,g3,g4,g5,g6,g7,g8,g9,g10⟩:=Qb hc hq;rw[show(some q).isSome=true from rfl,be];show iL (aG x.pc 0) _ (iL (aL ((q.code.map Cd.e).length:Int) x.pc) _ _)=_;rw[lβ];cases h1:aG x.pc 0 with
  |true=>rfl
  |false=>
  cases h2:aL (q.code.length:Int) x.pc with
  |true=>simp only[bo,be,Bool.not_true,Bool.false_and,Bool.and_false]
  |false=>
  have hp:0<=x.pc/\x.pc<(q.code.length:Int):=by
   rw[bX,lζ]at h1;rw[bj,lζ]at h2;omega
  obtain⟨v,hv,-,has⟩:=U8 g8 g9 g10.n hp;have hll:=g6.l;have hcl:=g6.z.c;have ji:(iL (!az ((x.ls.map Va.e).length:Int) ((q.locals.map iE).length:Int)) (dX false) (dC lay0.tab m 46 [.p (de c).e,pI x.ty,pI x.me,pI x.pc] [] fun d14 o15=>
    dP d14 fun x16=>
    hM 1 x16 fun l17=>
    af o15<|
    itL (dV (dC lay0.tab m) m (fun _=>dX false) (fun _=>dX true)) m (l17,↑(List.length l17),0,x.r,q.r)))=dX (decide (x.ls.length=q.locals.length)&&Dl (U7 c x.ty x.me x.pc) x.ls q.locals):=by
   rw[lβ,lβ,cE,pp];by_cases hl:(x.ls.length:Int)=(q.locals.length:Int)
   ·have hl':x.ls.length=q.locals.length:=by omega
    rw[if_pos hl,lν hl',Bool.true_and,aa (AN hc x.ty x.me x.pc (m:=m) (by omega))];simp only[aY,oU,aB,lβ];have ha:(U7 c x.ty x.me x.pc).length=x.ls.length:=by rw[has,lβ,List.length_range,hl']
    exact UP _ x q ha hl' (by omega) (by omega)
   ·rw[if_neg hl,mθ (by omega)];rfl
  rw[bo,bo];unfold xC;show iL (aG 0 x.pc) (cL (bU (q.code.map Cd.e) (ag .i64 (x.pc - 1))) _) _=_;rw[Bool.not_false,Bool.true_and,Bool.true_and];cases h3:aG 0 x.pc with
  |false=>rw[bo,cond_false,Bool.true_and];exact ji
  |true=>
   rw[bX,lδ]at h3;obtain⟨y,hy,-⟩:=iR (l:=q.code) (x:=x.pc - 1) ⟨by omega,by omega⟩
   rw[fO (by omega) (by omega),be,cond_true,aU,bf,hy,bG,Vf];simp only;show iL (!az y.op 30) _ _=dX (az y.op 30&&_);cases az y.op 30
   ·rfl
   ·rw[Bool.not_true,bo,Bool.true_and];exact ji
def R8 (c:List Ct)(x:Mc):Int:=bif az x.pc 0 then 0 else(((la c x.ty x.me).bind fun q=>(dj q.code (x.pc - 1)).bind fun y=>fA c y.a y.b).getD m0).res
omit hc
def R9 {q:Cm}{t:Ct}{y:Cd}(hf:HI c t q)(hy:y∈q.code)(h:y.op=30):∃z,fA c y.a y.b=some z:=by
 have:=jO (hf.i y hy);rw[h]at this;exact Option.isSome_iff_exists.1 this
include hc
def ET (x:Mc)(hv:ot c x=true)(hm:1<=m):Ω m 44 [.p (de c).e,.p x.e] []=some (pI (R8 c x),[]):=by
 replace hm:=ei hm;obtain⟨m,rfl,hm⟩:=hm;apply Fq m (de c) x.r;unfold tq R8;unfold ot at hv;cases hq:la c x.ty x.me with
 |none=>rw[hq]at hv;cases hv
 |some q=>
  rw[hq]at hv;obtain⟨t,s,g1,g2,g3,g4,g5,g6,g7,g8,g9,g10⟩:=Qb hc hq;simp only[lγ,Bool.not_eq_true',bX,bj,lζ]at hv;obtain⟨h1,h2,h3,-⟩:=hv;have hcl:=g6.z.c;show iL (az x.pc 0) _ (cL (bU (c.map Ct.e) x.ty) _)=_;cases h0:az x.pc 0 with
  |true=>rfl
  |false=>
   rw[cE,lζ]at h0;unfold xC at h3;rw[show aG 0 x.pc=true from hZ (by omega),cond_true]at h3;obtain⟨y,hy,hym⟩:=iR (l:=q.code) (x:=x.pc - 1) ⟨by omega,by omega⟩
   rw[hy]at h3;obtain⟨z,hz⟩:=R9 g6 hym (eqI_t.1 h3);rw[bo,cond_false,Option.bind_some,hy,Option.bind_some,hz,aU,bf,g2,bG,Cs];show cL (bU (t.methods.map Cm.e) x.me) _=_;rw[aU,bf,g4,bG,FQ];show cL (bU (q.code.map Cd.e) (ag .i64 (x.pc - 1))) _=_;rw[fO (by omega) (by omega),aU,bf,hy,bG,Vf];unfold fA at hz;cases ht:dj c y.a with
   |none=>rw[ht]at hz;cases hz
   |some u=>
    rw[ht,Option.bind_some]at hz;show cL (bU (c.map Ct.e) y.a) _=_;rw[aU,bf,ht,bG,Cs];show cL (bU (u.methods.map Cm.e) y.b) _=_;rw[aU,bf,hz,bG,FQ];rfl
def Jf (x:Mc)(hm:400011<=m):Ω m 14 [.p (de c).e,.p x.e] []=some (.tup [pI (bif ot c x then R8 c x else 0),pB (ot c x)],[]):=by
 replace hm:=ei hm;obtain⟨m,rfl,hm⟩:=hm;apply JN m (de c) x.r;unfold xc;refine(aa (Jh hc x (m:=m) (by omega)) _).trans ?_;simp only[aY,aJ,aB];cases hv:ot c x with
 |false=>rfl
 |true=>
  rw[be];refine(aa (ET hc x hv (m:=m) (by omega)) _).trans ?_;simp only[aY,bW,aB];rfl
end
end
section
structure Xs where
 c:List Ct
 q:Cm
 (ty me:Int)
 ky:LN
structure Xt where
 pc:Int
 (ls fs st:List Va)
 es:List Ef
 done:Bool
 ok:Int
 ov:Va
 (tT tK mn:LN)
 ar:List Va
 fu:Int
def Xt.x (s:Xs)(X:Xt)(J:LD):Xn:={ct:=s.c.map Ct.e,mn:=s.q.name,mp:=s.q.params.map iE,mr:=s.q.res,ml:=s.q.locals.map iE,mc:=s.q.code.map Cd.e,aT:=s.ty,aM:=s.me,aP:=X.pc,ln:=X.ls.length,ky:=s.ky,fn:=X.fs.length,sn:=X.st.length,en:=X.es.length,dn:=X.done,oK:=X.ok,vK:=X.ov.k,vN:=X.ov.n,vS:=X.ov.s,vI:=X.ov.I.map iE,vL:=X.ov.L.map .str,tT:=X.tT,tK:=X.tK,me:=X.mn,ar:=X.ar.map Va.e,er:=0,oT:=0,oM:=0,oP:=0,ol:=[],of:=[],oe:=[],fu:=X.fu,ls:=X.ls.map Va.e,fs:=X.fs.map Va.e,st:=X.st.map Va.e++J,es:=X.es.map Ef.e}
def sk (r:Ef×Int)(X:Xt):Xt×Int:=(bif az r.2 0 then {X with es:=X.es++[r.1]}else X,r.2)
section
variable {m:Nat} (s:Xs) (X:Xt) (J:LD)
end
end
section
structure Wx (s:Xs)(X:Xt):Prop where
 ls:∀v∈X.ls,Wk v
 fs:∀v∈X.fs,Wk v
 st:∀v∈X.st,Wk v
 n:X.st.length<=100
 e:X.es.length<=100
 x:∀y∈s.q.code,Wk y.v
 c:s.q.code.length<1501
 p:0<=X.pc/\X.pc<=1501
section
variable {m:Nat} (s:Xs) (X:Xt) (J:LD) (x:Cd) (r:Int) (w:Wx s X) (hm:1520<=m)
include w hm
end
end

def ϓ (x:Ct)(s:LN)(hm:1<=m):Ω m 80 [.p x.e,.box 0 0] [.box [pS s]]=some (pB (cg x.name s),[.box [pS s]]):=by
 replace hm:=ei hm;obtain⟨m,rfl,hm⟩:=hm;apply ϕ m x.r s;unfold ŵ;show iL (cg x.name s) _ _=_;cases cg x.name s<;>rfl
def j_ (l:List Ct)(s:LN)(hl:l.length<1501)(hm:1510<=m):Ω m 139 [pL 3 (l.map Ct.e),.fn 80 [.box 0 0]] [.box [pS s]]=some (pI (CW (l.findIdx? fun t=>cg t.name s)),[.box [pS s]]):=by
 replace hm:=ei hm;obtain⟨m,rfl,hm⟩:=hm;apply n_ m (l.map Ct.e) s;unfold Ϗ;refine(bA l (fun k i=>itL (Ř _ m _ _) k (l.map Ct.e,((l.map Ct.e).length:Int),i,s)) (fun t=>cg t.name s) (fun i=>some (pI i,[.box [pS s]])) (some (pI (-1),[.box [pS s]])) (fun k i hi=>?_) (fun k=>?_) (by omega)).trans ?_
 ·rw[bb];have h:=aa (ϓ l[i] s (m:=m) (by omega));simp only[Ř,lβ,hZ (show((i:Int)<(l.length:Int)) by omega),be,aU,bf,bw hi,bG,Cs,wS (show i<eH by unfold eH;omega)];refine(h _).trans ?_;simp only[aY,aJ];refine(bM _ _).trans ?_;exact mj _ _ _
 ·rw[bb];simp only[Ř,lβ,eT,bo]
 ·cases l.findIdx? fun t=>cg t.name s<;>rfl
def Ϧ (l:List Ct)(s:LN)(hl:l.length<1501)(hm:1511<=m):Ω m 79 [pL 3 (l.map Ct.e),.fn 80 [.box 0 0]] [.box [pS s]]=some (.tup [pI ((l.findIdx? fun t=>cg t.name s).getD 0:Nat),pB (l.findIdx? fun t=>cg t.name s).isSome],[.box [pS s]]):=by
 replace hm:=ei hm;obtain⟨m,rfl,hm⟩:=hm;apply ϲ m (l.map Ct.e) s;unfold ž;rw[aa (j_ l s hl hm)];simp only[aY,bW];refine(bM _ _).trans ?_;cases l.findIdx? fun t=>cg t.name s with
 |none=>rfl
 |some j=>
  rw[show aL 0 (CW (some j))=true by rw[bj];simp[CW],show aG (CW (some j)) 0=false from Q5 (by simp[CW])];rfl
def Ζ (x:Cm)(s:LN)(hm:1<=m):Ω m 82 [.p x.e,.box 0 0] [.box [pS s]]=some (pB (cg x.name s),[.box [pS s]]):=by
 replace hm:=ei hm;obtain⟨m,rfl,hm⟩:=hm;apply Κ m x.r s;unfold š;show iL (cg x.name s) _ _=_;cases cg x.name s<;>rfl
def ϧ (l:List Cm)(s:LN)(hl:l.length<1501)(hm:1510<=m):Ω m 140 [pL 5 (l.map Cm.e),.fn 82 [.box 0 0]] [.box [pS s]]=some (pI (CW (l.findIdx? fun t=>cg t.name s)),[.box [pS s]]):=by
 replace hm:=ei hm;obtain⟨m,rfl,hm⟩:=hm;apply ϳ m (l.map Cm.e) s;unfold ſ;refine(bA l (fun k i=>itL (Ŕ _ m _ _) k (l.map Cm.e,((l.map Cm.e).length:Int),i,s)) (fun t=>cg t.name s) (fun i=>some (pI i,[.box [pS s]])) (some (pI (-1),[.box [pS s]])) (fun k i hi=>?_) (fun k=>?_) (by omega)).trans ?_
 ·rw[bb];have h:=aa (Ζ l[i] s (m:=m) (by omega));simp only[Ŕ,lβ,hZ (show((i:Int)<(l.length:Int)) by omega),be,aU,bf,bw hi,bG,FQ,wS (show i<eH by unfold eH;omega)];refine(h _).trans ?_;simp only[aY,aJ];refine(bM _ _).trans ?_;exact mj _ _ _
 ·rw[bb];simp only[Ŕ,lβ,eT,bo]
 ·cases l.findIdx? fun t=>cg t.name s<;>rfl
def Υ (l:List Cm)(s:LN)(hl:l.length<1501)(hm:1511<=m):Ω m 81 [pL 5 (l.map Cm.e),.fn 82 [.box 0 0]] [.box [pS s]]=some (.tup [pI ((l.findIdx? fun t=>cg t.name s).getD 0:Nat),pB (l.findIdx? fun t=>cg t.name s).isSome],[.box [pS s]]):=by
 replace hm:=ei hm;obtain⟨m,rfl,hm⟩:=hm;apply Ψ m (l.map Cm.e) s;unfold Ű;rw[aa (ϧ l s hl hm)];simp only[aY,bW];refine(bM _ _).trans ?_;cases l.findIdx? fun t=>cg t.name s with
 |none=>rfl
 |some j=>
  rw[show aL 0 (CW (some j))=true by rw[bj];simp[CW],show aG (CW (some j)) 0=false from Q5 (by simp[CW])];rfl
def ϥ (c:List Ct)(s:LN)(hl:c.length<1501)(hm:1512<=m):Ω m 36 [.p (de c).e,pS s] []=some (.tup [pI ((c.findIdx? fun t=>cg t.name s).getD 0:Nat),pB (c.findIdx? fun t=>cg t.name s).isSome],[]):=by
 replace hm:=ei hm;obtain⟨m,rfl,hm⟩:=hm;apply ϱ m (de c) s;unfold Ž;refine(aa (Ϧ c s hl hm) _).trans ?_;simp only[c3,aR,aY,bW,aJ,aB];refine(bM _ _).trans ?_;cases(c.findIdx? fun t=>cg t.name s).isSome<;>rfl
def Τ (t:Ct)(s:LN)(hl:t.methods.length<1501)(hm:1512<=m):Ω m 37 [.p t.e,pS s] []=some (.tup [pI ((t.methods.findIdx? fun t=>cg t.name s).getD 0:Nat),pB (t.methods.findIdx? fun t=>cg t.name s).isSome],[]):=by
 replace hm:=ei hm;obtain⟨m,rfl,hm⟩:=hm;apply Χ m t.r s;unfold ů;refine(aa (Υ t.methods s hl hm) _).trans ?_;simp only[c3,aR,aY,bW,aJ,aB];refine(bM _ _).trans ?_;cases(t.methods.findIdx? fun t=>cg t.name s).isSome<;>rfl
def mc0:Mc:=⟨0,0,0,[]⟩
def G_ (c:List Ct)(ty me:LN)(l:List Va):Mc×Int:=
 bif az (Hi c) 0 then
  match c.findIdx? fun t=>cg t.name ty with
  |none=>(mc0,14)
  |some i=>match c[i]? with
   |none=>(mc0,14)
   |some t=>match t.methods.findIdx? fun t=>cg t.name me with
    |none=>(mc0,14)
    |some j=>match t.methods[j]? with
     |none=>(mc0,14)
     |some q=>bif uw l q.params then(⟨i,j,0,l++List.replicate (q.locals.length - l.length) v0⟩,0)else(mc0,15)
 else(mc0,1)
def w_ {c:List Ct}(hc:AJ c)(ty me:LN)(l:List Va)(hl:l.length<1501)(hv:∀v∈l,Lg v)(hm:400003<=m):Ω m 12 [.p (de c).e,pS ty,pS me,pL 5 (l.map Va.e)] []=some (.tup [.p (G_ c ty me l).1.e,pI (G_ c ty me l).2],[]):=by
 replace hm:=ei hm;obtain⟨m,rfl,hm⟩:=hm;apply C_ m (de c) ty me (l.map Va.e);unfold ϫ G_;refine(aa (wO hc (m:=m) (by omega)) _).trans ?_;simp only[aY,bW,aB];cases hv0:az (Hi c) 0 with
 |false=>rfl
 |true=>
  have hve:=Č (eqI_t.1 hv0);rw[Bool.not_true,bo,cond_true];refine(aa (ϥ c ty hc.n (m:=m) (by omega)) _).trans ?_;simp only[c3,aR,aY,bW,aJ,aB];cases h1:c.findIdx? fun t=>cg t.name ty with
  |none=>rfl
  |some i=>
   have hi:i<c.length:=(qη.1 h1).1;have hct:=lρ hi;have hzt:=hc.s _ hct;rw[show(some i).isSome=true from rfl,be,show(some i).getD 0=i from rfl,show(de c).Types=c.map Ct.e from rfl];simp only[lε hi,aU,bf,bw hi,bG,Cs];refine(aa (Τ c[i] me hzt.m (m:=m) (by omega)) _).trans ?_;simp only[c3,aR,aY,bW,aJ,aB];cases h2:c[i].methods.findIdx? fun t=>cg t.name me with
   |none=>rfl
   |some j=>
    have hj:j<c[i].methods.length:=(qη.1 h2).1;have hfo:=zU hc hct (lρ hj) (sL hve.1 _ hct _ (lρ hj));simp only[lε hj];rw[show(some j).isSome=true from rfl,be,show(some j).getD 0=j from rfl,show c[i].r.Methods=c[i].methods.map Cm.e from rfl];simp only[aU,bf,bw hj,bG,FQ];refine(aa (k_ l c[i].methods[j].params hl (m:=m) (by omega)) _).trans ?_;simp only[aY,aJ,aB];cases hfit:uw l c[i].methods[j].params with
    |false=>rfl
    |true=>
     have hlen:l.length=c[i].methods[j].params.length:=by
      by_cases h:l.length=c[i].methods[j].params.length
      ·exact h
      ·rw[CL l _ h]at hfit;cases hfit
     have hll:=hfo.l;have hpl:=congrArg List.length hfo.pl;rw[mγ]at hpl;have hc1:(aL 0 (c[i].methods[j].locals.length:Int)&&aL (c[i].methods[j].locals.length:Int) (c[i].methods[j].locals.length:Int)&&Nat.ble (c[i].methods[j].locals.length*80) 281474976710656&&aL (c[i].methods[j].locals.length:Int) 9223372036854775807)=true:=by
      simp only[lγ,bj,Nat.ble_eq,lδ];omega
     rw[be,show c[i].methods[j].r.Locals=c[i].methods[j].locals.map iE from rfl,lβ,Int.toNat_natCast,hc1,be,aa (qq l hl hv (m:=m) (by omega)),eC];simp only[aR,eE,aB,List.drop_zero];rw[lκ (l:=l.map Va.e) (by rw[lβ];exact Nat.le_refl _),lκ (l:=l.map Va.e) (by rw[lβ];omega)];have hrep:∀n,List.replicate n (Da.agg [Da.int .i64 0,Da.int .i64 0,Da.str [],Da.slice 1 [],Da.slice 1 []])=(List.replicate n v0).map Va.e:=fun n=>by rw[List.map_replicate];rfl
     have goal:∀L:LD,L=(l++List.replicate (c[i].methods[j].locals.length - l.length) v0).map Va.e->(some (.tup [.p (.agg [.int .i64 i,.int .i64 j,.int .i64 0,.slice 5 L]),pI 0],[]):R)=some (.tup [.p (Mc.e ⟨i,j,0,l++List.replicate (c[i].methods[j].locals.length - l.length) v0⟩),pI 0],[]):=fun L h=>by subst h;rfl
     cases hl0:l with
     |nil=>
      subst hl0;refine goal _ ?_;rw[hrep,lκ (by rw[lβ,mμ];exact Nat.le_refl _)];rfl
     |cons a r=>
      rw[<-hl0];rw[show(l.map Va.e).isEmpty=false by rw[hl0];rfl,bo];refine goal _ ?_;rw[hrep];unfold splice;rw[lκ]
      ·rw[List.take_zero,List.nil_append,lβ,Nat.zero_add,List.map_append,<-List.map_drop,List.drop_replicate]
      ·simp only[mη,lβ,mυ,mμ,mγ];omega
structure HK where
 k:Int
 v:Va
 (tT tK mn:LN)
 ar:List Va
 er:Int
 mc:Mc
 fs:List Va
 es:List Ef
 fu:Int
def HK.r (g:HK):cd:=⟨g.k,g.v.k,g.v.n,g.v.s,g.v.I.map iE,g.v.L.map .str,g.tT,g.tK,g.mn,g.ar.map Va.e,g.er,g.mc.ty,g.mc.me,g.mc.pc,g.mc.ls.map Va.e,g.fs.map Va.e,g.es.map Ef.e,g.fu⟩
def HK.e (g:HK):Da:=g.r.e
end
end Go.Ab
