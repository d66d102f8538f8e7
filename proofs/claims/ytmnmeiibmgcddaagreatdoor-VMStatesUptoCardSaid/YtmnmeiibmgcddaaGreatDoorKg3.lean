import Derived.Test.YtmnmeiibmgcddaaGreatDoorKg2
import Derived.Test.YtmnmeiibmgcddaaGreatDoorOg2
import Derived.Test.YtmnmeiibmgcddaaGreatDoorOg3
import Derived.Test.YtmnmeiibmgcddaaGreatDoorKg0
import Derived.Test.YtmnmeiibmgcddaaGreatDoorKg1
set_option linter.all false
namespace Go.Ab
open Go
set_option maxRecDepth 100000
noncomputable section
def aff (m:Cm)(pc:Nat)(x:Cd):LI:=bif(eM m pc x).2 then(eM m pc x).1 else(bif az x.op 29 then[-1,x.a]else[-1])
variable {m:Nat}
def afQ (me:Cm)(pc:Nat)(h:pc<me.code.length)(hc:me.code.length<1501)(hm:1<=m):Ω m 91 [.p me.e,pI pc] []=some (pL 1 ((aff me pc me.code[pc]).map iE),[]):=by
 replace hm:=ei hm;obtain⟨m,rfl,hm⟩:=hm;apply afV m me.r pc;unfold aeG;rw[wS (show pc<eH by unfold eH;omega),show me.r.Code=me.code.map Cd.e from rfl,lβ];simp only[aU,bf,bw h,bG,Vf];generalize me.code[pc]=x;obtain⟨op,a,b,v⟩:=x;unfold aff eM;rw[bj];have he:decide ((me.code.length:Int)<=((pc+1:Nat):Int))=decide (pc+1=me.code.length):=decide_eq_decide.2 (by omega);rw[he];simp only[Cd.r];by_cases o28:op=28
 ·subst o28;cases decide (pc+1=me.code.length)<;>rfl
 by_cases o29:op=29
 ·subst o29;cases decide (pc+1=me.code.length)<;>rfl
 by_cases o32:op=32
 ·subst o32;cases decide (pc+1=me.code.length)<;>rfl
 by_cases o33:op=33
 ·subst o33;cases decide (pc+1=me.code.length)<;>rfl
 have ne:∀{k:Int},op≠k->az op k=false:=fun h=>by rw[cE];exact mθ h
 simp only[ne o28,ne o29,ne o32,ne o33];cases decide (pc+1=me.code.length)<;>rfl
def m3 (n s:Nat):LD:=(List.range n).map fun i=>Da.bool (s.testBit i)
def ptE (n:Nat)(v:SV):Da:= .agg [.bool v.r,.slice 1 (v.st.map iE),.slice 1 (bif v.r then m3 n v.set else[])]
def dPt (n:Nat)(v:SV)(K:eb->R):ea (ptE n v) K=K ⟨v.r,v.st.map iE,bif v.r then m3 n v.set else[]⟩:=rfl
def aaq (n s:Nat):(m3 n s).length=n:=by unfold m3;rw[lβ,List.length_range]
def aeH {n s i:Nat}(h:i<n):(m3 n s)[i]?=some (Da.bool (s.testBit i)):=by
 unfold m3;rw[lξ,List.getElem?_range h];rfl
def aed {n s i:Nat}(h:i<n):bU (m3 n s) (i:Int)=some (Da.bool (s.testBit i)):=by
 unfold m3;rw[aU,oL,List.getElem?_range h];rfl
def afx {s n j:Nat}(h:s<2 ^ n)(hj:n<=j):s.testBit j=false:=
 Nat.testBit_lt_two_pow (mω h (Nat.pow_le_pow_right (by omega) hj))
def chB (v s i:Nat):Bool:=(List.range i).any fun j=>v.testBit j&&!s.testBit j
def afz (v s i:Nat):chB v s (i+1)=(chB v s i||(v.testBit i&&!s.testBit i)):=by
 unfold chB;rw[List.range_succ,List.any_append];simp
def agp {v s n:Nat}(h:v<2 ^ n):chB v s n=!decide (v &&& s=v):=by
 rw[mζ];unfold chB;rw[qν,Bool.not_eq_true',lζ];constructor
 ·rintro⟨j,-,hj⟩ e
  have:=congrArg (fun x:Nat=>x.testBit j) e;simp only[Nat.testBit_and]at this;rw[lγ,Bool.not_eq_true']at hj;rw[hj.1,hj.2]at this;cases this
 ·intro hne;by_cases hex:∃j,j<n/\(v.testBit j&&!s.testBit j)=true
  ·obtain⟨j,hj,h2⟩:=hex;exact⟨j,List.mem_range.2 hj,h2⟩
  ·exfalso;apply hne;apply Nat.eq_of_testBit_eq;intro i;rw[Nat.testBit_and];by_cases hi:i<n
   ·have:¬(v.testBit i&&!s.testBit i)=true:=fun e=>hex ⟨i,hi,e⟩
    revert this
    cases v.testBit i<;>cases s.testBit i<;>simp
   ·rw[afx h (by omega)];rfl
def adH (st:LI)(set:Nat)(v:SV):SV×Bool×Bool:=match aaI st set v with|some p=>(p.1,p.2,true)|none=>(v,false,false)
def acn {m:Nat}(n:Nat)(st:LI)(set:Nat)(v:SV)(hr:v.r=true)(hn:n<100)(k0:_->R)(Z:R)(hk:k0 (m3 n set,chB v.set set n,(n:Int),⟨true,v.st.map iE,m3 n v.set⟩,v.st.map iE,n,m3 n (v.set &&& set))=Z):∀(d q i:Nat),i+d=n->d<q->itL (aau (dC lay0.tab m) m k0) q (m3 n set,chB v.set set i,(i:Int),⟨true,v.st.map iE,m3 n v.set⟩,v.st.map iE,i,(List.range i).map fun j=>Da.bool ((v.set &&& set).testBit j))=Z
 |0,q+1,i,h,_=>by
  obtain rfl:i=n:=by omega
  rw[bb];simp only[aau,aaq,eT,bo];exact hk
 |d+1,q+1,i,h,hq=>by
  have hi:i<n:=by omega
  have hl:((List.range i).map fun j=>Da.bool ((v.set &&& set).testBit j)).length=i:=by rw[lβ,List.length_range]
  have hb:c8 (i+1) 1=true:=kX (by omega) (by omega);have ih:=acn (m:=m) n st set v hr hn k0 Z hk d q (i+1) (by omega) (by omega);have e1:(v.set &&& set).testBit i=(v.set.testBit i&&set.testBit i):=Nat.testBit_and ..
  rw[List.range_succ,List.map_append,afz,List.map_cons,List.map_nil,e1]at ih;generalize((List.range i).map fun j=>Da.bool ((v.set &&& set).testBit j))=L at ih hl ⊢
  rw[bb];simp only[aau,aaq,hZ (show((i:Int)<(n:Int)) by omega),be,aed hi,bG,show ∀b,zB (Da.bool b)=true from fun _=>rfl,show ∀b K,aH (Da.bool b) K=K b from fun _ _=>rfl,hl,Nat.beq_refl,List.length_singleton,hb,mη,wS (show i<eH by unfold eH;omega)];revert ih;cases v.set.testBit i<;>cases set.testBit i<;>cases chB v.set set i<;>exact fun ih=>ih
def afP (n:Nat)(v:SV)(st:LI)(set:Nat)(hn:n<100)(hv:v.set<2 ^ n)(hst:st.length<1501)(hm:1510<=m):Ω m 92 [.p (ptE n v),pL 1 (st.map iE),pL 1 (m3 n set)] []=some (.tup [.p (ptE n (adH st set v).1),pB (adH st set v).2.1,pB (adH st set v).2.2],[]):=by
 replace hm:=ei hm;obtain⟨m,rfl,hm⟩:=hm;apply afU m ⟨v.r,v.st.map iE,bif v.r then m3 n v.set else[]⟩ (st.map iE) (m3 n set)
 unfold aeF adH aaI;cases hr:v.r with
 |false=>
  have hb:c8 (([]:LD).length+(m3 n set).length) 1=true:=kX (by rw[aaq];simp only[List.length_nil];omega) (by omega);rw[bo,hb,be,List.nil_append,List.drop_zero,List.take_length];rfl
 |true=>
  rw[be];refine(aa (t_ v.st st (.inr hst) (m:=m) (by omega)) _).trans ?_;simp only[aY,aJ,aB,cond_true];by_cases e:v.st=st
  ·rw[lν e,be];refine(acn n st set v hr hn _ _ rfl n m 0 (by omega) (by omega)).trans ?_;simp only[List.drop_zero];rw[lκ (by rw[aaq];exact Nat.le_refl _),agp hv];cases decide (v.set &&& set=v.set)<;>(subst e;rfl)
  ·rw[mθ e,bo];have hp:ptE n v= .agg [.bool true,.slice 1 (v.st.map iE),.slice 1 (m3 n v.set)]:=by unfold ptE;rw[hr];rfl
   show some (D.tup [D.p (Da.agg [Da.bool true,Da.slice 1 (v.st.map iE),Da.slice 1 (m3 n v.set)]),D.p (.bool false),D.p (.bool false)],([]:List Ob))=some (D.tup [D.p (ptE n v),D.p (.bool false),D.p (.bool false)],[]);rw[hp]
section
structure PN (me:Cm)(s:List SV):Prop where
 n:s.length=me.code.length
 v:∀v∈s,v.st.length<=40/\v.set<2 ^ me.locals.length
def PN.set {me:Cm}{s:List SV}(h:PN me s)(i:Nat){v:SV}(h1:v.st.length<=40)(h2:v.set<2 ^ me.locals.length):PN me (s.set i v):=by
 refine⟨by rw[List.length_set];exact h.n,fun u hu=>?_⟩
 rcases List.mem_or_eq_of_mem_set hu with hu|rfl
 ·exact h.v u hu
 ·exact⟨h1,h2⟩
def aeI {n s a:Nat}(h:a<n):(m3 n s).set a (Da.bool true)=m3 n (s ||| 2 ^ a):=by
 unfold m3;apply List.ext_getElem?;intro k;rw[List.getElem?_set];by_cases hk:a=k
 ·subst hk;simp only[lβ,List.length_range,h,if_true,lξ,List.getElem?_range h,Option.map_some,Nat.testBit_or,Nat.testBit_two_pow_self,Bool.or_true]
 ·rw[if_neg hk,lξ,lξ];by_cases hkn:k<n
  ·rw[List.getElem?_range hkn];simp only[Option.map_some,Nat.testBit_or,Nat.testBit_two_pow,show decide (a=k)=false from mθ hk,Bool.or_false]
  ·rw[lτ (by rw[List.length_range];omega)];rfl
section
variable {m:Nat} (c:List Ct) (t:Ct) (me:Cm) (hf:HI c t me)
def agx (n:Nat)(v p:SV):Da.agg (splice (cells (eb.e ⟨v.r,v.st.map iE,bif v.r then m3 n v.set else[]⟩)) 0 (cells (Da.agg [Da.bool p.r,Da.slice 1 (p.st.map iE),Da.slice 1 (bif p.r then m3 n p.set else[])])))=ptE n p:=rfl
def age (hl:me.locals.length<=8)(hc:me.code.length<1501)(hm:1600<=m){E:R}(k0 k1 k2:_->R)(h0:∀x,k0 x=E)(h1:∀x,k1 x=E)(st:LI)(set:Nat)(hst:st.length<=40)(hset:set<2 ^ me.locals.length)(i:Nat)(tos:LI)(htos:∀to∈tos,0<=to/\to<me.code.length)(htl:tos.length<100):∀(d q k:Nat) (s:List SV) (b:Bool),PN me s->k+d=tos.length->d<q->
  (aar st set (tos.drop k) s b=none/\itL (f6 (dC lay0.tab m) m k0 k1 k2) q (me.code.length,b,(i:Int),st.map iE,m3 me.locals.length set,tos.map iE,(k:Int),de c,t.r,me.r,s.map (ptE me.locals.length))=E)\/∃s' b',aar st set (tos.drop k) s b=some (s',b')/\PN me s'/\itL (f6 (dC lay0.tab m) m k0 k1 k2) q (me.code.length,b,(i:Int),st.map iE,m3 me.locals.length set,tos.map iE,(k:Int),de c,t.r,me.r,s.map (ptE me.locals.length))=k2 (me.code.length,b',(i:Int),st.map iE,m3 me.locals.length set,tos.map iE,(tos.length:Int),de c,t.r,me.r,s'.map (ptE me.locals.length))
 |0,q+1,k,s,b,hs,h,_=>by
  obtain rfl:k=tos.length:=by omega
  refine .inr ⟨s,b,by rw[List.drop_length];rfl,hs,?_⟩
  rw[bb];simp only[f6,lβ,eT,bo]
 |d+1,q+1,k,s,b,hs,h,hq=>by
  have hk:k<tos.length:=by omega
  obtain⟨g0,g1⟩:=htos _ (lρ hk);rw[mπ hk];unfold aar;generalize hto:tos[k]=to at g0 g1 ⊢
  have hlt:to.toNat<s.length:=by rw[hs.n];omega
  have hv:=lε hlt;have hvm:=hs.v _ (lρ hlt);generalize s[to.toNat]=v at hv hvm;have hg:(s.map (ptE me.locals.length))[0+to.toNat]?=some (ptE me.locals.length v):=by rw[Nat.zero_add,lξ,hv];rfl
  have hme:=aa (afP me.locals.length v st set (by omega) hvm.2 (by omega) (m:=m) (by omega));have hat:bU (tos.map iE) (k:Int)=some (iE to):=by rw[aU,bw hk,hto];rfl
  have ib:zB (iE to)=false:=rfl;have e0:aL 0 to=true:=by rw[bj];exact lν g0
  rw[hv,Option.bind_some,bb];simp only[f6,lβ,hZ (show((k:Int)<(tos.length:Int)) by omega),be,hat,bG,ib,bo,dI,Q5 (show ¬to<0 by omega),e0,hZ g1,hg,dPt,h0,h1,wS (show k<eH by unfold eH;omega)];have hmt:adH st set v=match aaI st set v with|some p=>(p.1,p.2,true)|none=>(v,false,false):=rfl
  cases hmm:aaI st set v with
  |none=>
   rw[hmm]at hmt;rw[Option.bind_none];refine .inl ⟨rfl,?_⟩;refine(hme _).trans ?_;rw[hmt];simp only[c3,aR,aY,dPt,aJ,aB,bo]
  |some p=>
   obtain⟨p,b1⟩:=p;rw[hmm]at hmt;have mo:=acL hmm;have hset2:=aeM hmm;have hps:p.set<2 ^ me.locals.length:=by
    rw[hset2];cases v.r with
    |true=>exact Nat.lt_of_le_of_lt Nat.and_le_left hvm.2
    |false=>exact hset
   have hs':PN me (s.set to.toNat p):=hs.set _ (by rw[mo.st];exact hst) hps;have ih:=age hl hc hm k0 k1 k2 h0 h1 st set hst hset i tos htos htl d q (k+1) (s.set to.toNat p) (b||b1) hs' (by omega) (by omega);have goal:∀X,X=itL (f6 (dC lay0.tab m) m k0 k1 k2) q (me.code.length,b||b1,(i:Int),st.map iE,m3 me.locals.length set,tos.map iE,((k+1:Nat):Int),de c,t.r,me.r,(s.set to.toNat p).map (ptE me.locals.length))->(aar st set (tos.drop (k+1)) (s.set to.toNat p) (b||b1)=none/\X=E)\/∃s' b',aar st set (tos.drop (k+1)) (s.set to.toNat p) (b||b1)=some (s',b')/\PN me s'/\X=k2 (me.code.length,b',(i:Int),st.map iE,m3 me.locals.length set,tos.map iE,(tos.length:Int),de c,t.r,me.r,s'.map (ptE me.locals.length)):=fun X e=>by rw[e];exact ih
   rw[Option.bind_some];refine goal _ ?_;refine(hme _).trans ?_;rw[hmt];simp only[c3,aR,aY,dPt,aJ,aB,be,agx,List.map_set,Nat.zero_add];simp only[h0,h1]at*
   cases b1<;>cases b<;>rfl
def agB {pc:Nat}{x:Cd}(h:(eM me pc x).2=true):aff me pc x=(eM me pc x).1:=by unfold aff;rw[h];rfl
def agA {pc:Nat}{x:Cd}(h:(eM me pc x).2=false):∃r,aff me pc x= -1::r:=by
 unfold aff;rw[h];cases az x.op 29 with
 |true=>exact⟨_,rfl⟩
 |false=>exact⟨_,rfl⟩
include hf
def agd (hm:3000<=m){E:R}(k0 k1 k2 k3 k4:_->R)(h0:∀x,k0 x=E)(h1:∀x,k1 x=E)(h2:∀x,k2 x=E)(h3:∀x,k3 x=E):∀(d q i:Nat) (s:List SV) (b:Bool),PN me s->i+d=me.code.length->d<q->
  (abz c t me d i s b=none/\itL (m4 (dC lay0.tab m) m k0 k1 k2 k3 k4) q (me.code.length,b,(i:Int),de c,t.r,me.r,s.map (ptE me.locals.length))=E)\/∃s' b',abz c t me d i s b=some (s',b')/\PN me s'/\itL (m4 (dC lay0.tab m) m k0 k1 k2 k3 k4) q (me.code.length,b,(i:Int),de c,t.r,me.r,s.map (ptE me.locals.length))=k4 (me.code.length,b',(me.code.length:Int),de c,t.r,me.r,s'.map (ptE me.locals.length))
 |0,q+1,i,s,b,hs,h,_=>by
  obtain rfl:i=me.code.length:=by omega
  refine .inr ⟨s,b,rfl,hs,?_⟩;rw[bb];simp only[m4,show me.r.Code=me.code.map Cd.e from rfl,lβ,eT,bo]
 |d+1,q+1,i,s,b,hs,h,hq=>by
  have hi:i<me.code.length:=by omega
  have hcl:=hf.z.c;have hl8:=hf.l;have hlt:i<s.length:=by rw[hs.n];exact hi
  have hv:=lε hlt;have hvm:=hs.v _ (lρ hlt);generalize s[i]=v at hv hvm;have hx:=lε hi;have hin:=hf.i _ (lρ hi);have hqq:=hf.q _ (lρ hi);have hsu:=aa (afQ me i hi hcl (m:=m) (by omega));have hat:bU (me.code.map Cd.e) (i:Int)=some (me.code[i].e):=by rw[aU,bw hi];rfl
  generalize me.code[i]=x at hx hin hqq hsu hat;have hg:(s.map (ptE me.locals.length))[0+i]?=some (ptE me.locals.length v):=by rw[Nat.zero_add,lξ,hv];rfl
  have e0:aL 0 (i:Int)=true:=by rw[bj];exact lν (by omega)
  have isA:PO (ptE me.locals.length v)=true:=rfl;have ih:=fun s' b' hs'=>agd hm k0 k1 k2 k3 k4 h0 h1 h2 h3 d q (i+1) s' b' hs' (by omega) (by omega)
  unfold abz ptS;rw[hx,hv,bb];simp only[m4,show me.r.Code=me.code.map Cd.e from rfl,lβ,hZ (show((i:Int)<(me.code.length:Int)) by omega),be,e0,Int.toNat_natCast,hg,bG,isA,dPt,hat,Vf,h0,h1,h2,h3,wS (show i<eH by unfold eH;omega)];cases hr:v.r with
  |false=>
   rw[bo,cond_false,Option.bind_some];exact ih s b hs
  |true=>
   rw[be,cond_true];obtain⟨m',rfl,hm'⟩:=ei (show 2999+1<=m from hm);obtain⟨tk,ps,ok,heff,hre⟩:=aeU (m:=m') c t me v.st (by omega) (by omega) x hin hqq;have heff2:=aa heff;change (∀k,dC lay0.tab (m'+1) 90 [.p (.agg [(.slice 3 (de c).Types)]),.p (.agg [(.str t.r.Name),(.slice 7 t.r.Fields),(.slice 5 t.r.Methods)]),.p (.agg [(.str me.r.Name),(.slice 1 me.r.Params),(.int .i64 me.r.Result),(.slice 1 me.r.Locals),(.slice 8 (me.code.map Cd.e))]),.p x.r.e,pL 1 (v.st.map iE)] [] k=_)at heff2;rw[heff2];simp only[aY,dFx,aB];cases ok with
   |false=>
    refine .inl ⟨?_,rfl⟩;have:=hre.n rfl;split
    ·rename_i st ha;exact absurd ha (this st)
    ·rfl
   |true=>
    obtain⟨hle,haft⟩:=hre.y rfl;have hk1:=hre.k;have hp1:=hre.p;have w:ag .i64 ((v.st.length:Int) - (tk:Int))=((v.st.length - tk:Nat):Int):=by rw[fO (by omega) (by omega)];omega
    have hlst:(List.take (v.st.length - tk) (v.st.map iE)).length=v.st.length - tk:=by rw[mγ,lβ];omega
    have z0:aL 0 ((v.st.length - tk:Nat):Int)=true:=by rw[bj];exact lν (by omega)
    have z1:aL ((v.st.length - tk:Nat):Int) (v.st.length:Int)=true:=by rw[bj];exact lν (by omega)
    have z2:c8 (([]:LD).length+(v.st.length - tk)) 8=true:=kX (by simp only[List.length_nil];omega) (by omega);have z3:c8 (v.st.length - tk+ps.length) 8=true:=kX (by omega) (by omega);have z4:c8 (([]:LD).length+me.locals.length) 1=true:=kX (by simp only[List.length_nil];omega) (by omega);have htk:List.take (v.st.length - tk) (v.st.map iE)++ps.map iE=(v.st.take (v.st.length - tk)++ps).map iE:=by rw[List.map_append,List.map_take]
    have hnew:(v.st.take (v.st.length - tk)++ps).length=v.st.length - tk+ps.length:=by rw[mη,mγ];omega
    rw[haft];simp only[be,w,z0,z1,Int.toNat_natCast,Nat.sub_zero,List.drop_zero,List.nil_append,hlst,z2,Nat.beq_refl,z3,htk,List.take_length,lβ,hnew,cond_true,z4,aaq];have hltk:List.take (v.st.length - tk+ps.length) ((v.st.take (v.st.length - tk)++ps).map iE)=(v.st.take (v.st.length - tk)++ps).map iE:=lκ (by rw[lβ,hnew];exact Nat.le_refl _);simp only[hltk,lβ,hnew];have e40:aG 40 ((v.st.length - tk+ps.length:Nat):Int)=!decide (v.st.length - tk+ps.length<=40):=by rw[bX,<-decide_not];exact decide_eq_decide.2 (by omega)
    rw[e40];by_cases h40:v.st.length - tk+ps.length<=40;rotate_left
    ·rw[mθ h40,Bool.not_false,be];exact .inl ⟨rfl,rfl⟩
    rw[lν h40,Bool.not_true,bo];simp only;have key:∀(SETD:LD) (set:Nat),SETD=m3 me.locals.length set->set<2 ^ me.locals.length->set=lA x v.set->∀X:R,X=(dC lay0.tab (m'+1) 91 [.p (.agg [(.str me.r.Name),(.slice 1 me.r.Params),(.int .i64 me.r.Result),(.slice 1 me.r.Locals),(.slice 8 (me.code.map Cd.e))]),pI (i:Int)] [] fun d o=>dP d fun x55=>hM 1 x55 fun l56=>af o<|itL (f6 (dC lay0.tab (m'+1)) (m'+1) (fun _=>E) (fun _=>E) (fun(n110,b111,i112,l113,l114,l115,i116,u117,u118,u119,l120)=>itL (m4 (dC lay0.tab (m'+1)) (m'+1) k0 k1 k2 k3 k4) q (n110,b111,ag .i64 (i112+1),u117,u118,u119,l120))) (m'+1) (me.code.length,b,(i:Int),(v.st.take (v.st.length - tk)++ps).map iE,SETD,l56,0,de c,t.r,me.r,s.map (ptE me.locals.length)))->
      (((bif(eM me i x).2 then aar (v.st.take (v.st.length - tk)++ps) (lA x v.set) (eM me i x).1 s b else none).bind fun p=>abz c t me d (i+1) p.1 p.2)=none/\X=E)\/∃s' b',((bif(eM me i x).2 then aar (v.st.take (v.st.length - tk)++ps) (lA x v.set) (eM me i x).1 s b else none).bind fun p=>abz c t me d (i+1) p.1 p.2)=some (s',b')/\PN me s'/\X=k4 (me.code.length,b',(me.code.length:Int),de c,t.r,me.r,s'.map (ptE me.locals.length)):=fun SETD set e1 e2 e3 X eX=>by
     subst e1;rw[<-e3,eX];have hsu2:=hsu;change (∀k,dC lay0.tab (m'+1) 91 [.p (.agg [(.str me.r.Name),(.slice 1 me.r.Params),(.int .i64 me.r.Result),(.slice 1 me.r.Locals),(.slice 8 (me.code.map Cd.e))]),pI (i:Int)] [] k=_)at hsu2;rw[hsu2];simp only[aY,oU,aB];cases hsc:(eM me i x).2 with
     |false=>
      rw[cond_false,Option.bind_none];obtain⟨r,hr⟩:=agA me hsc;rw[hr];refine .inl ⟨rfl,?_⟩;rw[bb];have hp0:(0:Int)<(((-1:Int)::r).length:Int):=by simp only[List.length_cons];omega
      simp only[f6,lβ,hZ hp0,be,show bU ((-1::r).map iE) 0=some (iE (-1))from rfl,bG,show zB (iE (-1))=false from rfl,bo,dI,show aG (-1) 0=true from rfl]
     |true=>
      rw[cond_true,agB me hsc];obtain⟨s1,s2⟩:=QH hin hi hsc;rcases age c t me hl8 hcl (m:=m'+1) (by omega) (E:=E) (fun _=>E) (fun _=>E) (fun(n110,b111,i112,l113,l114,l115,i116,u117,u118,u119,l120)=>itL (m4 (dC lay0.tab (m'+1)) (m'+1) k0 k1 k2 k3 k4) q (n110,b111,ag .i64 (i112+1),u117,u118,u119,l120)) (fun _=>rfl) (fun _=>rfl) (v.st.take (v.st.length - tk)++ps) set (by rw[hnew];exact h40) e2 i (eM me i x).1 s1 (by omega) (eM me i x).1.length (m'+1) 0 s b hs (by omega) (by omega)with⟨g1,g2⟩|⟨s',b',g1,g2,g3⟩
      ·rw[List.drop_zero]at g1;rw[g1,Option.bind_none];exact .inl ⟨rfl,g2⟩
      ·rw[List.drop_zero]at g1;rw[g1,Option.bind_some];rw[show itL (f6 (dC lay0.tab (m'+1)) (m'+1) _ _ _) (m'+1) (me.code.length,b,(i:Int),_,_,_,0,de c,t.r,me.r,_)=_ from g3];simp only[wS (show i<eH by unfold eH;omega)];exact ih s' b' g2
    have h1in:=jO hin;cases h3o:az x.op 3 with
    |false=>
     have hsT:lA x v.set=v.set:=by unfold lA;rw[h3o];rfl
     refine key (m3 me.locals.length v.set) v.set rfl hvm.2 hsT.symm _ ?_;show iL (az x.op 3) _ _=_;rw[h3o,bo];simp only[lκ (l:=m3 me.locals.length v.set) (i:=me.locals.length) (by rw[aaq];exact Nat.le_refl _)]
    |true=>
     rw[eqI_t.1 h3o]at h1in;obtain⟨a0,a1⟩:=EJ (n:=me.locals.length) h1in;have hsT:lA x v.set=v.set ||| 2 ^ x.a.toNat:=by unfold lA;rw[h3o];rfl
     have hlt2:v.set ||| 2 ^ x.a.toNat<2 ^ me.locals.length:=Nat.or_lt_two_pow hvm.2 (Nat.pow_lt_pow_right (by omega) (by omega));refine key ((m3 me.locals.length v.set).set (0+x.a.toNat) (Da.bool true)) (v.set ||| 2 ^ x.a.toNat) (by rw[Nat.zero_add];exact aeI (by omega)) hlt2 hsT.symm _ ?_;show iL (az x.op 3) (iL (aL 0 x.a) (iL (aG x.a (me.locals.length:Int)) (cL ((m3 me.locals.length v.set)[0+x.a.toNat]?) _) _) _) _=_;rw[h3o,be,bj,lν a0,be,hZ a1,be,Nat.zero_add,aeH (by omega),bG,show PO (Da.bool (v.set.testBit x.a.toNat))=false from rfl,bo,show ∀b K,aH (Da.bool b) K=K b from fun _ _=>rfl];have htt:List.take me.locals.length ((m3 me.locals.length v.set).set (0+x.r.A.toNat) (Da.bool true))=(m3 me.locals.length v.set).set x.a.toNat (Da.bool true):=by
      rw[show 0+x.r.A.toNat=x.a.toNat from Nat.zero_add _];exact lκ (by rw[List.length_set,aaq];exact Nat.le_refl _)
     simp only[htt]
end
end
def abE {n:Nat}(c:Int):Ω (n+1) 221 [.p (.int .u8 c)] []=some (pB (W0 c),[]):=by
 apply ad9 n c;simp only[abF,nV,Oy,OB,Bool.and_true,W0]
def adc {n:Nat}(c:Int):Ω (n+1) 295 [.p (.int .u8 c)] []=some (pB (P1 c),[]):=by
 apply adB n c;unfold abp P1;cases aL 97 c<;>cases aL c 122<;>cases aL 65 c<;>cases aL c 90<;>cases az c 95<;>rfl
def aeR {n:Nat}(c:Int):Ω (n+2) 220 [.p (.int .u8 c)] []=some (pB (UQ c),[]):=by
 apply ae4 (n+1) c;simp only[acb,aa (adc (n:=n) c),aa (abE (n:=n) c),aY,aJ,aB,nV,Oy,YI,Bool.or_false,UQ]
def abD {n:Nat}(s:LN):Ω (n+1) 222 [pS s] []=some (pB (XJ s),[]):=by
 apply abL n s;simp only[aaC,nV,Oy,YI,XJ,List.any_cons,List.any_nil,Bool.or_false]
def afF (s:LN):Bool:=s.all (fun c=>UQ (c:Int))&&(decide (1<=s.length)&&(decide (s.length<=32)&&(!W0 ((s.headD 0:Nat):Int)&&!XJ s)))
def af5 (c:Int):(P1 c&&W0 c)=false:=by
 unfold P1 W0;rw[Bool.eq_false_iff];simp only[ne_eq,lγ,qγ,bj,cE,lδ];omega
def afG (s:LN):afF s=pF s:=by
 cases s with
 |nil=>rfl
 |cons c r=>
  unfold afF pF QX X5;rw[show cg (c::r) []=false from rfl,Bool.not_false,Bool.true_and,show(c::r).headD 0=c from rfl,show decide (1<=(c::r).length)=true from lν (by simp),Bool.true_and];have h32:aL ((c::r).length:Int) 32=decide ((c::r).length<=32):=by rw[bj];exact decide_eq_decide.2 (by omega)
  rw[h32];have hld:=af5 (c:Int);cases hall:(c::r).all (fun c=>UQ (c:Int))with
  |true=>
   have hw:UQ (c:Int)=true:=mε.1 hall c lυ;have hn:(c::r).findIdx? À=none:=mτ.2 fun x hx=>by unfold À;rw[mε.1 hall x hx];rfl
   rw[hn,Option.getD_none];unfold UQ at hw;cases hl:P1 (c:Int)with
   |true=>
    rw[hl]at hld;rw[show W0 (c:Int)=false from hld,cond_true,eqI_t.2 rfl];rfl
   |false=>
    rw[hl]at hw;rw[show W0 (c:Int)=true from hw,cond_false,show az ((0:Nat):Int) ((c::r).length:Int)=false by rw[cE];exact mθ (by simp only[List.length_cons];omega)];simp
  |false=>
   obtain⟨j,hj⟩:∃j,(c::r).findIdx? À=some j:=by
    rw[<-Option.isSome_iff_exists,List.findIdx?_isSome,qν];rw[List.all_eq_false]at hall;obtain⟨x,hx,h⟩:=hall;exact⟨x,hx,by unfold À;simp only[Bool.not_eq_true]at h;rw[h];rfl⟩
   have hlt:j<(c::r).length:=(qη.1 hj).1;rw[hj,Option.getD_some,show az ((bif P1 (c:Int)then j else 0:Nat):Int) ((c::r).length:Int)=false by
    rw[cE];refine mθ ?_;simp only[List.length_cons]at hlt ⊢
    cases P1 (c:Int)<;>simp only[cond_true,cond_false]<;>omega]
   simp
def aaB (s:LN)(h:s.length<1501)(hm:1505<=m):Ω m 141 [pS s] []=dX (pF s):=by
 obtain⟨n,rfl⟩:∃n,m=n+3:=⟨m - 3,by omega⟩
 rw[<-afG];apply adA (n+2) s;unfold abo;refine(bA s (fun q i=>itL (wa _ (n+2) _ _) q (s,i)) (fun c=>!UQ (c:Int)) (fun i=>some (pB false,[])) (some (pB (decide (1<=s.length)&&(decide (s.length<=32)&&(!W0 ((s.headD 0:Nat):Int)&&!XJ s))),[])) (fun q i hi=>?_) (fun q=>?_) (by omega)).trans ?_
 ·rw[bb];simp only[wa,hZ (show((i:Int)<(s.length:Int)) by omega),be,bj,show(0:Int)<=(i:Int) by omega,decide_true,cond_true,Int.toNat_natCast,lε hi,bG,wS (show i<eH by unfold eH;omega),show ∀k:Nat,Int.ofNat k=(k:Int)from fun _=>rfl,aa (aeR (n:=n) _),aY,aJ,aB];cases UQ (s[i]:Int)<;>rfl
 ·rw[bb];simp only[wa,eT,bo];cases s with
  |nil=>rfl
  |cons c r=>
   simp only[bj,show(1:Int)<=((c::r).length:Int) by simp only[List.length_cons];omega,decide_true,be,Int.le_refl,cond_true,Int.toNat_zero,List.getElem?_cons_zero,bG,show ∀k:Nat,Int.ofNat k=(k:Int)from fun _=>rfl,aa (abE (n:=n+1) _),aa (abD (n:=n+1) _),aY,aJ,aB];rw[show(decide (((c::r).length:Int)<=32))=decide ((c::r).length<=32)from by rw[mζ];simp only[lδ];omega,show decide (1<=(c::r).length)=true from lν (by simp),show(c::r).headD 0=c from rfl];cases decide ((c::r).length<=32)<;>cases W0 (c:Int)<;>cases XJ (c::r)<;>rfl
 ·unfold afF;rw[gL];cases s.findIdx? (fun(c:Nat)=>!UQ (c:Int))<;>rfl
def afl (l:LI)(h:l.length<1501)(hm:1503<=m):Ω m 223 [pL 1 (l.map iE)] []=dX (l.all im):=by
 replace hm:=ei hm;obtain⟨m,rfl,hm⟩:=hm;apply afu m (l.map iE);unfold adm;refine(bA l (fun q i=>itL (aaf _ m _ _) q (l.map iE,i)) (fun k=>!im k) (fun _=>some (pB false,[])) (some (pB true,[])) (fun q i hi=>?_) (fun q=>?_) (by omega)).trans ?_
 ·rw[bb];simp only[aaf,lβ,hZ (show((i:Int)<(l.length:Int)) by omega),be,aU,bf,bw hi,bG,dI,wS (show i<eH by unfold eH;omega)];have e:im l[i]=(!aG l[i] 1&&!aG 5 l[i]):=by unfold im;simp only[bj,bX,<-decide_not,Int.not_lt]
  rw[e];cases aG l[i] 1<;>cases aG 5 l[i]<;>rfl
 ·rw[bb];simp only[aaf,lβ,eT,bo]
 ·rw[gL];cases l.findIdx? fun k=>!im k<;>rfl
def rIx (o:Option Nat):R:=some (.tup [pI (o.getD 0:Nat),pB o.isSome],[])
def adf (c:List Ct)(s:LN)(hl:c.length<1501)(hm:1503<=m):Ω m 41 [.p (de c).e,pS s] []=rIx (c.findIdx? fun t=>cg t.name s):=by
 replace hm:=ei hm;obtain⟨m,rfl,hm⟩:=hm;apply afp m (de c) s;unfold adh;refine(bA c (fun q i=>itL (aad _ m _ _) q (s,i,de c)) (fun t=>cg t.name s) (fun i=>rIx (some i)) (rIx none) (fun q i hi=>?_) (fun q=>?_) (by omega)).trans ?_
 ·rw[bb];simp only[aad,show(de c).Types=c.map Ct.e from rfl,lβ,hZ (show((i:Int)<(c.length:Int)) by omega),be,aU,bf,bw hi,bG,Cs,wS (show i<eH by unfold eH;omega)];exact mj _ _ _
 ·rw[bb];simp only[aad,show(de c).Types=c.map Ct.e from rfl,lβ,eT,bo];rfl
 ·cases c.findIdx? fun t=>cg t.name s<;>rfl
def ade (t:Ct)(s:LN)(hl:t.methods.length<1501)(hm:1503<=m):Ω m 42 [.p t.e,pS s] []=rIx (t.methods.findIdx? fun t=>cg t.name s):=by
 replace hm:=ei hm;obtain⟨m,rfl,hm⟩:=hm;apply afo m t.r s;unfold adg;refine(bA t.methods (fun q i=>itL (aac _ m _ _) q (s,i,t.r)) (fun t=>cg t.name s) (fun i=>rIx (some i)) (rIx none) (fun q i hi=>?_) (fun q=>?_) (by omega)).trans ?_
 ·rw[bb];simp only[aac,show t.r.Methods=t.methods.map Cm.e from rfl,lβ,hZ (show((i:Int)<(t.methods.length:Int)) by omega),be,aU,bf,bw hi,bG,FQ,wS (show i<eH by unfold eH;omega)];exact mj _ _ _
 ·rw[bb];simp only[aac,show t.r.Methods=t.methods.map Cm.e from rfl,lβ,eT,bo];rfl
 ·cases t.methods.findIdx? fun t=>cg t.name s<;>rfl
def abM (a:Int):az a a=true:=eqI_t.2 rfl
def afk (c:List Ct)(t:Ct)(me:Cm)(x:Cd)(hm:1510<=m):Ω m 224 [.p (de c).e,.p t.e,.p me.e,.p x.e] []=dX (gX c t me x):=by
 replace hm:=ei hm;obtain⟨m,rfl,hm⟩:=hm;apply aft m (de c) t.r me.r x.r;unfold adl;obtain⟨op,a,b,v⟩:=x;have hs:∀K,dC lay0.tab m 50 [.p (.agg [(.int .i64 v.k),(.int .i64 v.n),(.str v.s),(.slice 1 (v.I.map iE)),(.slice 1 (v.L.map .str))]),.p (.agg [(.int .i64 0),(.int .i64 0),(.str []),(.slice 1 []),(.slice 1 [])])] [] K=K (pB (fd v v0)) []:=aa (v_ v v0 (.inr (by decide)) (.inr (by decide)) (m:=m) (by omega));have hv:∀K,dC lay0.tab m 28 [.p (.agg [(.int .i64 v.k),(.int .i64 v.n),(.str v.s),(.slice 1 (v.I.map iE)),(.slice 1 (v.L.map .str))])] [] K=K (pB (ra v)) []:=aa (i_ v (m:=m) (by omega));have hss:ra v=true->∀K,dC lay0.tab m 50 [.p (.agg [(.int .i64 v.k),(.int .i64 v.n),(.str v.s),(.slice 1 (v.I.map iE)),(.slice 1 (v.L.map .str))]),.p (.agg [(.int .i64 v.k),(.int .i64 v.n),(.str v.s),(.slice 1 (v.I.map iE)),(.slice 1 (v.L.map .str))])] [] K=K (pB true) []:=fun h=>by
  rw[N_]at h;simp only[lγ,Bool.not_eq_true',ϑ,qε,bX,lζ,j3]at h;have:=aa (v_ v v (.inl (by omega)) (.inl (by omega)) (m:=m) (by omega));rw[show fd v v=true by unfold fd;simp only[cE,ma,decide_true,Bool.and_self]]at this;exact this
 simp only[Cd.r,Cm.r,Ct.r,de,hs,hv,aY,aJ,aB,lβ,abM,be];by_cases h1:op=1
 ·subst h1;show iL (ra v) (iL (!az v.k 0) (iL (az a 0) (iL (az b 0) (dC lay0.tab m 50 _ [] _) _) _) _) _=dX (az a 0&&az b 0&&(ra v&&!az v.k 0));cases hvv:ra v with
  |false=>cases az a 0<;>cases az b 0<;>rfl
  |true=>simp only[hss hvv];cases az v.k 0<;>cases az a 0<;>cases az b 0<;>rfl
 by_cases h2:op=2
 ·subst h2;show iL (aL 0 a) (iL (aG a me.locals.length) (iL (az b 0) _ _) _) _=dX ((true&&true&&az b 0)&&(fd v v0&&(aL 0 a&&aG a me.locals.length)));cases aL 0 a<;>cases aG a me.locals.length<;>cases az b 0<;>cases fd v v0<;>rfl
 by_cases h3:op=3
 ·subst h3;show iL (aL 0 a) (iL (aG a me.locals.length) (iL (az b 0) _ _) _) _=dX ((true&&true&&az b 0)&&(fd v v0&&(aL 0 a&&aG a me.locals.length)));cases aL 0 a<;>cases aG a me.locals.length<;>cases az b 0<;>cases fd v v0<;>rfl
 by_cases h4:op=4
 ·subst h4;show iL (aL 0 a) (iL (aG a t.fields.length) (iL (az b 0) _ _) _) _=dX ((true&&true&&az b 0)&&(fd v v0&&(aL 0 a&&aG a t.fields.length)));cases aL 0 a<;>cases aG a t.fields.length<;>cases az b 0<;>cases fd v v0<;>rfl
 by_cases h5:op=5
 ·subst h5;show iL (aL 0 a) (iL (aG a t.fields.length) (iL (az b 0) _ _) _) _=dX ((true&&true&&az b 0)&&(fd v v0&&(aL 0 a&&aG a t.fields.length)));cases aL 0 a<;>cases aG a t.fields.length<;>cases az b 0<;>cases fd v v0<;>rfl
 have h17:aL a 16=aG a 17:=by rw[bj,bX];exact decide_eq_decide.2 (by omega)
 rw[h17];by_cases h26:op=26
 ·subst h26;show iL (aL 0 a) (iL (aG a 17) (iL (az b 0) _ _) _) _=dX ((true&&true&&az b 0)&&(fd v v0&&(aL 0 a&&aG a 17)));cases aL 0 a<;>cases aG a 17<;>cases az b 0<;>cases fd v v0<;>rfl
 by_cases h27:op=27
 ·subst h27;show iL (aL 0 a) (iL (aG a 17) (iL (az b 0) _ _) _) _=dX ((true&&true&&az b 0)&&(fd v v0&&(aL 0 a&&aG a 17)));cases aL 0 a<;>cases aG a 17<;>cases az b 0<;>cases fd v v0<;>rfl
 by_cases h28:op=28
 ·subst h28;show iL (aL 0 a) (iL (aG a me.code.length) (iL (az b 0) _ _) _) _=dX ((true&&true&&az b 0)&&(fd v v0&&(aL 0 a&&aG a me.code.length)));cases aL 0 a<;>cases aG a me.code.length<;>cases az b 0<;>cases fd v v0<;>rfl
 by_cases h29:op=29
 ·subst h29;show iL (aL 0 a) (iL (aG a me.code.length) (iL (az b 0) _ _) _) _=dX ((true&&true&&az b 0)&&(fd v v0&&(aL 0 a&&aG a me.code.length)));cases aL 0 a<;>cases aG a me.code.length<;>cases az b 0<;>cases fd v v0<;>rfl
 by_cases h30:op=30
 ·subst h30;have hc:gX c t me ⟨30,a,b,v⟩=(fd v v0&&(fA c a b).isSome):=rfl;rw[hc];show iL (aL 0 a) (iL (aG a c.length) (iL (aL 0 b) (cL (bU (c.map Ct.e) a) _) _) _) _=_;have ha:=Hk c a;unfold fD at ha;unfold fA;rw[aU,bf];cases hat:dj c a with
  |none=>
   rw[hat]at ha;rw[Option.bind_none,show(none:Option Cm).isSome=false from rfl,Bool.and_false];cases h0:aL 0 a with
   |false=>rfl
   |true=>rw[h0]at ha;rw[show aG a c.length=false from ha];rfl
  |some u=>
   rw[hat]at ha;rw[show(some u).isSome=true from rfl,lγ]at ha;rw[ha.1,ha.2,be,be,Option.bind_some,bG,Cs];show iL (aL 0 b) (iL (aG b ((u.methods.map Cm.e).length:Int)) _ _) _=_;rw[lβ,<-Hk u.methods b];unfold fD;cases aL 0 b<;>cases aG b u.methods.length<;>cases fd v v0<;>rfl
 have ne:∀{k:Int},op≠k->az op k=false:=fun h=>by rw[cE];exact mθ h
 simp only[ne h1,ne h2,ne h3,ne h4,ne h5,ne h26,ne h27,ne h28,ne h29,ne h30,bo];have hu:Ys op=false:=by
  rw[Bool.eq_false_iff];unfold Ys;simp only[ne_eq,qγ,lγ,bj,cE,lδ];omega
 have e1:aL 1 op=!aG op 1:=by rw[bj,bX,<-decide_not];exact decide_eq_decide.2 (by omega)
 have e2:aL op 36=!aG 36 op:=by rw[bj,bX,<-decide_not];exact decide_eq_decide.2 (by omega)
 unfold gX;simp only[ne h1,ne h2,ne h3,ne h4,ne h5,ne h26,ne h27,ne h28,ne h29,ne h30,hu,e1,e2,cond_false,Bool.false_or];cases aG op 1<;>cases aG 36 op<;>cases az a 0<;>cases az b 0<;>cases fd v v0<;>rfl
def acK (c:List Ct)(t:Ct)(m:Cm):Bool:=pF m.name&&(!aG 4 m.params.length&&(!aG 8 m.locals.length&&(!aG m.locals.length m.params.length&&(m.locals.all im&&(decide (m.params=m.locals.take m.params.length)&&(!aG m.res 0&&(!aG 5 m.res&&(!aG m.code.length 1&&m.code.all (gX c t m)))))))))
def af6 (c:List Ct)(t:Ct)(m:Cm):acK c t m=(pF m.name&&uS c t m):=by
 unfold acK uS;rw[mζ];simp only[lγ,qγ,Bool.not_eq_true',bX,cE,lζ,lδ,mε];have hk:∀k,im k=true↔1<=k/\k<=5:=fun k=>by unfold im;simp only[lγ,bj,lδ]
 constructor
 ·rintro⟨a1,a2,a3,a4,a5,a6,a7,a8,a9,a10⟩
  refine⟨a1,a2,fun k hk=>a5 k ?_,?_,a3,a5,a4,a6.symm,by omega,a10⟩
  ·rw[a6]at hk;exact qθ hk
  ·by_cases h:m.res=0
   ·exact .inl h
   ·exact .inr ((hk _).2 (by omega))
 ·rintro⟨a1,a2,a3,a4,a5,a6,a7,a8,a9,a10⟩
  have:0<=m.res/\m.res<=5:=by
   rcases a4 with h|h
   ·omega
   ·have:=(hk _).1 h;omega
  exact⟨a1,a2,a5,a7,a6,a8.symm,by omega,by omega,by omega,a10⟩
def aeV (c:List Ct)(t:Ct)(me:Cm)(hz:Î me)(hn:me.name.length<1501)(hm:3013<=m):Ω m 142 [.p (de c).e,.p t.e,.p me.e] []=dX (acK c t me):=by
 replace hm:=ei hm;obtain⟨m,rfl,hm⟩:=hm;apply afb m (de c) t.r me.r;unfold aci acK;have h1:=aa (aaB me.name hn (m:=m) (by omega));have h2:=aa (afl me.locals hz.l (m:=m) (by omega));have h3:∀K,dC lay0.tab m 93 [pL 1 (me.params.map iE),pL 1 ((me.locals.map iE).take me.params.length)] [] K=K (pB (decide (me.params=me.locals.take me.params.length))) []:=by
  rw[<-List.map_take];exact aa (t_ me.params (me.locals.take me.params.length) (.inl hz.p) (m:=m) (by omega))
 have hle:aL (me.params.length:Int) (me.locals.length:Int)=!aG (me.locals.length:Int) (me.params.length:Int):=by
  rw[bj,bX,<-decide_not];exact decide_eq_decide.2 (by omega)
 have run:itL (m9 (dC lay0.tab m) m (fun _=>dX false) (fun _=>dX true)) m (0,de c,t.r,me.r)=dX (me.code.all (gX c t me)):=by
  have:=hz.c;refine(bA me.code (fun q i=>itL (m9 _ m _ _) q (i,de c,t.r,me.r)) (fun x=>!gX c t me x) (fun _=>dX false) (dX true) (fun q i hi=>?_) (fun q=>?_) (by omega)).trans ?_
  ·rw[bb];have hi2:=aa (afk c t me me.code[i] (m:=m) (by omega));simp only[m9,show me.r.Code=me.code.map Cd.e from rfl,lβ,hZ (show((i:Int)<(me.code.length:Int)) by omega),be,aU,bf,bw hi,bG,Vf,wS (show i<eH by unfold eH;omega)];refine(hi2 _).trans ?_;simp only[aY,aJ,aB];cases gX c t me me.code[i]<;>rfl
  ·rw[bb];simp only[m9,show me.r.Code=me.code.map Cd.e from rfl,lβ,eT,bo]
  ·rw[gL];cases me.code.findIdx? fun x=>!gX c t me x<;>rfl
 simp only[Cm.r,lβ,Int.toNat_natCast,Nat.sub_zero,List.drop_zero,h1,h2,h3,hle,aY,aJ,aB];simp only[Cm.r,dX]at run;rw[show itL (m9 (dC lay0.tab m) m _ _) m (0,de c,t.r,_)=_ from run];cases pF me.name<;>cases aG 4 (me.params.length:Int)<;>cases aG 8 (me.locals.length:Int)<;>cases aG (me.locals.length:Int) (me.params.length:Int)<;>cases me.locals.all im<;>cases decide (me.params=me.locals.take me.params.length)<;>cases aG me.res 0<;>cases aG 5 me.res<;>cases aG (me.code.length:Int) 1<;>rfl
section
structure NmT (t:Ct):Prop where
 n:t.name.length<1501
 f:∀f∈t.fields,f.name.length<1501
 m:∀m∈t.methods,m.name.length<1501
def NmC (c:List Ct):Prop:=∀t∈c,NmT t
def abk (fs:List Fe)(k:Nat)(f:Fe):Bool:=pF f.name&&(!aG f.kind 1&&(!aG 5 f.kind&&(az f.init.k f.kind&&(ra f.init&&(fs.take k).all fun g=>!cg g.name f.name))))
def abl (c:List Ct)(t:Ct):Nat->Nat->List Cm->Option Nat
 |a,_,[]=>some a
 |a,j,x::r=>bif decide (t.methods.findIdx? (fun y=>cg y.name x.name)=some j)&&(!aG 3000 (a+x.code.length:Nat)&&acK c t x)then abl c t (a+x.code.length) (j+1) r else none
def ad0 (c:List Ct):Nat->Nat->List Ct->Option Nat
 |a,_,[]=>some a
 |a,i,t::r=>bif decide (c.findIdx? (fun y=>cg y.name t.name)=some i)&&(pF t.name&&(!aG 8 t.fields.length&&(!aG 16 t.methods.length&&(t.fields.zipIdx).all fun p=>abk t.fields p.2 p.1)))then(abl c t a 0 t.methods).bind fun b=>ad0 c b (i+1) r else none
section
variable {m:Nat} (c:List Ct) (t:Ct) (hm:3020<=m)
include hm
def agS (a i k:Nat)(f:Fe)(hk:k<=t.fields.length)(hl:t.fields.length<1501)(k0 k1:_->R){E Z:R}(h1:∀x,k1 x=E)(h0:∀j,k0 ((a:Int),(i:Int),(k:Int),j,de c,t.r,f.r)=Z):itL (T_ (dC lay0.tab m) m k0 k1) m ((a:Int),(i:Int),(k:Int),0,de c,t.r,f.r)=bif(t.fields.take k).all fun g=>!cg g.name f.name then Z else E:=by
 have hlen:(t.fields.take k).length=k:=by rw[mγ];omega
 refine(bA (t.fields.take k) (fun q j=>itL (T_ (dC lay0.tab m) m k0 k1) q ((a:Int),(i:Int),(k:Int),j,de c,t.r,f.r)) (fun g=>cg g.name f.name) (fun _=>E) Z (fun q j hj=>?_) (fun q=>?_) (by omega)).trans ?_
 ·rw[bb];have hj2:j<t.fields.length:=by omega
  simp only[T_,hZ (show((j:Int)<(k:Int)) by omega),be,show t.r.Fields=t.fields.map Fe.e from rfl,aU,bf,bw hj2,bG,YN,h1,wS (show j<eH by unfold eH;omega),List.getElem_take];exact mj _ _ _
 ·rw[bb];simp only[T_,hlen,eT,bo,h0]
 ·rw[jY];cases(t.fields.take k).findIdx? fun g=>cg g.name f.name<;>rfl
def agR (a i:Nat)(hl:t.fields.length<1501)(hn:NmT t)(k0 k1:_->R){E Z:R}(h0:∀x,k0 x=E)(h1:k1 ((a:Int),(i:Int),(t.fields.length:Int),de c,t.r)=Z):itL (m6 (dC lay0.tab m) m k0 k1) m ((a:Int),(i:Int),0,de c,t.r)=bif(t.fields.zipIdx).all fun p=>abk t.fields p.2 p.1 then Z else E:=by
 have hlen:(t.fields.zipIdx).length=t.fields.length:=List.length_zipIdx;refine(bA (t.fields.zipIdx) (fun q k=>itL (m6 (dC lay0.tab m) m k0 k1) q ((a:Int),(i:Int),k,de c,t.r)) (fun p=>!abk t.fields p.2 p.1) (fun _=>E) Z (fun q k hk=>?_) (fun q=>?_) (by omega)).trans ?_
 ·rw[bb];have hk2:k<t.fields.length:=by omega
  have hnm:=aa (aaB t.fields[k].name (hn.f _ (lρ hk2)) (m:=m) (by omega));have hv:=aa (i_ t.fields[k].init (m:=m) (by omega));simp only[Va.e,Va.c]at hv;have h3:=agS c t hm a i k t.fields[k] (by omega) hl (fun x=>itL (m6 (dC lay0.tab m) m k0 k1) q (x.1,x.2.1,ag .i64 (x.2.2.1+1),x.2.2.2.2.1,x.2.2.2.2.2.1)) (fun x=>k0 (x.1,x.2.1,x.2.2)) (E:=E) (Z:=itL (m6 (dC lay0.tab m) m k0 k1) q ((a:Int),(i:Int),((k+1:Nat):Int),de c,t.r)) (fun x=>h0 _) (fun j=>by simp only[wS (show k<eH by unfold eH;omega)]);simp only[m6,show t.r.Fields=t.fields.map Fe.e from rfl,lβ,hZ (show((k:Int)<(t.fields.length:Int)) by omega),be,aU,bf,bw hk2,bG,YN,h0,List.getElem_zipIdx,Nat.zero_add];simp only[h0]at h3;show dC lay0.tab m 141 [pS t.fields[k].name] [] _=_;rw[hnm];simp only[aY,aJ,aB,Fe.r,hv];simp only[Fe.r]at h3;rw[show itL (T_ (dC lay0.tab m) m _ _) m ((a:Int),(i:Int),(k:Int),0,de c,t.r,_)=_ from h3];unfold abk;cases pF t.fields[k].name<;>cases aG t.fields[k].kind 1<;>cases aG 5 t.fields[k].kind<;>cases az t.fields[k].init.k t.fields[k].kind<;>cases ra t.fields[k].init<;>cases(t.fields.take k).all (fun g=>!cg g.name t.fields[k].name)<;>rfl
 ·rw[bb];simp only[m6,show t.r.Fields=t.fields.map Fe.e from rfl,lβ,hlen,eT,bo];exact h1
 ·rw[gL];cases(t.fields.zipIdx).findIdx? fun p=>!abk t.fields p.2 p.1<;>rfl
def agH (hz:Yy t)(hn:NmT t)(i:Nat)(k0 k1:_->R){E:R}(h0:∀x,k0 x=E):∀(d q j a:Nat),j+d=t.methods.length->d<q->a<=3000->
  itL (U_ (dC lay0.tab m) m k0 k1) q ((a:Int),(i:Int),(j:Int),de c,t.r)=mO (abl c t a j (t.methods.drop j)) E fun b=>k1 ((b:Int),(i:Int),(t.methods.length:Int),de c,t.r)
 |0,q+1,j,a,h,_,_=>by
  obtain rfl:j=t.methods.length:=by omega
  rw[bb,List.drop_length];simp only[U_,show t.r.Methods=t.methods.map Cm.e from rfl,lβ,eT,bo,abl,agJ]
 |d+1,q+1,j,a,h,hq,ha=>by
  have hj:j<t.methods.length:=by omega
  have hlm:=hz.m;have hzm:=hz.s _ (lρ hj);have hc:=hzm.c;have hf:=aa (ade t t.methods[j].name hz.m (m:=m) (by omega));have hme:=aa (aeV c t t.methods[j] hzm (hn.m _ (lρ hj)) (m:=m) (by omega));have ih:=agH hz hn i k0 k1 h0 d q (j+1) (a+t.methods[j].code.length) (by omega) (by omega);obtain⟨jj,hjj⟩:∃jj,t.methods.findIdx? (fun y=>cg y.name t.methods[j].name)=some jj:=by
   rw[<-Option.isSome_iff_exists,List.findIdx?_isSome,qν];exact⟨_,lρ hj,by rw[ma];exact lν rfl⟩
  have w:ag .i64 ((a:Int)+(t.methods[j].code.length:Int))=((a+t.methods[j].code.length:Nat):Int):=by rw[fO (by omega) (by omega)];omega
  rw[bb,mπ hj];simp only[U_,show t.r.Methods=t.methods.map Cm.e from rfl,lβ,hZ (show((j:Int)<(t.methods.length:Int)) by omega),be,aU,bf,bw hj,bG,FQ,h0];refine(hf _).trans ?_;rw[hjj];simp only[c3,aR,aY,bW,aJ,aB,Option.getD_some,Option.isSome_some,be];rw[show t.methods[j].r.Code=t.methods[j].code.map Cd.e from rfl,lβ,Q5 (show ¬(3001:Int)<(t.methods[j].code.length:Int) by omega),cond_false,w];unfold abl;rw[hjj];by_cases hjk:jj=j
  ·subst hjk;rw[abM,Bool.not_true,bo,lν rfl,Bool.true_and];cases hlt:aG 3000 ((a+t.methods[jj].code.length:Nat):Int)with
   |true=>rfl
   |false=>
    rw[bX,lζ]at hlt;rw[bo,Bool.not_false,Bool.true_and];refine(hme _).trans ?_;simp only[aY,aJ,aB];cases acK c t t.methods[jj]with
    |false=>rfl
    |true=>
     rw[be,cond_true,wS (show jj<eH by unfold eH;omega)];exact ih (by omega)
  ·rw[show az (jj:Int) (j:Int)=false by rw[cE];exact mθ (by omega),Bool.not_false,be,show decide (some jj=some j)=false from mθ (fun e=>hjk (Option.some.inj e))];rfl
end
def acJ {c:List Ct}{t:Ct}:∀{l:List Cm} {a j b:Nat},abl c t a j l=some b->a<=3000->b<=3000
 |[],a,j,b,h,ha=>by cases h;exact ha
 |x::r,a,j,b,h,ha=>by
  unfold abl at h;cases h1:decide (t.methods.findIdx? (fun y=>cg y.name x.name)=some j)&&(!aG 3000 (a+x.code.length:Nat)&&acK c t x)with
  |false=>rw[h1]at h;cases h
  |true=>
   rw[h1]at h;simp only[lγ,Bool.not_eq_true',bX,lζ]at h1;exact acJ h (by omega)
section
variable {m:Nat} (c:List Ct) (t:Ct) (hm:3020<=m)
include hm
def agG (hc:AJ c)(hn:NmC c)(k0 k1 k2:_->R){E:R}{Z:R}(h0:∀x,k0 x=E)(h1:∀x,k1 x=E)(h2:∀x,k2 x=Z):∀(d q i a:Nat),i+d=c.length->d<q->a<=3000->
  itL (S_ (dC lay0.tab m) m k0 k1 k2) q ((a:Int),(i:Int),de c)=bif(ad0 c a i (c.drop i)).isSome then Z else E
 |0,q+1,i,a,h,_,_=>by
  obtain rfl:i=c.length:=by omega
  rw[bb,List.drop_length];simp only[S_,show(de c).Types=c.map Ct.e from rfl,lβ,eT,bo,h2];rfl
 |d+1,q+1,i,a,h,hq,ha=>by
  have hi:i<c.length:=by omega
  have hcn:=hc.n;have hzt:=hc.s _ (lρ hi);have hnt:=hn _ (lρ hi);have hft:=hzt.f;have hmt:=hzt.m;have hf:=aa (adf c c[i].name hc.n (m:=m) (by omega));have hnm:=aa (aaB c[i].name hnt.n (m:=m) (by omega));have ih:=fun b=>agG hc hn k0 k1 k2 h0 h1 h2 d q (i+1) b (by omega) (by omega)
  obtain⟨jj,hjj⟩:∃jj,c.findIdx? (fun y=>cg y.name c[i].name)=some jj:=by
   rw[<-Option.isSome_iff_exists,List.findIdx?_isSome,qν];exact⟨_,lρ hi,by rw[ma];exact lν rfl⟩
  have h4:=agH c c[i] hm hzt hnt i (fun x=>k0 x) (fun x=>itL (S_ (dC lay0.tab m) m k0 k1 k2) q (x.1,ag .i64 (x.2.1+1),x.2.2.2.1)) (E:=E) (fun x=>h0 _) c[i].methods.length m 0 a (by omega) (by omega) ha;have h2':=agR c c[i] hm a i hft hnt (fun x=>k1 x) (fun x=>itL (U_ (dC lay0.tab m) m (fun x=>k0 x) (fun x=>itL (S_ (dC lay0.tab m) m k0 k1 k2) q (x.1,ag .i64 (x.2.1+1),x.2.2.2.1))) m (x.1,x.2.1,0,x.2.2.2.1,x.2.2.2.2)) (E:=E) (fun x=>h1 _) h4
  rw[bb,mπ hi];simp only[S_,show(de c).Types=c.map Ct.e from rfl,lβ,hZ (show((i:Int)<(c.length:Int)) by omega),be,aU,bf,bw hi,bG,Cs,h0,h1];refine(hf _).trans ?_;rw[hjj];simp only[c3,aR,aY,bW,aJ,aB,Option.getD_some,Option.isSome_some,be];unfold ad0;rw[hjj];by_cases hjk:jj=i
  ·subst hjk;rw[abM,Bool.not_true,bo,lν rfl,Bool.true_and];refine(hnm _).trans ?_;simp only[aY,aJ,aB];cases pF c[jj].name with
   |false=>rfl
   |true=>
    rw[be,Bool.true_and];show iL (aG 8 ((c[jj].fields.map Fe.e).length:Int)) _ (iL (aG 16 ((c[jj].methods.map Cm.e).length:Int)) _ _)=_;rw[lβ,lβ];cases aG 8 (c[jj].fields.length:Int)with
    |true=>rfl
    |false=>
     cases aG 16 (c[jj].methods.length:Int)with
     |true=>rfl
     |false=>
      rw[bo,bo,Bool.not_false,Bool.true_and,Bool.true_and];simp only[h0,h1]at h2';rw[show itL (m6 (dC lay0.tab m) m _ _) m ((a:Int),(jj:Int),0,de c,c[jj].r)=_ from h2'];cases(c[jj].fields.zipIdx).all (fun p=>abk c[jj].fields p.2 p.1)with
      |false=>rfl
      |true=>
       rw[cond_true,cond_true,List.drop_zero];cases hme:abl c c[jj] a 0 c[jj].methods with
       |none=>rfl
       |some b=>
        rw[agJ,Option.bind_some];simp only[wS (show jj<eH by unfold eH;omega)];exact ih b (acJ hme ha)
  ·rw[show az (jj:Int) (i:Int)=false by rw[cE];exact mθ (by omega),Bool.not_false,be,show decide (some jj=some i)=false from mθ (fun e=>hjk (Option.some.inj e))];rfl
end
def frR (c:List Ct):Bool:=!aG 8 c.length&&(ad0 c 0 0 c).isSome
def afg (c:List Ct)(hc:AJ c)(hn:NmC c)(hm:3021<=m):Ω m 85 [.p (de c).e] []=dX (frR c):=by
 replace hm:=ei hm;obtain⟨m,rfl,hm⟩:=hm;apply afR m (de c);unfold aeC frR;have hcn:=hc.n;rw[show(de c).Types=c.map Ct.e from rfl,lβ];cases aG 8 (c.length:Int)with
 |true=>rfl
 |false=>
  rw[bo,Bool.not_false,Bool.true_and];have:=agG c hm hc hn (fun x=>dX false) (fun x=>dX false) (fun x=>dX true) (E:=dX false) (Z:=dX true) (fun _=>rfl) (fun _=>rfl) (fun _=>rfl) c.length m 0 0 (by omega) (by omega) (by omega);rw[List.drop_zero]at this;refine Eq.trans this ?_;cases(ad0 c 0 0 c).isSome<;>rfl
end
def abB:∀{ss seen:List LN},qG seen ss=true↔(∀s∈ss,pF s=true)/\(∀s∈ss,s∉seen)/\ss.Nodup
 |[],seen=>by simp[qG]
 |s::r,seen=>by
  have any:(!(seen.any fun t=>decide (s=t)))=true↔s∉seen:=by
   rw[Bool.not_eq_true',qκ];simp only[lδ];exact⟨fun h hm=>h s hm rfl,fun h x hx e=>h (e▸hx)⟩
  unfold qG;rw[lγ,lγ,any,abB];constructor
  ·rintro⟨h1,h2,h3,h4,h5⟩
   refine⟨fun x hx=>?_,fun x hx hm=>?_,List.nodup_cons.2 ⟨fun hm=>h4 s hm (qδ.2 (.inr (List.mem_singleton.2 rfl))),h5⟩⟩
   ·rcases lω.1 hx with rfl|hx
    ·exact h1
    ·exact h3 x hx
   ·rcases lω.1 hx with rfl|hx
    ·exact h2 hm
    ·exact h4 x hx (qδ.2 (.inl hm))
  ·rintro⟨h1,h2,h3⟩
   obtain⟨g1,g2⟩:=List.nodup_cons.1 h3;refine⟨h1 s lυ,h2 s lυ,fun x hx=>h1 x (mα _ hx),fun x hx hm=>?_,g2⟩
   rcases qδ.1 hm with hm|hm
   ·exact h2 x (mα _ hx) hm
   ·rw[List.mem_singleton.1 hm]at hx;exact g1 hx
def afH {l:List LN}:l.Nodup↔∀(i j:Nat) (a b:LN),i<j->l[i]?=some a->l[j]?=some b->a≠b:=by
 unfold List.Nodup;rw[List.pairwise_iff_getElem];constructor
 ·intro h i j a b hij ha hb;obtain⟨h1,rfl⟩:=List.getElem?_eq_some_iff.1 ha;obtain⟨h2,rfl⟩:=List.getElem?_eq_some_iff.1 hb;exact h i j h1 h2 hij
 ·intro h i j h1 h2 hij;exact h i j _ _ hij (lε h1) (lε h2)
def aeL {α:Type}{f:α->LN}{l:List α}:(∀(i:Nat) (x:α),l[i]?=some x->l.findIdx? (fun y=>cg (f y) (f x))=some i)↔(l.map f).Nodup:=by
 rw[afH];constructor
 ·intro h i j a b hij ha hb;rw[lξ]at ha hb;obtain⟨x,hx,rfl⟩:=lπ.1 ha;obtain⟨y,hy,rfl⟩:=lπ.1 hb;intro e;have h2:=h j y hy;obtain⟨h3,h4,h5⟩:=qη.1 h2;have:=h5 i hij;obtain⟨h6,rfl⟩:=List.getElem?_eq_some_iff.1 hx;rw[ma,lδ]at this;exact this e
 ·intro h i x hx;obtain⟨hi,rfl⟩:=List.getElem?_eq_some_iff.1 hx;rw[qη];refine⟨hi,by rw[ma];exact lν rfl,fun j hj=>?_⟩
  rw[ma,lδ];exact h j i _ _ hj (by rw[lξ,lε (by omega)];rfl) (by rw[lξ,lε hi];rfl)
def afI {fs:List Fe}:(∀(k:Nat) (f:Fe),fs[k]?=some f->((fs.take k).all fun g=>!cg g.name f.name)=true)↔(fs.map Zm).Nodup:=by
 rw[afH];constructor
 ·intro h i j a b hij ha hb;rw[lξ]at ha hb;obtain⟨x,hx,rfl⟩:=lπ.1 ha;obtain⟨y,hy,rfl⟩:=lπ.1 hb;have:=mε.1 (h j y hy) x (mδ (i:=i) (by rw[List.getElem?_take,if_pos hij];exact hx));simp only[Bool.not_eq_true',ma,lζ]at this;exact this
 ·intro h k f hf;rw[mε];intro g hg;obtain⟨i,hi⟩:=List.mem_iff_getElem?.1 hg;rw[List.getElem?_take]at hi;split at hi
  ·rename_i hik;simp only[Bool.not_eq_true',ma,lζ];exact h i k _ _ hik (by rw[lξ,hi];rfl) (by rw[lξ,hf];rfl)
  ·cases hi
def ada:List Cm->Nat
 |[]=>0
 |x::r=>x.code.length+ada r
def adZ {c:List Ct}{t:Ct}:∀{l:List Cm} {a b:Nat},a<=3000->(wL c t a l=some b↔(∀x∈l,uS c t x=true)/\b=a+ada l/\b<=3000)
 |[],a,b,ha=>by simp only[wL,lα,ada,List.not_mem_nil,false_imp_iff,implies_true,true_and];omega
 |x::r,a,b,ha=>by
  unfold wL;cases h1:aG 3000 (a+x.code.length:Nat)with
  |true=>
   rw[bX,lδ]at h1;simp only[cond_true,ada];constructor
   ·intro h;cases h
   ·rintro⟨-,h2,h3⟩;omega
  |false=>
   rw[bX,lζ]at h1;rw[cond_false];cases h2:uS c t x with
   |false=>
    constructor
    ·intro h;cases h
    ·rintro⟨h,-⟩;rw[h x lυ]at h2;cases h2
   |true=>
    rw[cond_true,adZ (by omega)];simp only[List.forall_mem_cons,h2,true_and,ada];constructor
    ·rintro⟨h3,h4,h5⟩;exact⟨h3,by omega,h5⟩
    ·rintro⟨h3,h4,h5⟩;exact⟨h3,by omega,h5⟩
def adI {c:List Ct}{t:Ct}:∀{l:List Cm} {a j b:Nat},a<=3000->(abl c t a j l=some b↔(∀(k:Nat) (x:Cm),l[k]?=some x->t.methods.findIdx? (fun y=>cg y.name x.name)=some (j+k)/\acK c t x=true)/\b=a+ada l/\b<=3000)
 |[],a,j,b,ha=>by simp only[abl,lα,ada,List.getElem?_nil];simp;omega
 |x::r,a,j,b,ha=>by
  have hc:∀P:Nat->Cm->Prop,(∀(k:Nat) (y:Cm),(x::r)[k]?=some y->P k y)↔P 0 x/\∀(k:Nat) (y:Cm),r[k]?=some y->P (k+1) y:=fun P=>by
   constructor
   ·intro h;exact⟨h 0 x rfl,fun k y hy=>h (k+1) y hy⟩
   ·rintro⟨h1,h2⟩ k y hy
    cases k with
    |zero=>cases hy;exact h1
    |succ k=>exact h2 k y hy
  rw[hc];unfold abl;cases h1:decide (t.methods.findIdx? (fun y=>cg y.name x.name)=some j)&&(!aG 3000 (a+x.code.length:Nat)&&acK c t x)with
  |true=>
   simp only[lγ,lδ,Bool.not_eq_true',bX,lζ]at h1;obtain⟨g1,g2,g3⟩:=h1;rw[cond_true,adI (by omega)];simp only[g1,g3,Nat.add_zero,and_self,true_and,ada];constructor
   ·rintro⟨h3,h4,h5⟩;exact⟨fun k y hy=>by rw[show j+(k+1)=j+1+k by omega];exact h3 k y hy,by omega,h5⟩
   ·rintro⟨h3,h4,h5⟩;exact⟨fun k y hy=>by rw[show j+1+k=j+(k+1) by omega];exact h3 k y hy,by omega,h5⟩
  |false=>
   rw[cond_false];constructor
   ·intro h;cases h
   ·rintro⟨⟨⟨g1,g2⟩,-⟩,h4,h5⟩
    rw[Nat.add_zero]at g1;simp only[ada]at h4;rw[g1,g2,lν rfl,Q5 (show ¬(3000:Int)<((a+x.code.length:Nat):Int) by omega)]at h1;cases h1
def adJ {c:List Ct}{t:Ct}{a b:Nat}(ha:a<=3000):((qG [] (t.methods.map Zn)=true)/\wL c t a t.methods=some b)↔abl c t a 0 t.methods=some b:=by
 rw[abB,adZ ha,adI ha];simp only[af6,lγ,Nat.zero_add];have e:(∀(k:Nat) (x:Cm),t.methods[k]?=some x->t.methods.findIdx? (fun y=>cg y.name x.name)=some k)↔(t.methods.map Zn).Nodup:=aeL (f:=Zn);constructor
 ·rintro⟨⟨h1,-,h2⟩,h3,h4⟩
  exact⟨fun k x hx=>⟨e.2 h2 k x hx,h1 _ (List.mem_map.2 ⟨x,mδ hx,rfl⟩),h3 x (mδ hx)⟩,h4⟩
 ·rintro⟨h1,h4⟩
  refine⟨⟨fun s hs=>?_,(fun s _ h=>by cases h),e.1 fun k x hx=>(h1 k x hx).1⟩,fun x hx=>?_,h4⟩
  ·obtain⟨x,hx,rfl⟩:=List.mem_map.1 hs;obtain⟨k,hk⟩:=List.mem_iff_getElem?.1 hx;exact(h1 k x hk).2.1
  ·obtain⟨k,hk⟩:=List.mem_iff_getElem?.1 hx;exact(h1 k x hk).2.2
def aee {fs:List Fe}:((fs.zipIdx).all fun p=>abk fs p.2 p.1)=true↔qG [] (fs.map Zm)=true/\fs.all CO=true:=by
 rw[abB,mε,mε,<-afI];have hk:∀k,im k=true↔1<=k/\k<=5:=fun k=>by unfold im;simp only[lγ,bj,lδ]
 have key:∀(k:Nat) (f:Fe),abk fs k f=true↔pF f.name=true/\CO f=true/\((fs.take k).all fun g=>!cg g.name f.name)=true:=fun k f=>by
  unfold abk CO;simp only[lγ,hk,Bool.not_eq_true',bX,lζ];constructor
  ·rintro⟨h1,h2,h3,h4,h5,h6⟩;exact⟨h1,⟨⟨by omega,by omega⟩,h4,h5⟩,h6⟩
  ·rintro⟨h1,⟨⟨h2,h3⟩,h4,h5⟩,h6⟩;exact⟨h1,by omega,by omega,h4,h5,h6⟩
 have mem:(∀p∈fs.zipIdx,abk fs p.2 p.1=true)↔∀(k:Nat) (f:Fe),fs[k]?=some f->abk fs k f=true:=by
  constructor
  ·intro h k f hf;exact h (f,k) (List.mem_iff_getElem?.2 ⟨k,by rw[List.getElem?_zipIdx,hf];simp⟩)
  ·rintro h ⟨f,k⟩ hp
   obtain⟨i,hi⟩:=List.mem_iff_getElem?.1 hp;rw[List.getElem?_zipIdx]at hi;obtain⟨f',hf',e⟩:=lπ.1 hi;simp only[Nat.zero_add,lμ]at e;obtain⟨rfl,rfl⟩:=e;exact h _ _ hf'
 rw[mem];simp only[key];constructor
 ·intro h;refine⟨⟨fun s hs=>?_,(fun s _ h=>by cases h),fun k f hf=>(h k f hf).2.2⟩,fun f hf=>?_⟩
  ·obtain⟨f,hf,rfl⟩:=List.mem_map.1 hs;obtain⟨k,hk⟩:=List.mem_iff_getElem?.1 hf;exact(h k f hk).1
  ·obtain⟨k,hk⟩:=List.mem_iff_getElem?.1 hf;exact(h k f hk).2.1
 ·rintro⟨⟨h1,-,h2⟩,h3⟩ k f hf
  exact⟨h1 _ (List.mem_map.2 ⟨f,mδ hf,rfl⟩),h3 f (mδ hf),h2 k f hf⟩
def ad1 {c:List Ct}:∀{l:List Ct} {a i:Nat},a<=3000->((ad0 c a i l).isSome=true↔(∀(k:Nat) (t:Ct),l[k]?=some t->c.findIdx? (fun y=>cg y.name t.name)=some (i+k)/\pF t.name=true)/\l.all vT=true/\(Hf c a l).isSome=true)
 |[],a,i,ha=>by simp[ad0,Hf]
 |t::r,a,i,ha=>by
  have hc:∀P:Nat->Ct->Prop,(∀(k:Nat) (y:Ct),(t::r)[k]?=some y->P k y)↔P 0 t/\∀(k:Nat) (y:Ct),r[k]?=some y->P (k+1) y:=fun P=>by
   constructor
   ·intro h;exact⟨h 0 t rfl,fun k y hy=>h (k+1) y hy⟩
   ·rintro⟨h1,h2⟩ k y hy
    cases k with
    |zero=>cases hy;exact h1
    |succ k=>exact h2 k y hy
  rw[hc,List.all_cons,lγ];have tv:vT t=true↔(!aG 8 t.fields.length)=true/\(!aG 16 t.methods.length)=true/\qG [] (t.methods.map Zn)=true/\((t.fields.zipIdx).all fun p=>abk t.fields p.2 p.1)=true:=by
   unfold vT;rw[aee];simp only[lγ];constructor
   ·rintro⟨h1,h2,h3,h4,h5⟩;exact⟨h1,h2,h4,h3,h5⟩
   ·rintro⟨h1,h2,h4,h3,h5⟩;exact⟨h1,h2,h3,h4,h5⟩
  rw[tv];unfold ad0 Hf;cases h1:decide (c.findIdx? (fun y=>cg y.name t.name)=some i)&&(pF t.name&&(!aG 8 t.fields.length&&(!aG 16 t.methods.length&&(t.fields.zipIdx).all fun p=>abk t.fields p.2 p.1)))with
  |false=>
   rw[cond_false];constructor
   ·intro h;cases h
   ·rintro⟨⟨⟨g1,g2⟩,-⟩,⟨⟨g3,g4,-,g5⟩,-⟩,-⟩
    rw[Nat.add_zero]at g1;rw[g1,g2,g3,g4,g5,lν rfl]at h1;cases h1
  |true=>
   rw[cond_true];simp only[lγ,lδ]at h1;obtain⟨g1,g2,g3,g4,g5⟩:=h1;simp only[g1,g2,g3,g4,g5,Nat.add_zero,and_self,true_and,and_true];cases hm:abl c t a 0 t.methods with
   |some b=>
    obtain⟨d1,d2⟩:=(adJ ha).2 hm;rw[d2,Option.bind_some,Option.bind_some,ad1 (acJ hm ha)];simp only[d1,true_and];constructor
    ·rintro⟨h3,h4⟩;exact⟨fun k y hy=>by rw[show i+(k+1)=i+1+k by omega];exact h3 k y hy,h4⟩
    ·rintro⟨h3,h4⟩;exact⟨fun k y hy=>by rw[show i+1+k=i+(k+1) by omega];exact h3 k y hy,h4⟩
   |none=>
    rw[Option.bind_none];constructor
    ·intro h;cases h
    ·rintro⟨-,⟨d1,-⟩,h4⟩
     cases ht:wL c t a t.methods with
     |none=>rw[ht]at h4;cases h4
     |some b=>rw[(adJ ha).1 ⟨d1,ht⟩]at hm;cases hm
def agv (c:List Ct):frR c=CP c:=by
 rw[mζ];unfold frR CP;simp only[lγ];rw[ad1 (by omega),abB,mε];have e:(∀(k:Nat) (t:Ct),c[k]?=some t->c.findIdx? (fun y=>cg y.name t.name)=some k)↔(c.map Yp).Nodup:=aeL (f:=Yp);simp only[Nat.zero_add];constructor
 ·rintro⟨h1,h2,h3,h4⟩
  refine⟨h1,⟨fun s hs=>?_,(fun s _ h=>by cases h),e.1 fun k x hx=>(h2 k x hx).1⟩,h3,h4⟩
  obtain⟨t,ht,rfl⟩:=List.mem_map.1 hs;obtain⟨k,hk⟩:=List.mem_iff_getElem?.1 ht;exact(h2 k t hk).2
 ·rintro⟨h1,⟨h2,-,h3⟩,h4,h5⟩
  exact⟨h1,fun k t ht=>⟨e.2 h3 k t ht,h2 _ (List.mem_map.2 ⟨t,mδ ht,rfl⟩)⟩,h4,h5⟩
def afO (c:List Ct)(hc:AJ c)(hn:NmC c)(hm:3021<=m):Ω m 85 [.p (de c).e] []=dX (CP c):=by
 rw[<-agv];exact afg c hc hn hm
section
def agK {c:List Ct}{t:Ct}{me:Cm}(hf:HI c t me){s:List SV}(h:PN me s):yO me s:=by
 have hl:=hf.l;have:2 ^ me.locals.length<=2 ^ 8:=Nat.pow_le_pow_right (by omega) hl;exact⟨h.n,fun v hv=>⟨(h.v v hv).1,by have:=(h.v v hv).2;omega⟩⟩
def adP (i:Nat):(2 ^ i - 1) ||| 2 ^ i=2 ^ (i+1) - 1:=by
 apply Nat.eq_of_testBit_eq;intro j;rw[Nat.testBit_or,Nat.testBit_two_pow_sub_one,Nat.testBit_two_pow_sub_one,Nat.testBit_two_pow];rw[mζ];simp only[qγ,lδ];omega
section
variable {m:Nat} {c:List Ct} {t:Ct} {me:Cm} (hf:HI c t me)
def agb (L:LD)(N n p:Nat)(hp:me.params.length=p)(hpn:p<=n)(hn:n<100)(k0:_->R):∀(d q i:Nat),i+d=p->d<q->itL (V_ (dC lay0.tab m) m k0) q (N,n,(i:Int),de c,t.r,me.r,L,m3 n (2 ^ i - 1))=k0 (N,n,(p:Int),de c,t.r,me.r,L,m3 n (2 ^ p - 1))
 |0,q+1,i,h,_=>by
  obtain rfl:i=p:=by omega
  rw[bb];simp only[V_,show me.r.Params=me.params.map iE from rfl,lβ,hp,eT,bo]
 |d+1,q+1,i,h,hq=>by
  have ih:=agb L N n p hp hpn hn k0 d q (i+1) (by omega) (by omega);have hb:=aeI (n:=n) (s:=2 ^ i - 1) (a:=i) (by omega);rw[adP]at hb;have e0:aL 0 (i:Int)=true:=by rw[bj];exact lν (by omega)
  have hg:(m3 n (2 ^ i - 1))[i]?=some (Da.bool ((2 ^ i - 1).testBit i)):=aeH (by omega);rw[bb];simp only[V_,show me.r.Params=me.params.map iE from rfl,lβ,hp,hZ (show((i:Int)<(p:Int)) by omega),be,e0,hZ (show((i:Int)<(n:Int)) by omega),Int.toNat_natCast,hg,bG,show ∀b,PO (Da.bool b)=false from fun _=>rfl,bo,show ∀b K,aH (Da.bool b) K=K b from fun _ _=>rfl,wS (show i<eH by unfold eH;omega),Nat.zero_add,hb];exact ih
include hf
def agc (hm:3000<=m){E:R}(k0 k1 k2 k3 k4:_->R)(h0:∀x,k0 x=E)(h1:∀x,k1 x=E)(h2:∀x,k2 x=E)(h3:∀x,k3 x=E):∀(e q:Nat) (s:List SV),PN me s->GJ s<e->e+1<q->
  (abx c t me e s=none/\itL (m7 (dC lay0.tab m) m k0 k1 k2 k3 k4) q (me.code.length,true,de c,t.r,me.r,s.map (ptE me.locals.length))=E)\/∃s',abx c t me e s=some s'/\PN me s'/\itL (m7 (dC lay0.tab m) m k0 k1 k2 k3 k4) q (me.code.length,true,de c,t.r,me.r,s.map (ptE me.locals.length))=k4 (me.code.length,de c,t.r,me.r,s'.map (ptE me.locals.length))
 |0,q,s,_,h,_=>by omega
 |e+1,q+1,s,hs,hp,hq=>by
  have hcl:=hf.z.c;have p3:=agd c t me hf hm (E:=E) (fun(u368,u369,u370,l371,u372,u373,l374)=>k0 (u368,u369,u370,l371,u372,u373,l374)) (fun(u,u1,u2,l)=>k1 (u,u1,u2,l)) (fun(u,u1,u2,l,p)=>k2 (u,u1,u2,l,p)) (fun(u388,u389,u390,l391,u392,u393)=>k3 (u388,u389,u390,l391,u392,u393)) (fun(n394,b395,i396,u397,u398,u399,l400)=>itL (m7 (dC lay0.tab m) m k0 k1 k2 k3 k4) q (n394,b395,u397,u398,u399,l400)) (fun _=>h0 _) (fun _=>h1 _) (fun _=>h2 _) (fun _=>h3 _) me.code.length m 0 s false hs (by omega) (by omega);rw[bb];unfold abx;rcases p3 with⟨g1,g2⟩|⟨s',b',g1,g2,g3⟩
  ·rw[g1,Option.bind_none];exact .inl ⟨rfl,g2⟩
  ·rw[g1,Option.bind_some];have goal:∀X,X=itL (m7 (dC lay0.tab m) m k0 k1 k2 k3 k4) q (me.code.length,b',de c,t.r,me.r,s'.map (ptE me.locals.length))->((bif b' then abx c t me e s' else some s')=none/\X=E)\/∃s'',(bif b' then abx c t me e s' else some s')=some s''/\PN me s''/\X=k4 (me.code.length,de c,t.r,me.r,s''.map (ptE me.locals.length)):=fun X eX=>by
    subst eX;cases b' with
    |true=>
     have:=(abC hf g1 (agK hf hs)).2.1.p.2 rfl;have hlt:GJ s'<GJ s:=by
      rcases this with h|h
      ·cases h
      ·exact h
     exact agc hm k0 k1 k2 k3 k4 h0 h1 h2 h3 e q s' g2 (by omega) (by omega)
    |false=>
     refine .inr ⟨s',rfl,g2,?_⟩;obtain⟨q,rfl⟩:∃k,q=k+1:=⟨q - 1,by omega⟩
     rw[bb];rfl
   exact goal _ g3
def agM (s:List SV)(hs:PN me s)(hm:2000<=m){E:R}(k0 k1:_->R)(h0:∀x,k0 x=E):itL (m5 (dC lay0.tab m) m k0 k1) m (me.code.length,0,me.r,s.map (ptE me.locals.length))=bif(s.zip me.code).all nm then k1 (me.code.length,(me.code.length:Int),me.r,s.map (ptE me.locals.length))else E:=by
 have hcl:=hf.z.c;have hl:(s.zip me.code).length=me.code.length:=by rw[qα,hs.n,Nat.min_self]
 refine(bA (s.zip me.code) (fun q i=>itL (m5 (dC lay0.tab m) m k0 k1) q (me.code.length,i,me.r,s.map (ptE me.locals.length))) (fun p=>!nm p) (fun _=>E) (k1 (me.code.length,(me.code.length:Int),me.r,s.map (ptE me.locals.length))) (fun q i hi=>?_) (fun q=>?_) (by omega)).trans ?_
 ·have hc:i<me.code.length:=by omega
  have hi2:i<s.length:=by rw[hs.n];exact hc
  rw[bb,List.getElem_zip];have g:(s.map (ptE me.locals.length))[0+i]?=some (ptE me.locals.length s[i]):=by rw[Nat.zero_add,lξ,lε hi2];rfl
  have e0:aL 0 (i:Int)=true:=by rw[bj];exact lν (by omega)
  have hat:bU (me.code.map Cd.e) (i:Int)=some (me.code[i].e):=by rw[aU,bw hc];rfl
  have h1in:=jO (hf.i _ (lρ hc));generalize me.code[i]=x at hat h1in ⊢
  generalize s[i]=v at g ⊢
  simp only[m5,hZ (show((i:Int)<(me.code.length:Int)) by omega),be,e0,Int.toNat_natCast,g,bG,show PO (ptE me.locals.length v)=true from rfl,dPt,show me.r.Code=me.code.map Cd.e from rfl,hat,Vf,h0,wS (show i<eH by unfold eH;omega)];unfold nm;cases hr:v.r with
  |false=>rfl
  |true=>
   rw[be];show iL (az x.op 2) _ _=_;cases h2:az x.op 2 with
   |false=>rfl
   |true=>
    rw[eqI_t.1 h2]at h1in;obtain⟨a0,a1⟩:=EJ (n:=me.locals.length) h1in;rw[be,cond_true];have hxa:bU (m3 me.locals.length v.set) x.r.A=some (Da.bool (v.set.testBit x.a.toNat)):=by
     have:=aed (n:=me.locals.length) (s:=v.set) (i:=x.a.toNat) (by omega);rw[mσ a0]at this;exact this
    rw[hxa,bG,show zB (Da.bool (v.set.testBit x.a.toNat))=true from rfl,be];show iL (v.set.testBit x.a.toNat) _ _=_;cases v.set.testBit x.a.toNat<;>rfl
 ·rw[bb,hl];simp only[m5,eT,bo]
 ·rw[gL];cases(s.zip me.code).findIdx? fun p=>!nm p<;>rfl
def rPo (n:Nat)(o:Option (List SV)):R:=some (.tup [pL 3 ((o.getD []).map (ptE n)),pB o.isSome],[])
def ab9 (hm:400000<=m):Ω m 49 [.p (de c).e,.p t.e,.p me.e] []=rPo me.locals.length (jG c t me):=by
 rw[<-agy hf];replace hm:=ei hm;obtain⟨m,rfl,hm⟩:=hm;apply ae6 m (de c) t.r me.r;unfold ace;have hcl:=hf.z.c;have hcn:=hf.n;have hll:=hf.l;have hpl:=hf.p;have hpn:me.params.length<=me.locals.length:=by
  have:=congrArg List.length hf.pl;rw[mγ]at this;omega
 have hs0:PN me (EN me):=by
  unfold EN;refine PN.set ⟨by rw[mμ],fun v hv=>?_⟩ 0 (by simp) (show 2 ^ me.params.length - 1<2 ^ me.locals.length by have:=Nat.pow_le_pow_right (n:=2) (by omega) hpn;have:=Nat.two_pow_pos me.params.length;omega)
  rw[(List.mem_replicate.1 hv).2];exact⟨by simp,Nat.two_pow_pos _⟩
 rw[show me.r.Code=me.code.map Cd.e from rfl,show me.r.Locals=me.locals.map iE from rfl,lβ,lβ,Int.toNat_natCast,Int.toNat_natCast];have hc1:(aL 0 (me.code.length:Int)&&aL (me.code.length:Int) (me.code.length:Int)&&Nat.ble (me.code.length*56) 281474976710656&&aL (me.code.length:Int) 9223372036854775807)=true:=by
  simp only[lγ,bj,Nat.ble_eq,lδ];omega
 have hc2:(aL 0 (me.locals.length:Int)&&aL (me.locals.length:Int) (me.locals.length:Int)&&Nat.ble (me.locals.length*1) 281474976710656&&aL (me.locals.length:Int) 9223372036854775807)=true:=by
  simp only[lγ,bj,Nat.ble_eq,lδ];omega
 have hrep:List.replicate me.code.length (Da.agg [Da.bool false,Da.slice 1 [],Da.slice 1 []])=(List.replicate me.code.length (⟨false,[],0⟩:SV)).map (ptE me.locals.length):=by rw[List.map_replicate];rfl
 have hbits:List.replicate me.locals.length (Da.bool false)=m3 me.locals.length (2 ^ 0 - 1):=by
  unfold m3;apply List.ext_getElem
  ·simp
  ·intro i h1 h2;simp
 rw[hc1,be,hc2,be,hbits];refine(agb (m:=m) (c:=c) (t:=t) (me:=me) _ me.code.length me.locals.length me.params.length rfl hpn (by omega) _ me.params.length m 0 (by omega) (by omega)).trans ?_;simp only;rw[hZ (show(0:Int)<(me.code.length:Int) by omega),be,hrep];have hget:((List.replicate me.code.length (⟨false,[],0⟩:SV)).map (ptE me.locals.length))[0]?=some (ptE me.locals.length ⟨false,[],0⟩):=by rw[lξ,List.getElem?_replicate,if_pos hcn];rfl
 have hset:((List.replicate me.code.length (⟨false,[],0⟩:SV)).map (ptE me.locals.length)).set 0 (ptE me.locals.length ⟨true,[],2 ^ me.params.length - 1⟩)=(EN me).map (ptE me.locals.length):=by unfold EN;rw[List.map_set]
 rw[hget,bG,dPt,List.drop_zero,lκ (l:=m3 me.locals.length (2 ^ me.params.length - 1)) (by rw[aaq];exact Nat.le_refl _)];have hph:=afM hf;have p2:=agc (m:=m) hf (by omega) (E:=rPo me.locals.length none) (fun _=>rPo me.locals.length none) (fun _=>rPo me.locals.length none) (fun _=>rPo me.locals.length none) (fun _=>rPo me.locals.length none) (fun(n427,u428,u429,u430,l431)=>itL (m5 (dC lay0.tab m) m (fun _=>rPo me.locals.length none) (fun(n460,i461,u462,l463)=>some ((.tup [(pL 3 (List.take n460 (List.drop 0 l463))),(pB true)]),[]))) m (n427,0,u430,l431)) (fun _=>rfl) (fun _=>rfl) (fun _=>rfl) (fun _=>rfl) (256*me.code.length+2) m (EN me) hs0 (by omega) (by omega)
 have goal:∀X,X=itL (m7 (dC lay0.tab m) m (fun _=>rPo me.locals.length none) (fun _=>rPo me.locals.length none) (fun _=>rPo me.locals.length none) (fun _=>rPo me.locals.length none) (fun(n427,u428,u429,u430,l431)=>itL (m5 (dC lay0.tab m) m (fun _=>rPo me.locals.length none) (fun(n460,i461,u462,l463)=>some ((.tup [(pL 3 (List.take n460 (List.drop 0 l463))),(pB true)]),[]))) m (n427,0,u430,l431))) m (me.code.length,true,de c,t.r,me.r,(EN me).map (ptE me.locals.length))->X=rPo me.locals.length (adQ c t me):=fun X eX=>by
  rw[eX];unfold adQ;rcases p2 with⟨g1,g2⟩|⟨s',g1,g2,g3⟩
  ·rw[g1,g2];rfl
  ·rw[g1,g3,Option.bind_some];refine(agM hf s' g2 (m:=m) (by omega) (E:=rPo me.locals.length none) (fun _=>rPo me.locals.length none) _ (fun _=>rfl)).trans ?_;cases(s'.zip me.code).all nm with
   |false=>rfl
   |true=>
    show some (D.tup [D.p (Da.slice 3 (List.take me.code.length (List.drop 0 (s'.map (ptE me.locals.length))))),_],_)=_;rw[List.drop_zero,lκ (by rw[lβ,g2.n];exact Nat.le_refl _)];rfl
 refine goal _ ?_;rw[<-hset];rfl
end
def agQ {c:List Ct}{t:Ct}(i:Nat)(hat:bU (c.map Ct.e) (i:Int)=some t.e)(hz:Yy t)(hf:∀x∈t.methods,HI c t x)(hm:400000<=m)(k0 k1:_->R){Er:R}(hk0:∀x,k0 x=Er):itL (wY (dC lay0.tab m) m k0 k1) m ((i:Int),0,de c)=bif t.methods.all fun x=>(jG c t x).isSome then k1 ((i:Int),(t.methods.length:Int),de c)else Er:=by
 have:=hz.m;refine(bA t.methods (fun q j=>itL (wY (dC lay0.tab m) m k0 k1) q ((i:Int),j,de c)) (fun x=>!(jG c t x).isSome) (fun _=>Er) (k1 ((i:Int),(t.methods.length:Int),de c)) (fun q j hj=>?_) (fun q=>?_) (by omega)).trans ?_
 ·rw[bb];have h:=aa (ab9 (hf _ (lρ hj)) (m:=m) hm);simp only[wY,show(de c).Types=c.map Ct.e from rfl,hat,bG,Cs,show t.r.Methods=t.methods.map Cm.e from rfl,lβ,hZ (show(j:Int)<(t.methods.length:Int) by omega),be,aU,bf,bw hj,FQ,wS (show j<eH by unfold eH;omega),hk0];refine(h _).trans ?_;simp only[rPo,c3,aR,aY,oU,aJ,aB];cases(jG c t t.methods[j]).isSome<;>rfl
 ·rw[bb];simp only[wY,show(de c).Types=c.map Ct.e from rfl,hat,bG,Cs,show t.r.Methods=t.methods.map Cm.e from rfl,lβ,eT,bo]
 ·rw[gL];cases t.methods.findIdx? fun x=>!(jG c t x).isSome<;>rfl
def aaK {c:List Ct}(hc:AJ c)(hn:NmC c)(hm:400001<=m):Ω m 40 [.p (de c).e] []=some (pI (Hi c),[]):=by
 replace hm:=ei hm;obtain⟨m,rfl,hm⟩:=hm;apply ae9 m (de c);unfold ach Hi;refine(aa (afO c hc hn (m:=m) (by omega)) _).trans ?_;simp only[aY,aJ,aB];cases hf:CP c with
 |false=>rfl
 |true=>
  rw[be,cond_true];have hcn:=hc.n;refine(bA c (fun q i=>itL (X_ (dC lay0.tab m) m _ _) q (i,de c)) (fun t=>!t.methods.all fun x=>(jG c t x).isSome) (fun _=>some (pI 16,[])) (some (pI 0,[])) (fun q i hi=>?_) (fun q=>?_) (by omega)).trans ?_
  ·rw[bb];have ht:=lρ hi;have hat:bU (c.map Ct.e) (i:Int)=some c[i].e:=by rw[aU,bw hi];rfl
   simp only[X_,show(de c).Types=c.map Ct.e from rfl,lβ,hZ (show(i:Int)<(c.length:Int) by omega),be];refine(agQ i hat (hc.s _ ht) (fun x hx=>zU hc ht hx (sL hf _ ht x hx)) hm _ _ (Er:=some (pI 16,[])) fun _=>rfl).trans ?_
   cases c[i].methods.all fun x=>(jG c c[i] x).isSome
   ·rfl
   ·simp only[wS (show i<eH by unfold eH;omega)];rfl
  ·rw[bb];simp only[X_,show(de c).Types=c.map Ct.e from rfl,lβ,eT,bo]
  ·rw[gL];cases c.findIdx? fun t=>!t.methods.all fun x=>(jG c t x).isSome<;>rfl
end
section
def aeX (l:List Va)(ks:LI)(hl:l.length<1501)(hm:1510<=m):Ω m 43 [pL 5 (l.map Va.e),pL 1 (ks.map iE)] []=dX (uw l ks):=by
 replace hm:=ei hm;obtain⟨m,rfl,hm⟩:=hm;apply afd m (l.map Va.e) (ks.map iE);unfold ack;simp only[lβ,cE,pp];by_cases h:(l.length:Int)=ks.length
 ·rw[if_pos h];have h':l.length=ks.length:=by omega
  rw[CM l ks h'];refine(bA (l.zip ks) (fun q i=>itL (Y_ _ m _ _) q (l.map Va.e,ks.map iE,i)) (fun p=>!rp p.1 p.2) (fun _=>dX false) (dX true) (fun q i hi=>?_) (fun q=>?_) (by simp;omega)).trans ?_
  ·have hx:i<l.length:=by simp at hi;omega
   have hy:i<ks.length:=by omega
   have hv:=aa (i_ l[i] (m:=m) (by omega));rw[bb];simp only[Y_,lβ,hZ (show((i:Int)<(l.length:Int)) by omega),be,aU,bf,bw hx,bw hy,bG,OS,dI,wS (show i<eH by unfold eH;omega),List.getElem_zip];show iL (!az l[i].k ks[i]) _ (dC lay0.tab m 28 [.p l[i].e] [] _)=_;rw[hv];simp only[aY,aJ,aB];unfold rp;cases az l[i].k ks[i]<;>cases ra l[i]<;>rfl
  ·rw[bb];simp only[Y_,lβ,show((l.zip ks).length:Int)=l.length by simp;omega,eT,bo];rfl
  ·rw[gL];cases(l.zip ks).findIdx? fun p=>!rp p.1 p.2<;>rfl
 ·rw[if_neg h,CL l ks (by omega)]
def ad3 (l:List Va)(ks:LI)(hl:l.length<1501)(hm:1510<=m):Ω m 43 [pL 5 (l.map Va.e),.arr 0 0 ks.length 1] [.arr (ks.map iE)]=some (pB (uw l ks),[.arr (ks.map iE)]):=by
 replace hm:=ei hm;obtain⟨m,rfl,hm⟩:=hm;apply aeb m (l.map Va.e) ks.length (ks.map iE);unfold abH;simp only[lβ,cE,pp];by_cases h:(l.length:Int)=ks.length
 ·rw[if_pos h];have h':l.length=ks.length:=by omega
  rw[CM l ks h'];refine(bA (l.zip ks) (fun q i=>itL (X0 _ m _ _) q (l.map Va.e,ks.length,i,ks.map iE)) (fun p=>!rp p.1 p.2) (fun _=>some (pB false,[.arr (ks.map iE)])) (some (pB true,[.arr (ks.map iE)])) (fun q i hi=>?_) (fun q=>?_) (by simp;omega)).trans ?_
  ·have hx:i<l.length:=by simp at hi;omega
   have hy:i<ks.length:=by omega
   have hv:=aa (i_ l[i] (m:=m) (by omega));have hg:(ks.map iE)[0+i]?=some (iE ks[i]):=by rw[Nat.zero_add,lξ,lε hy];rfl
   have e0:aL 0 (i:Int)=true:=by rw[bj];exact lν (by omega)
   rw[bb];simp only[X0,lβ,hZ (show((i:Int)<(l.length:Int)) by omega),be,aU,bf,bw hx,bG,OS,dI,wS (show i<eH by unfold eH;omega),List.getElem_zip,e0,hZ (show((i:Int)<(ks.length:Int)) by omega),Int.toNat_natCast,hg];show iL (!az l[i].k ks[i]) _ (dC lay0.tab m 28 [.p l[i].e] [] _)=_;rw[hv];simp only[aY,aJ,aB];unfold rp;cases az l[i].k ks[i]<;>cases ra l[i]<;>rfl
  ·rw[bb];simp only[X0,lβ,show((l.zip ks).length:Int)=l.length by simp;omega,eT,bo]
  ·rw[gL];cases(l.zip ks).findIdx? fun p=>!rp p.1 p.2<;>rfl
 ·rw[if_neg h,CL l ks (by omega)]
def aeK {m:Nat}(t:Ct)(l:List Va)(hl:t.fields.length<1501)(k0:_->R)(Z:R)(hk:∀b,k0 (l.map Va.e,t.fields.length,(t.fields.length:Int),b,t.r,(t.fields.map Fe.kind).map iE)=Z):∀(d q i:Nat),i+d=t.fields.length->d<q->itL (m8 (dC lay0.tab m) m k0) q (l.map Va.e,i,(i:Int),t.r,((t.fields.take i).map Fe.kind).map iE)=Z
 |0,q+1,i,h,_=>by
  obtain rfl:i=t.fields.length:=by omega
  rw[bb,List.take_length];simp only[m8,show t.r.Fields=t.fields.map Fe.e from rfl,lβ,eT,bo];exact hk _
 |d+1,q+1,i,h,hq=>by
  have hi:i<t.fields.length:=by omega
  have hlen:(((t.fields.take i).map Fe.kind).map iE).length=i:=by rw[lβ,lβ,mγ];omega
  have hb:c8 (i+1) 8=true:=kX (by omega) (by omega);have ih:=aeK (m:=m) t l hl k0 Z hk d q (i+1) (by omega) (by omega);rw[List.take_add_one,lε hi,Option.toList_some,List.map_append,List.map_append]at ih;rw[bb];simp only[m8,show t.r.Fields=t.fields.map Fe.e from rfl,lβ,hZ (show((i:Int)<(t.fields.length:Int)) by omega),be,aU,bf,bw hi,bG,YN];simp only[<-List.map_take,lβ]at hlen ⊢
  simp only[hlen,Nat.beq_refl,be,List.length_singleton,hb,mη,lβ,wS (show i<eH by unfold eH;omega)];exact ih
def acq (t:Ct)(l:List Va)(ht:t.fields.length<1501)(hl:l.length<1501)(hm:1511<=m):Ω m 54 [.p t.e,pL 5 (l.map Va.e)] []=dX (uw l (t.fields.map Fe.kind)):=by
 replace hm:=ei hm;obtain⟨m,rfl,hm⟩:=hm;apply acv m t.r (l.map Va.e);unfold aa1;refine aeK t l ht _ _ (fun b=>?_) t.fields.length m 0 (by omega) (by omega);have:=ad3 (m:=m) l (t.fields.map Fe.kind) hl (by omega);rw[lβ]at this;refine(aa this _).trans ?_;simp only[aY,aJ,aR,eE,aB]
def adX {m:Nat}(q:Cm)(i k:Int)(hl:q.locals.length<1501):∀(d f:Nat) (L:List Va),L.length+d=q.locals.length->d<f->itL (aae (dC lay0.tab m) m (fun(i42,i43,n44,u45,l46)=>some ((.tup [(.p (.agg [(.int .i64 i42),(.int .i64 i43),(.int .i64 0),(.slice 5 (List.take n44 (List.drop 0 l46)))])),(pI 0)]),[]))) f (i,k,L.length,q.r,L.map Va.e)=some (.tup [.p (Mc.e ⟨i,k,0,L++List.replicate d v0⟩),pI 0],[])
 |0,f+1,L,h,_=>by
  rw[bb];simp only[aae,show q.r.Locals=q.locals.map iE from rfl,lβ,Q5 (show ¬(L.length:Int)<(q.locals.length:Int) by omega),bo,List.drop_zero];rw[lκ (by rw[lβ];exact Nat.le_refl _),List.replicate_zero,mκ];rfl
 |d+1,f+1,L,h,hf=>by
  have hb:c8 (L.length+1) 80=true:=kX (by omega) (by omega);have ih:=adX (m:=m) q i k hl d f (L++[v0]) (by rw[mη,List.length_singleton];omega) (by omega);rw[List.map_append,mη,mξ,List.singleton_append]at ih;rw[bb,List.replicate_succ];simp only[aae,show q.r.Locals=q.locals.map iE from rfl,lβ,hZ (show(L.length:Int)<(q.locals.length:Int) by omega),be,Nat.beq_refl,List.length_singleton,hb,mη];exact ih
section
variable {m:Nat} {c:List Ct} (hc:AJ c) (hn:NmC c)
include hc hn
def agh (a:Int)(l:List Va)(hl:l.length<1501)(hm:400003<=m):Ω m 20 [.p (de c).e,pI a,pL 5 (l.map Va.e)] []=dX (QV c a l):=by
 replace hm:=ei hm;obtain⟨m,rfl,hm⟩:=hm;apply agk m (de c) a (l.map Va.e);unfold afm QV wM;refine(aa (aaK hc hn (m:=m) (by omega)) _).trans ?_;simp only[aY,bW,aB];cases az (Hi c) 0 with
 |false=>rfl
 |true=>
  rw[be,cond_true,show(de c).Types=c.map Ct.e from rfl,lβ];have ha:=Hk c a;unfold fD at ha;cases hat:dj c a with
  |none=>
   rw[hat]at ha;cases h0:aL 0 a with
   |false=>rfl
   |true=>rw[h0]at ha;rw[show aG a c.length=false from ha];rfl
  |some t=>
   rw[hat]at ha;rw[show(some t).isSome=true from rfl,lγ]at ha;rw[ha.1,ha.2,be,be,aU,bf,hat,bG,Cs];refine(aa (acq t l (hc.s t (nJ hat)).f hl (m:=m) (by omega)) _).trans ?_;simp only[aY,aJ,aB]
def ad2 (a:Int)(hm:400003<=m):Ω m 23 [.p (de c).e,pI a] []=some (pL 5 ((acA c a).map Va.e),[]):=by
 replace hm:=ei hm;obtain⟨m,rfl,hm⟩:=hm;apply aea m (de c) a;unfold abG acA wM;refine(aa (aaK hc hn (m:=m) (by omega)) _).trans ?_;simp only[aY,bW,aB];cases az (Hi c) 0 with
 |false=>rfl
 |true=>
  rw[Bool.not_true,bo,cond_true,show(de c).Types=c.map Ct.e from rfl,lβ];cases h0:aG a 0 with
  |true=>rw[bX,lδ]at h0;rw[jI (.inl h0)];rfl
  |false=>
  cases h1:aL (c.length:Int) a with
  |true=>rw[bj,lδ]at h1;rw[jI (.inr h1)];rfl
  |false=>
  obtain⟨t,ht,htm⟩:=Cf h0 h1;rw[ht,bo,bo];have hfl:=(hc.s t htm).f;have hat:bU (c.map Ct.e) a=some t.e:=by rw[aU,ht];rfl
  have run:∀(d q i:Nat),i+d=t.fields.length->d<q->itL (S0 (dC lay0.tab m) m (fun(i16,n17,i18,u19,l20)=>some ((pL 5 (List.take n17 (List.drop 0 l20))),[]))) q (a,i,(i:Int),de c,((t.fields.take i).map Fe.init).map Va.e)=some (pL 5 ((t.fields.map Fe.init).map Va.e),[]):=by
   intro d;induction d with
   |zero=>
    intro q i h hq;obtain⟨q,rfl⟩:∃k,q=k+1:=⟨q - 1,by omega⟩
    obtain rfl:i=t.fields.length:=by omega
    rw[bb,List.take_length];simp only[S0,show(de c).Types=c.map Ct.e from rfl,hat,bG,Cs,show t.r.Fields=t.fields.map Fe.e from rfl,lβ,eT,bo,List.drop_zero];rw[lκ (by rw[lβ,lβ];exact Nat.le_refl _)]
   |succ d ih=>
    intro q i h hq;obtain⟨q,rfl⟩:∃k,q=k+1:=⟨q - 1,by omega⟩
    have hi:i<t.fields.length:=by omega
    have hlen:(((t.fields.take i).map Fe.init).map Va.e).length=i:=by rw[lβ,lβ,mγ];omega
    have hb:c8 (i+1) 80=true:=kX (by omega) (by omega);have ih:=ih q (i+1) (by omega) (by omega);rw[List.take_add_one,lε hi,Option.toList_some,List.map_append,List.map_append]at ih;generalize((t.fields.take i).map Fe.init).map Va.e=L at hlen ih ⊢
    rw[bb];simp only[S0,show(de c).Types=c.map Ct.e from rfl,hat,bG,Cs,show t.r.Fields=t.fields.map Fe.e from rfl,lβ,hZ (show((i:Int)<(t.fields.length:Int)) by omega),be,aU,bf,bw hi,YN,Fe.r,hlen,Nat.beq_refl,List.length_singleton,hb,mη,wS (show i<eH by unfold eH;omega)];exact ih
  exact run t.fields.length m 0 (by omega) (by omega)
def afi (ty me:LN)(l:List Va)(hl:l.length<1501)(hm:400003<=m):Ω m 13 [.p (de c).e,pS ty,pS me,pL 5 (l.map Va.e)] []=some (.tup [.p (G_ c ty me l).1.e,pI (G_ c ty me l).2],[]):=by
 replace hm:=ei hm;obtain⟨m,rfl,hm⟩:=hm;apply afr m (de c) ty me (l.map Va.e);unfold adj G_;refine(aa (aaK hc hn (m:=m) (by omega)) _).trans ?_;simp only[aY,bW,aB];cases hv0:az (Hi c) 0 with
 |false=>rfl
 |true=>
  have hve:=Č (eqI_t.1 hv0);rw[Bool.not_true,bo,cond_true];refine(aa (adf c ty hc.n (m:=m) (by omega)) _).trans ?_;simp only[rIx,c3,aR,aY,bW,aJ,aB];cases h1:c.findIdx? fun t=>cg t.name ty with
  |none=>rfl
  |some i=>
   have hi:i<c.length:=(qη.1 h1).1;have hct:=lρ hi;have hzt:=hc.s _ hct;rw[show(some i).isSome=true from rfl,be,show(some i).getD 0=i from rfl,show(de c).Types=c.map Ct.e from rfl];simp only[lε hi,aU,bf,bw hi,bG,Cs];refine(aa (ade c[i] me hzt.m (m:=m) (by omega)) _).trans ?_;simp only[rIx,c3,aR,aY,bW,aJ,aB];cases h2:c[i].methods.findIdx? fun t=>cg t.name me with
   |none=>rfl
   |some j=>
    have hj:j<c[i].methods.length:=(qη.1 h2).1;have hfo:=zU hc hct (lρ hj) (sL hve.1 _ hct _ (lρ hj));have hll:=hfo.l;have hpl:=congrArg List.length hfo.pl;rw[mγ]at hpl;simp only[lε hj];rw[show(some j).isSome=true from rfl,be,show(some j).getD 0=j from rfl,show c[i].r.Methods=c[i].methods.map Cm.e from rfl];simp only[aU,bf,bw hj,bG,FQ];refine(aa (aeX l c[i].methods[j].params hl (m:=m) (by omega)) _).trans ?_;simp only[aY,aJ,aB];cases hfit:uw l c[i].methods[j].params with
    |false=>rfl
    |true=>
     have hlen:l.length=c[i].methods[j].params.length:=by
      by_cases h:l.length=c[i].methods[j].params.length
      ·exact h
      ·rw[CL l _ h]at hfit;cases hfit
     have hb:c8 (0+(l.map Va.e).length) 80=true:=kX (by rw[lβ];omega) (by omega);rw[be,hb,be,lβ];exact adX c[i].methods[j] (i:Int) (j:Int) (by omega) (c[i].methods[j].locals.length - l.length) m l (by omega) (by omega)
end
end
section
def afW {c t m s}(h:jG c t m=some s):(s.zip m.code).all nm=true:=by
 unfold jG at h;obtain⟨u,hg,h⟩:=Option.bind_eq_some_iff.1 h;cases hc:(u.zip m.code).all nm with
 |false=>rw[hc]at h;cases h
 |true=>rw[hc]at h;cases h;exact hc
def afE {k:Int}(h:im k=true):1<=k:=by unfold im at h;rw[lγ,bj,lδ]at h;exact h.1
def af9 (S:List SV)(x:Mc)(q:Cm)(v:SV)(hv:dj S x.pc=some v)(hr:v.r=true)(h2:x.ls.length=q.locals.length)(h3:q.locals.length<100)(hk:q.locals.all im=true)(hm:1600<=m):itL (m1 (dC lay0.tab m) m (fun _=>dX false) (fun _=>dX true)) m (S.map (ptE q.locals.length),0,x.r,q.r)=dX (Dl ((List.range q.locals.length).map fun i=>v.set.testBit i) x.ls q.locals):=by
 have hl:(((List.range q.locals.length).map fun i=>v.set.testBit i).zip (x.ls.zip q.locals)).length=q.locals.length:=by rw[qα,qα,lβ,List.length_range];omega
 unfold Dl;refine(bA (((List.range q.locals.length).map fun i=>v.set.testBit i).zip (x.ls.zip q.locals)) (fun p i=>itL (m1 (dC lay0.tab m) m (fun _=>dX false) (fun _=>dX true)) p (S.map (ptE q.locals.length),i,x.r,q.r)) (fun p=>!(rp p.2.1 p.2.2||(!p.1&&fd p.2.1 v0))) (fun _=>dX false) (dX true) (fun p i hi=>?_) (fun p=>?_) (by omega)).trans ?_
 ·have hi1:i<q.locals.length:=by omega
  have hi2:i<x.ls.length:=by omega
  have hs:=aa (v_ x.ls[i] v0 (.inr (by decide)) (.inr (by decide)) (m:=m) (by omega));have hva:=aa (i_ x.ls[i] (m:=m) (by omega));have hkk:=afE (mε.1 hk _ (lρ hi1));have hpt:bU (S.map (ptE q.locals.length)) x.pc=some (ptE q.locals.length v):=by rw[aU,hv];rfl
  have hat:bU (x.ls.map Va.e) (i:Int)=some (x.ls[i].e):=by rw[aU,bw hi2];rfl
  have hatk:bU (q.locals.map iE) (i:Int)=some (iE q.locals[i]):=by rw[aU,bw hi1];rfl
  rw[bb,List.getElem_zip,List.getElem_zip];simp only[List.getElem_map,List.getElem_range];simp only[m1,show x.r.Locals=x.ls.map Va.e from rfl,show q.r.Locals=q.locals.map iE from rfl,show x.r.PC=x.pc from rfl,lβ,hZ (show((i:Int)<(x.ls.length:Int)) by omega),be,hat,hatk,hpt,bG,OS,dI,dPt,hr,cond_true,aed hi1,show ∀b,zB (Da.bool b)=true from fun _=>rfl,show ∀b K,aH (Da.bool b) K=K b from fun _ _=>rfl,show zB (iE q.locals[i])=false from rfl,bo,wS (show i<eH by unfold eH;omega)];refine(hs _).trans ?_;simp only[aY,aJ,aB];cases hz:fd x.ls[i] v0 with
  |true=>
   have hk0:x.ls[i].k=0:=by
    unfold fd at hz;rw[lγ]at hz;exact eqI_t.1 hz.1
   have hfit:rp x.ls[i] q.locals[i]=false:=by
    unfold rp;rw[hk0,show az 0 q.locals[i]=false by rw[cE];exact mθ (by omega)];rfl
   rw[be,hfit];cases v.set.testBit i<;>rfl
  |false=>
   rw[bo];show iL (!az x.ls[i].k q.locals[i]) _ (dC lay0.tab m 28 [.p x.ls[i].e] [] _)=_;rw[hva];simp only[aY,aJ,aB];unfold rp;cases az x.ls[i].k q.locals[i]<;>cases ra x.ls[i]<;>cases v.set.testBit i<;>rfl
 ·rw[bb];simp only[m1,show x.r.Locals=x.ls.map Va.e from rfl,lβ,hl,h2,eT,bo]
 ·rw[gL];cases(((List.range q.locals.length).map fun i=>v.set.testBit i).zip (x.ls.zip q.locals)).findIdx? fun p=>!(rp p.2.1 p.2.2||(!p.1&&fd p.2.1 v0))<;>rfl
section
variable {m:Nat} {c:List Ct} (hc:AJ c) (hn:NmC c)
include hc hn
def aca (x:Mc)(hm:400010<=m):Ω m 18 [.p (de c).e,.p x.e] []=dX (ot c x):=by
 replace hm:=ei hm;obtain⟨m,rfl,hm⟩:=hm;apply ae8 m (de c) x.r;unfold acg;refine(aa (aaK hc hn (m:=m) (by omega)) _).trans ?_;simp only[aY,bW,aB];cases hv0:az (Hi c) 0 with
 |false=>
  have:la c x.ty x.me=none:=by unfold la wM;rw[hv0];rfl
  rw[VL this];rfl
 |true=>
  have hve:=Č (eqI_t.1 hv0);rw[Bool.not_true,bo];show iL (aG x.ty 0) _ (iL (aL ((c.map Ct.e).length:Int) x.ty) _ (iL (aG x.me 0) _ (cL (bU (c.map Ct.e) x.ty) _)))=_;rw[lβ];have hno:(∀t,dj c x.ty=some t->dj t.methods x.me=none)->la c x.ty x.me=none:=fun h=>by
   unfold la wM;rw[hv0,cond_true];cases ht:dj c x.ty with
   |none=>rfl
   |some t=>exact h t ht
  cases h0:aG x.ty 0 with
  |true=>rw[bX,lδ]at h0;rw[VL (hno fun t ht=>by rw[jI (.inl h0)]at ht;cases ht)];rfl
  |false=>
  cases h1:aL (c.length:Int) x.ty with
  |true=>rw[bj,lδ]at h1;rw[VL (hno fun t ht=>by rw[jI (.inr h1)]at ht;cases ht)];rfl
  |false=>
  obtain⟨t,ht,htm⟩:=Cf h0 h1;have hat:bU (c.map Ct.e) x.ty=some t.e:=by rw[aU,ht];rfl
  rw[bo,bo];cases h2:aG x.me 0 with
  |true=>rw[bX,lδ]at h2;rw[VL (hno fun u hu=>by exact jI (.inl h2))];rfl
  |false=>
  rw[bo,hat,bG,Cs];show iL (aL ((t.methods.map Cm.e).length:Int) x.me) _ (cL (bU (c.map Ct.e) x.ty) _)=_;rw[lβ];cases h3:aL (t.methods.length:Int) x.me with
  |true=>rw[bj,lδ]at h3;rw[VL (hno fun u hu=>by rw[ht]at hu;cases hu;exact jI (.inr h3))];rfl
  |false=>
  obtain⟨q,hq,hqm⟩:=Cf h2 h3;have hatm:bU (t.methods.map Cm.e) x.me=some q.e:=by rw[aU,hq];rfl
  have hme:la c x.ty x.me=some q:=by unfold la wM;rw[hv0,cond_true,ht];exact hq
  obtain⟨t2,S,g1,g2,g3,g4,g5,g6,g7,g8,g9,g10⟩:=Qb hc hme;rw[ht]at g2;cases g2;have hme2:=sL hve.1 t htm q hqm;unfold uS at hme2;simp only[lγ]at hme2;have hkk:=hme2.2.2.2.2.1;have hcl:=g6.z.c;have hll:=g6.l;rw[bo,hat,bG,Cs];show cL (bU (t.methods.map Cm.e) x.me) _=_;rw[hatm,bG,FQ];show iL (aG x.pc 0) _ (iL (aL ((q.code.map Cd.e).length:Int) x.pc) _ (iL (aG 0 x.pc) _ _))=_;rw[lβ,VM hme];cases h4:aG x.pc 0 with
  |true=>rfl
  |false=>
  cases h5:aL (q.code.length:Int) x.pc with
  |true=>rfl
  |false=>
  rw[bX,lζ]at h4;rw[bj,lζ]at h5;obtain⟨v,hvv,hvm,has⟩:=U8 g8 g9 g10.n (p:=x.pc) ⟨by omega,by omega⟩
  have hvr:=aef g10.n (afW g7) v hvm;have hpo:=aa (ab9 g6 (m:=m) (by omega));have ji:iL (!az (((x.ls.map Va.e).length:Nat):Int) (((q.locals.map iE).length:Nat):Int)) (some ((pB false),[])) (cL (bU (c.map Ct.e) x.ty) fun x13=>aF x13 fun u14=>dC lay0.tab m 49 [(.p (.agg [(.slice 3 (de c).Types)])),(.p (.agg [(.str u14.Name),(.slice 7 u14.Fields),(.slice 5 u14.Methods)])),(.p (.agg [(.str q.r.Name),(.slice 1 q.r.Params),(.int .i64 q.r.Result),(.slice 1 q.r.Locals),(.slice 8 q.r.Code)]))] [] fun d15 o16=>ff d15 fun r17=>ab r17 fun d18 r19=>dP d18 fun x20=>hM 3 x20 fun l21=>ab r19 fun d22 r23=>dP d22 fun x24=>aH x24 fun b25=>af r23<|af o16<|iL b25 (itL (m1 (dC lay0.tab m) m (fun(u52,u53)=>some ((pB false),[])) (fun(l54,i55,u56,u57)=>some ((pB true),[]))) m (l21,0,x.r,q.r)) (itL (m1 (dC lay0.tab m) m (fun(u58,u59)=>some ((pB false),[])) (fun(l60,i61,u62,u63)=>some ((pB true),[]))) m (l21,0,x.r,q.r)))=dX (decide (x.ls.length=q.locals.length)&&Dl (U7 c x.ty x.me x.pc) x.ls q.locals):=by
   rw[lβ,lβ,cE];by_cases hlen:x.ls.length=q.locals.length
   ·rw[lν (show((x.ls.length:Nat):Int)=((q.locals.length:Nat):Int) by omega),Bool.not_true,bo,hat,bG,Cs,lν hlen,Bool.true_and,has];refine(hpo _).trans ?_;rw[g7];simp only[c3,aR,aY,oU,aJ,aB];have:=af9 (m:=m) S x q v hvv hvr hlen (by omega) hkk (by omega);exact this
   ·rw[mθ (show ¬((x.ls.length:Nat):Int)=((q.locals.length:Nat):Int) by omega),mθ hlen];rfl
  have hx0:aG x.pc 0=false:=Q5 h4;rw[bo,bo,Bool.not_false,Bool.true_and,Bool.true_and];unfold xC;cases h6:aG 0 x.pc with
  |false=>exact ji
  |true=>
   rw[bX,lδ]at h6;obtain⟨y,hy,hym⟩:=iR (l:=q.code) (x:=x.pc - 1) ⟨by omega,by omega⟩
   have hcd:bU (q.code.map Cd.e) (ag .i64 (x.pc - 1))=some y.e:=by rw[fO (by omega) (by omega),aU,hy];rfl
   rw[be,cond_true,hy];show cL (bU (q.code.map Cd.e) (ag .i64 (x.pc - 1))) _=_;rw[hcd,bG,Vf];show iL (!az y.op 30) _ _=dX (az y.op 30&&_);cases az y.op 30 with
   |false=>rfl
   |true=>rw[Bool.not_true,bo,Bool.true_and];exact ji
def aeS (x:Mc)(hm:400011<=m):Ω m 15 [.p (de c).e,.p x.e] []=some (.tup [pI (bif ot c x then R8 c x else 0),pB (ot c x)],[]):=by
 replace hm:=ei hm;obtain⟨m,rfl,hm⟩:=hm;apply ae5 m (de c) x.r;unfold acd;refine(aa (aca hc hn x (m:=m) (by omega)) _).trans ?_;simp only[aY,aJ,aB];cases hv:ot c x with
 |false=>rfl
 |true=>
 rw[be,cond_true];unfold R8;unfold ot at hv;cases hq:la c x.ty x.me with
 |none=>rw[hq]at hv;cases hv
 |some q=>
  rw[hq]at hv;obtain⟨t,s,g1,g2,g3,g4,g5,g6,g7,g8,g9,g10⟩:=Qb hc hq;simp only[lγ,Bool.not_eq_true',bX,bj,lζ]at hv;obtain⟨h1,h2,h3,-⟩:=hv;have hcl:=g6.z.c;show iL (az x.pc 0) _ (cL (bU (c.map Ct.e) x.ty) _)=_;cases h0:az x.pc 0 with
  |true=>rfl
  |false=>
   rw[cE,lζ]at h0;unfold xC at h3;rw[show aG 0 x.pc=true from hZ (by omega),cond_true]at h3;obtain⟨y,hy,hym⟩:=iR (l:=q.code) (x:=x.pc - 1) ⟨by omega,by omega⟩
   rw[hy]at h3;obtain⟨z,hz⟩:=R9 g6 hym (eqI_t.1 h3);rw[bo,cond_false,Option.bind_some,hy,Option.bind_some,hz,aU,bf,g2,bG,Cs];show cL (bU (t.methods.map Cm.e) x.me) _=_;rw[aU,bf,g4,bG,FQ];show cL (bU (q.code.map Cd.e) (ag .i64 (x.pc - 1))) _=_;rw[fO (by omega) (by omega),aU,bf,hy,bG,Vf];unfold fA at hz;cases ht:dj c y.a with
   |none=>rw[ht]at hz;cases hz
   |some u=>
    rw[ht,Option.bind_some]at hz;show cL (bU (c.map Ct.e) y.a) _=_;rw[aU,bf,ht,bG,Cs];show cL (bU (u.methods.map Cm.e) y.b) _=_;rw[aU,bf,hz,bG,FQ];rfl
end
def afh (x:Mc)(hl:x.ls.length<1501)(hv:∀v∈x.ls,Lg v)(hm:1510<=m)(hr:∀v,fd v v=true):Ω m 16 [.p x.e,.p x.e] []=dX true:=by
 replace hm:=ei hm;obtain⟨m,rfl,hm⟩:=hm;apply afq m x.r x.r;unfold adi;rw[abM,abM,abM,be,be,be];refine(aa (h_ x.ls x.ls hl (fun v h=>⟨(hv v h).I,(hv v h).L⟩) (m:=m) (by omega)) _).trans ?_;simp only[aY,aJ,aB];rw[Ο hr]
end
def adW (v:Va):fd v v=true:=by
 unfold fd;simp only[cE,ma,decide_true,Bool.and_self]
def afN {c:List Ct}(h:vz c=true):NmC c/\∀t∈c,∀f∈t.fields,Lg f.init:=by
 unfold vz at h;simp only[lγ,Bool.not_eq_true',bX,lζ,mε]at h;have key:∀t∈c,NmT t/\∀f∈t.fields,Lg f.init:=fun t ht=>by
  have h1:=h.2 t ht;unfold Kq at h1;simp only[lγ,Bool.not_eq_true',bX,lζ,mε]at h1;obtain⟨a1,-,-,a4,a5⟩:=h1;have hf:∀f∈t.fields,f.name.length<=100/\Lg f.init:=fun f hf=>by
   have:=a4 f hf;unfold KH vy at this;simp only[lγ,Bool.not_eq_true',bX,bj,lζ,lδ]at this;obtain⟨b1,-,-,b3,b4⟩:=this;exact⟨by omega,⟨by omega,by omega⟩⟩
  refine⟨⟨by omega,fun f h=>by have:=(hf f h).1;omega,fun m hm=>?_⟩,fun f h=>(hf f h).2⟩
  have:=a5 m hm;unfold Gq at this;simp only[lγ,Bool.not_eq_true',bX,lζ]at this;have:=this.1;omega
 exact⟨fun t ht=>(key t ht).1,fun t ht=>(key t ht).2⟩
def agI:Lg v0:=⟨by decide,by decide⟩
def adb (c:List Ct)(x:Mc)(ty me:LN)(l fs:List Va)(a:Int)(hbc:Bc c)(hxs:LB x.ls)(hl:LB l)(hfs:LB fs)(hm:2000100<=m)(haw:Ω m 9 [] []=some (pB true,[])):Ω (m+1) 3 [.p (de c).e,.p x.e,pS ty,pS me,pL 5 (l.map Va.e),pL 5 (fs.map Va.e),pI a] []=dX true:=by
 apply adz m (de c) x.r ty me (l.map Va.e) (fs.map Va.e) a;unfold abn;obtain⟨k,rfl,hk⟩:=ei (show 2000099+1<=m from hm);have a1:=aa haw;rw[a1];simp -implicitDefEqProofs only[aY,aJ,aB,be];refine(aa (Rb (m:=k) (by omega) c hbc) _).trans ?_;simp -implicitDefEqProofs only[aY,aJ,aB];cases hsm:vz c with
 |false=>rfl
 |true=>
 rw[be];refine(aa (qp (m:=k) (by omega) x.ls hxs.n fun v hv=>(hxs.v v hv).L) _).trans ?_;simp -implicitDefEqProofs only[aY,aJ,aB];cases hlx:uQ x.ls with
 |false=>rfl
 |true=>
 rw[be,aa (qp (m:=k) (by omega) l hl.n fun v hv=>(hl.v v hv).L)];simp -implicitDefEqProofs only[aY,aJ,aB];cases hll:uQ l with
 |false=>rfl
 |true=>
 rw[be,aa (qp (m:=k) (by omega) fs hfs.n fun v hv=>(hfs.v v hv).L)];simp -implicitDefEqProofs only[aY,aJ,aB];cases hlf:uQ fs with
 |false=>rfl
 |true=>
 rw[be];cases aG 100 (ty.length:Int)with
 |true=>rfl
 |false=>
 rw[bo];cases aG 100 (me.length:Int)with
 |true=>rfl
 |false=>
 rw[bo];obtain⟨f1,f2⟩:=zS hlf;obtain⟨l1,l2⟩:=zS hll;have hc:=QE hsm;obtain⟨hn,hin⟩:=afN hsm;have r1:=aa (w_ (m:=k+1) hc ty me l (by omega) l2 (by omega));have r2:=aa (afi (m:=k+1) hc hn ty me l (by omega) (by omega));have r3:=aa (Jf (m:=k+1) hc x (by omega));have r4:=aa (aeS (m:=k+1) hc hn x (by omega));have r6:=aa (Jh (m:=k+1) hc x (by omega));have r7:=aa (aca (m:=k+1) hc hn x (by omega));have r8:=aa (VV (m:=k+1) hc a fs (by omega) (by omega));have r9:=aa (agh (m:=k+1) hc hn a fs (by omega) (by omega));have r10:=aa (ad4 (m:=k+1) hc a hin (by omega));have r11:=aa (ad2 (m:=k+1) hc hn a (by omega));have dM:∀(q:Mc) K,ű q.e K=K q.r:=fun _ _=>rfl
 have hsta:(G_ c ty me l).1.ls.length<1501/\∀v∈(G_ c ty me l).1.ls,Lg v:=by
  have z:mc0.ls.length<1501/\∀v∈mc0.ls,Lg v:=⟨by decide,fun v hv=>by cases hv⟩
  unfold G_;cases hv0:az (Hi c) 0 with
  |false=>exact z
  |true=>
   have hve:=Č (eqI_t.1 hv0);rw[cond_true];cases h1:c.findIdx? fun t=>cg t.name ty with
   |none=>exact z
   |some i=>
    simp only;cases h2:c[i]? with
    |none=>exact z
    |some t=>
     simp only;cases h3:t.methods.findIdx? fun t=>cg t.name me with
     |none=>exact z
     |some j=>
      simp only;cases h4:t.methods[j]? with
      |none=>exact z
      |some q=>
       simp only;cases uw l q.params with
       |false=>exact z
       |true=>
        rw[cond_true];have htm:=mδ h2;have hqm:=mδ h4;have hq:=(zU hc htm hqm (sL hve.1 _ htm _ hqm)).l;refine⟨?_,fun v hv=>?_⟩
        ·show(l++List.replicate (q.locals.length - l.length) v0).length<1501;rw[mη,mμ];omega
        ·rcases qδ.1 hv with h|h
         ·exact l2 v h
         ·rw[(List.mem_replicate.1 h).2];exact agI
 have r5:=aa (afh (m:=k+1) (G_ c ty me l).1 hsta.1 hsta.2 (by omega) adW);have hini:(acA c a).length<1501/\∀v∈acA c a,Lg v:=by
  unfold acA;cases ht:wM c a with
  |none=>exact⟨by decide,fun v hv=>by cases hv⟩
  |some t=>
   have htm:=(ZJ ht).2.2;simp only;refine⟨by rw[lβ];exact(hc.s t htm).f,fun v hv=>?_⟩
   obtain⟨f,hf,rfl⟩:=List.mem_map.1 hv;exact hin t htm f hf
 have r12:=aa (h_ (m:=k+1) (acA c a) (acA c a) hini.1 (fun v h=>⟨(hini.2 v h).I,(hini.2 v h).L⟩) (by omega));rw[Ο adW]at r12;refine(r1 _).trans ?_;simp -implicitDefEqProofs only[c3,aR,aY,dM,bW,aB];refine(r2 _).trans ?_;simp -implicitDefEqProofs only[c3,aR,aY,dM,bW,aB];refine(r3 _).trans ?_;simp -implicitDefEqProofs only[c3,aR,aY,bW,aJ,aB];generalize(bif ot c x then R8 c x else 0)=z at*
 change ∀K,dC lay0.tab (k+1) 15 [.p (.agg [(.slice 3 (de c).Types)]),.p (.agg [(.int .i64 x.r.Type_),(.int .i64 x.r.Method),(.int .i64 x.r.PC),(.slice 5 x.r.Locals)])] [] K=_ at r4
 change ∀K,dC lay0.tab (k+1) 16 [.p (.agg [(.int .i64 (G_ c ty me l).1.r.Type_),(.int .i64 (G_ c ty me l).1.r.Method),(.int .i64 (G_ c ty me l).1.r.PC),(.slice 5 (G_ c ty me l).1.r.Locals)]),.p (.agg [(.int .i64 (G_ c ty me l).1.r.Type_),(.int .i64 (G_ c ty me l).1.r.Method),(.int .i64 (G_ c ty me l).1.r.PC),(.slice 5 (G_ c ty me l).1.r.Locals)])] [] K=_ at r5
 change ∀K,dC lay0.tab (k+1) 17 [.p (.agg [(.slice 3 (de c).Types)]),.p (.agg [(.int .i64 x.r.Type_),(.int .i64 x.r.Method),(.int .i64 x.r.PC),(.slice 5 x.r.Locals)])] [] K=_ at r6
 change ∀K,dC lay0.tab (k+1) 18 [.p (.agg [(.slice 3 (de c).Types)]),.p (.agg [(.int .i64 x.r.Type_),(.int .i64 x.r.Method),(.int .i64 x.r.PC),(.slice 5 x.r.Locals)])] [] K=_ at r7
 change ∀K,dC lay0.tab (k+1) 19 [.p (.agg [(.slice 3 (de c).Types)]),pI a,pL 5 (fs.map Va.e)] [] K=_ at r8
 change ∀K,dC lay0.tab (k+1) 20 [.p (.agg [(.slice 3 (de c).Types)]),pI a,pL 5 (fs.map Va.e)] [] K=_ at r9
 change ∀K,dC lay0.tab (k+1) 22 [.p (.agg [(.slice 3 (de c).Types)]),pI a] [] K=_ at r10
 change ∀K,dC lay0.tab (k+1) 23 [.p (.agg [(.slice 3 (de c).Types)]),pI a] [] K=_ at r11
 cases hvm:ot c x<;>cases hvf:QV c a fs<;>simp -implicitDefEqProofs only[hvm,hvf,r4,r5,r6,r7,r8,r9,r10,r11,r12,c3,aR,aY,bW,aJ,oU,aB,be,bo,abM]<;>rfl
def agF {n:Nat}{x:Da}(h:DT (n+1) 3 x):∃i,x= .int .i64 i:=by
 obtain⟨i,e,hw⟩:=ii LY (Ia LY h);simp only[lχ,and_true]at e;exact⟨i,e⟩
def run_VMStates:∀xs,Pw (gf prog0 (bZ prog0 Bn 12)) [24,27,9,9,25,25,3] xs->∃N,Ω N 3 (xs.map .p) []=some (pB true,[]):=by
 intro xs h;obtain⟨x1,r1,rfl,h1,h⟩:=h.cons_inv;obtain⟨x2,r2,rfl,h2,h⟩:=h.cons_inv;obtain⟨x3,r3,rfl,h3,h⟩:=h.cons_inv;obtain⟨x4,r4,rfl,h4,h⟩:=h.cons_inv;obtain⟨x5,r5,rfl,h5,h⟩:=h.cons_inv;obtain⟨x6,r6,rfl,h6,h⟩:=h.cons_inv;obtain⟨x7,r7,rfl,h7,h⟩:=h.cons_inv;obtain rfl:=h.nil_inv;obtain⟨c,rfl,hc,-⟩:=WW (n:=2) h1;obtain⟨x,rfl,hx⟩:=YW (n:=7) h2;obtain⟨ty,rfl⟩:=YX (n:=11) h3;obtain⟨me,rfl⟩:=YX (n:=11) h4;obtain⟨l,rfl,hl⟩:=WX (n:=8) h5;obtain⟨fs,rfl,hf⟩:=WX (n:=8) h6;obtain⟨a,rfl⟩:=agF (n:=11) h7;exact⟨2000100+1,adb (m:=2000100) c x ty me l fs a hc hx hl hf (Nat.le_refl _) (Rc (n:=2000099))⟩
end
end Go.Ab
