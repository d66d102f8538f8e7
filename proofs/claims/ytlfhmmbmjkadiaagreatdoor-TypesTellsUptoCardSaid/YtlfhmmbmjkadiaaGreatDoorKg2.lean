import Derived.Test.YtlfhmmbmjkadiaaGreatDoorKg1
import Derived.Test.YtlfhmmbmjkadiaaGreatDoorOg2
import Derived.Test.YtlfhmmbmjkadiaaGreatDoorOg3
set_option linter.all false
section
namespace Go.Ab
open Go
set_option maxRecDepth 100000
noncomputable section
theorem call0_ok (L:Letters)(N:Nat):eL prog0 globs0 (evFn lay0.tab N):=xv (P:=prog0) (G:=globs0) KW (lay0.okM L mvG) N
end
end Go.Ab
end
section
namespace Go.Ab
open Go
set_option maxRecDepth 100000
noncomputable section
theorem wBr {i:Nat}(h:i<9223372036854775807):aj .i64 ((i:Int)+1)=((i+1:Nat):Int):=by
 rw[jT (by omega) (by omega)];omega
theorem Dd {n:Nat}(c:Int):evFn lay0.tab (n+1) 145 [.p (.int .u8 c)] []=some (.p (.bool (NP c)),[]):=by
 apply Q2 n c;simp only[vm,bE,dW,gu,Bool.and_true,NP]
theorem Mo {n:Nat}(c:Int):evFn lay0.tab (n+1) 142 [.p (.int .u8 c)] []=some (.p (.bool (Ax c)),[]):=by
 apply M0 n c;unfold rQ oR Ax;cases bx 97 c<;>cases bx c 122<;>cases bx 65 c<;>cases bx c 90<;>cases aB c 95<;>rfl
theorem UR {n:Nat}(c:Int):evFn lay0.tab (n+2) 143 [.p (.int .u8 c)] []=some (.p (.bool (Qe c)),[]):=by
 apply Vs (n+1) c;simp only[zj,aa (Mo (n:=n) c),aa (Dd (n:=n) c),ba,aC,aA,bE,dW,V6,Bool.or_false,Qe]
theorem Dc {n:Nat}(s:List Nat):evFn lay0.tab (n+1) 144 [.p (.str s)] []=some (.p (.bool (WF s)),[]):=by
 apply Ec n s;simp only[my,bE,dW,V6,WF,List.any_cons,List.any_nil,Bool.or_false]
def UA (s:List Nat):Bool:=match s with
 |[]=>false
 |c::_=>bx s.length 32&&(!NP (c:Int)&&!WF s)
def aaT (s:List Nat):Bool:=(s.findIdx? Ud).isNone&&UA s
theorem ad0 {c:Int}(h:Ax c=true):NP c=false:=by
 unfold Ax at h;unfold NP;simp only[bJ,aV,qδ,lδ,lη]at h;simp only[bJ,Bool.and_eq_false_iff,mγ];omega
theorem aea (s:List Nat):aaT s=cU s:=by
 cases s with
 |nil=>rfl
 |cons c r=>
  unfold aaT UA cU UK aeo;simp only[List.headD_cons,show aO (c::r) []=false from rfl,Bool.not_false,Bool.true_and];have key:aB (((bif Ax (c:Int)then((c::r).findIdx? Ud).getD (c::r).length else 0:Nat)):Int) ((c::r).length:Int)=(Ax (c:Int)&&((c::r).findIdx? Ud).isNone):=by
   rw[aV];cases Ax (c:Int)with
   |false=>simp;omega
   |true=>
    cases hf:(c::r).findIdx? Ud with
    |none=>simp
    |some j=>
     have:=(lσ.1 hf).1;simp at this ⊢
     omega
  rw[key];cases hf:(c::r).findIdx? Ud with
  |some j=>simp
  |none=>
   have h0:Ud c=false:=mχ.1 hf c (lυ ..);unfold Ud Qe at h0;cases hl:Ax (c:Int)with
   |true=>simp[ad0 hl]
   |false=>
    rw[hl]at h0;simp only[Bool.false_or,Bool.not_eq_false']at h0;simp[h0]
theorem iF {n:Nat}(s:List Nat)(h:s.length<n)(hb:s.length<9223372036854775808):evFn lay0.tab (n+3) 156 [.p (.str s)] []=some (.p (.bool (cU s)),[]):=by
 apply MZ (n+2) s;rw[←aea];unfold rP;refine(aX s (fun q i=>km _ (n+2) _ _ q (s,i)) Ud (fun _=>some (.p (.bool false),[])) (some (.p (.bool (UA s)),[])) (fun q i hi=>?_) (fun q=>?_) (by omega)).trans ?_
 ·rw[sf];simp only[gO,cT (show((i:Int)<(s.length:Int)) by omega),aP,bJ,show(0:Int)≤(i:Int) by omega,decide_true,cond_true,Int.toNat_natCast,lγ hi,be,wBr (show i<9223372036854775807 by omega),show ∀k:Nat,Int.ofNat k=(k:Int)from fun _=>rfl,aa (UR (n:=n) _),ba,aC,aA];unfold Ud;cases Qe (s[i]:Int)<;>rfl
 ·rw[sf];simp only[gO,bY,aS];cases s with
  |nil=>rfl
  |cons c r=>
   have h1:bx 1 ((c::r).length:Int)=true:=by rw[bJ];simp;omega
   simp only[h1,aP,show bx 0 0=true from rfl,cond_true,Int.toNat_zero,List.getElem?_cons_zero,be,show ∀k:Nat,Int.ofNat k=(k:Int)from fun _=>rfl,aa (Dd (n:=n+1) _),aa (Dc (n:=n+1) _),ba,aC,aA,bE,acx,ahA,gu,Bool.and_true,UA]
 ·unfold aaT;cases s.findIdx? Ud<;>rfl
theorem wz {n:Nat}(xs ys:List Int)(h:xs.length<n)(hb:xs.length<9223372036854775808):evFn lay0.tab (n+1) 50 [.p (.slice 1 (xs.map iE)),.p (.slice 1 (ys.map iE))] []=some (.p (.bool (decide (xs=ys))),[]):=by
 apply JG n (xs.map iE) (ys.map iE);simp only[qm,lβ,aV,cq];by_cases hl:xs.length=ys.length
 ·rw[if_pos (by omega)];refine(aX (xs.zip ys) (fun q i=>jj _ n _ _ q (xs.map iE,ys.map iE,i)) (fun t=>!aB t.1 t.2) (fun i=>some (.p (.bool false),[])) (some (.p (.bool true),[])) (fun q i hi=>?_) (fun q=>?_) (by simp[mι];omega)).trans ?_
  ·simp only[mι]at hi;rw[rk];simp only[fT,lβ,cT (show((i:Int)<(xs.length:Int)) by omega),aP,aE,aH,aG (show i<xs.length by omega),aG (show i<ys.length by omega),be,dI,wBr (show i<9223372036854775807 by omega),List.getElem_zip];exact de _ _ _
  ·rw[rk];simp only[fT,lβ,mι,hl,Nat.min_self,bY,aS]
  ·have key:=ny aB hl aV;cases hf:(xs.zip ys).findIdx? (fun t=>!aB t.1 t.2)with
   |none=>simp[key.1 hf]
   |some j=>
    have:¬xs=ys:=fun e=>by rw[key.2 e]at hf;cases hf
    simp[this]
 ·rw[if_neg (by omega)];have:¬xs=ys:=fun e=>hl (by rw[e])
  simp[this]
theorem BR {n:Nat}(xs ys:List (List Nat))(h:xs.length<n)(hb:xs.length<9223372036854775808):evFn lay0.tab (n+1) 80 [.p (.slice 1 (xs.map .str)),.p (.slice 1 (ys.map .str))] []=some (.p (.bool (decide (xs=ys))),[]):=by
 apply BZ n (xs.map .str) (ys.map .str);simp only[lz,lβ,aV,cq];by_cases hl:xs.length=ys.length
 ·rw[if_pos (by omega)];refine(aX (xs.zip ys) (fun q i=>fC _ n _ _ q (xs.map .str,ys.map .str,i)) (fun t=>!aO t.1 t.2) (fun i=>some (.p (.bool false),[])) (some (.p (.bool true),[])) (fun q i hi=>?_) (fun q=>?_) (by simp[mι];omega)).trans ?_
  ·simp only[mι]at hi;rw[mH];simp only[dU,lβ,cT (show((i:Int)<(xs.length:Int)) by omega),aP,aE,aH,aG (show i<xs.length by omega),aG (show i<ys.length by omega),be,z0,wBr (show i<9223372036854775807 by omega),List.getElem_zip];exact de _ _ _
  ·rw[mH];simp only[dU,lβ,mι,hl,Nat.min_self,bY,aS]
  ·have key:=ny aO hl dB;cases hf:(xs.zip ys).findIdx? (fun t=>!aO t.1 t.2)with
   |none=>simp[key.1 hf]
   |some j=>
    have:¬xs=ys:=fun e=>by rw[key.2 e]at hf;cases hf
    simp[this]
 ·rw[if_neg (by omega)];have:¬xs=ys:=fun e=>hl (by rw[e])
  simp[this]
theorem kj {n:Nat}(a b:Va)(hi:a.I.length<n)(hl:a.L.length<n)(bi:a.I.length<9223372036854775808)(bl:a.L.length<9223372036854775808):evFn lay0.tab (n+2) 45 [.p (.agg a.c),.p (.agg b.c)] []=some (.p (.bool (jS a b)),[]):=by
 apply GD (n+1) a.r b.r;unfold oM;have h1:=aa (wz (n:=n) a.I b.I hi bi);have h2:=aa (BR (n:=n) a.L b.L hl bl);simp only[Va.r,h1,h2,ba,aC,aA,bE,dW,gu,jS,Bool.and_true]
def bR1 (v:Va):Bool:=(!aB v.k 1&&(!aB v.k 2&&!aB v.n 0))||((!aB v.k 3&&!aO v.s [])||((!aB v.k 4&&aU 0 (ct v.I))||(!aB v.k 5&&aU 0 (ct v.L))))
def bR2 (v:Va):Bool:=aU v.k 0||(aU 5 v.k||((aB v.k 2&&(!aB v.n 0&&!aB v.n 1))||(aU 64 (ct v.s)||(aU 16 (ct v.I)||aU 16 (ct v.L)))))
theorem ahu (v:Va):(!bR1 v&&(!bR2 v&&v.L.all fun t=>!aU 64 (ct t)))=Mg v:=by
 unfold Mg bR1 bR2 Ns Nt Yw Nu;have h12:aB v.k 1=true→aB v.k 2=false:=by simp only[aV,lη,mγ];omega
 have hn:aB v.n 0=true→aB v.n 1=false:=by simp only[aV,lη,mγ];omega
 revert h12 hn
 generalize(v.L.all fun t=>!aU 64 (ct t))=w;cases aB v.k 1<;>cases aB v.k 2<;>cases aB v.n 0<;>cases aB v.n 1<;>simp<;>
 cases aB v.k 3<;>cases aB v.k 4<;>cases aB v.k 5<;>cases aO v.s []<;>cases aU 0 (ct v.I)<;>cases aU 0 (ct v.L)<;>simp<;>cases aU v.k 0<;>cases aU 5 v.k<;>simp
section
variable (cc:ae) (n:Nat) (k0:Bool×aL→R) (v:Va)
theorem rv1:gb cc n k0 v.r=k0 (bR1 v,v.r):=by
 unfold gb ga j0 bR1 ct;simp only[Va.r,lβ];cases aB v.k 1<;>cases aB v.k 2<;>cases aB v.n 0<;>cases aB v.k 3<;>cases aO v.s []<;>cases aB v.k 4<;>cases aU 0 (v.I.length:Int)<;>cases aB v.k 5<;>cases aU 0 (v.L.length:Int)<;>rfl
theorem rv2:gc cc n k0 v.r=k0 (bR2 v,v.r):=by
 unfold gc f9 bR2 ct;simp only[Va.r,lβ];cases aU v.k 0<;>cases aU 5 v.k<;>cases aB v.k 2<;>cases aB v.n 0<;>cases aB v.n 1<;>cases aU 64 (v.s.length:Int)<;>cases aU 16 (v.I.length:Int)<;>cases aU 16 (v.L.length:Int)<;>rfl
end
theorem rO {n:Nat}(v:Va)(h:v.L.length<n)(hb:v.L.length<9223372036854775808):evFn lay0.tab (n+1) 199 [.p (.agg v.c)] []=some (.p (.bool (Mg v)),[]):=by
 apply Ef n v.r;rw[←ahu];unfold mB;simp only[rv1,rv2];have hl:ej (bv lay0.tab n) n (fun u11=>some (.p (.bool false),[])) (fun(i12,u13)=>some (.p (.bool true),[])) n (0,v.r)=some (.p (.bool (v.L.all fun t=>!aU 64 (ct t))),[]):=by
  refine(aX v.L (fun q i=>ej _ n _ _ q (i,v.r)) (fun t=>aU 64 (ct t)) (fun i=>some (.p (.bool false),[])) (some (.p (.bool true),[])) (fun q i hi=>?_) (fun q=>?_) (by omega)).trans ?_
  ·rw[oa];simp only[em,Va.r,lβ,cT (show((i:Int)<(v.L.length:Int)) by omega),aP,aE,aH,aG hi,be,z0,wBr (show i<9223372036854775807 by omega)];exact de _ _ _
  ·rw[oa];simp only[em,Va.r,lβ,bY,aS]
  ·rw[pI];cases v.L.findIdx? fun t=>aU 64 (ct t)<;>rfl
 rw[hl];cases bR1 v<;>cases bR2 v<;>rfl
theorem IS {n:Nat}(f:Fe)(hs:f.name.length<n)(hi:f.init.I.length<n)(hl:f.init.L.length<n)(bs:f.name.length<9223372036854775808)(bi:f.init.I.length<9223372036854775808)(bl:f.init.L.length<9223372036854775808):evFn lay0.tab (n+4) 157 [.p f.e] []=some (.p (.bool (f1 f)),[]):=by
 apply JC (n+3) f.r;unfold qh f1 hO;have h1:=aa (iF (n:=n) f.name hs bs);have h2:=aa (rO (n:=n+2) f.init (by omega) bl);simp only[Va.c]at h2;have h3:fJ (bv lay0.tab (n+3)) (n+3) (fun u13=>some (.p (.bool false),[])) (fun(i14,u15)=>some (.p (.bool true),[])) (n+3) (0,f.r)=some (.p (.bool (!f.init.I.any fun x=>aB (-9223372036854775808) x)),[]):=by
  refine(aX f.init.I (fun q i=>fJ _ (n+3) _ _ q (i,f.r)) (fun x=>aB x (-9223372036854775808)) (fun i=>some (.p (.bool false),[])) (some (.p (.bool true),[])) (fun q i hi=>?_) (fun q=>?_) (by omega)).trans ?_
  ·rw[rd];simp only[fN,show ∀f:Fe,f.r.Init_I=f.init.I.map iE from fun _=>rfl,lβ,cT (show((i:Int)<(f.init.I.length:Int)) by omega),aP,aE,aH,aG hi,be,dI,wBr (show i<9223372036854775807 by omega)];exact de _ _ _
  ·rw[rd];simp only[fN,show ∀f:Fe,f.r.Init_I=f.init.I.map iE from fun _=>rfl,lβ,bY,aS]
  ·rw[show(f.init.I.any fun x=>aB (-9223372036854775808) x)=f.init.I.any fun x=>aB x (-9223372036854775808) by congr 1;funext x;rw[aV,aV];exact decide_eq_decide.2 ⟨Eq.symm,Eq.symm⟩,←List.findIdx?_isSome];cases f.init.I.findIdx? fun x=>aB x (-9223372036854775808)<;>rfl
 have hk1:bx 1 f.kind=!aU f.kind 1:=rfl;have hk5:bx f.kind 5=!aU 5 f.kind:=rfl;simp only[show f.r.Name=f.name from rfl,show f.r.Kind=f.kind from rfl,show f.r.Init_Kind=f.init.k from rfl,show f.r.Init_N=f.init.n from rfl,show f.r.Init_S=f.init.s from rfl,show f.r.Init_I=f.init.I.map iE from rfl,show f.r.Init_L=f.init.L.map .str from rfl,h1,h2,h3,ba,aC,aA,hk1,hk5];cases cU f.name<;>cases aU f.kind 1<;>cases aU 5 f.kind<;>cases aB f.init.k f.kind<;>cases Mg f.init<;>cases aB f.init.n (-9223372036854775808)<;>rfl
end
end Go.Ab
end
section
namespace Go.Ab
open Go
set_option maxRecDepth 100000
noncomputable section
theorem rc {n:Nat}(k:Int):evFn lay0.tab (n+1) 248 [.p (.int .i64 k)] []=some (.p (.bool (ed k)),[]):=by
 apply BX n k;simp only[lx,bE,dW,gu,ed,Bool.and_true]
theorem Df {n:Nat}(k:Int):evFn lay0.tab (n+1) 249 [.p (.int .i64 k)] []=some (.p (.bool (Cz k)),[]):=by
 apply Ee n k;simp only[mA,bE,dW,gu,Cz,Bool.and_true]
theorem Qv {n:Nat}(k:Int):evFn lay0.tab (n+1) 247 [.p (.int .i64 k)] []=some (.p (.bool (sW k)),[]):=by
 apply Q5 n k;have:sW k=(bx 1 k&&bx k 7):=by
  unfold sW ed zW;rw[mθ];simp only[bJ,aV,qδ,lδ,lη];omega
 simp only[vp,bE,dW,gu,Bool.and_true,this]
def ad1 (s:List Nat):Int:=bif aO s [124,124]then 1 else bif aO s [38,38]then 2 else bif aO s [61,61]then 3 else bif aO s [33,61]then 3 else bif aO s [60]then 3 else bif aO s [60,61]then 3 else bif aO s [62]then 3 else bif aO s [62,61]then 3 else bif aO s [43]then 4 else bif aO s [45]then 4 else bif aO s [42]then 5 else bif aO s [47]then 5 else bif aO s [37]then 5 else 0
theorem Ki (a:Bool)(x y:Int):iL a (some ((.p (.int .i64 x)),[])) (some ((.p (.int .i64 y)),[]))=some ((.p (.int .i64 (bif a then x else y))),[]):=by cases a<;>rfl
theorem Qu {n:Nat}(s:List Nat):evFn lay0.tab (n+1) 246 [.p (.str s)] []=some (.p (.int .i64 (ad1 s)),[]):=by
 apply Q4 n s;simp only[vo,Ki,ad1]
theorem ad2 (s:List Nat):aU 0 (ad1 s)=binO.any fun t=>aO s t:=by
 have h:∀(b:Bool) (x y:Int),aU 0 (bif b then x else y)=bif b then aU 0 x else aU 0 y:=by intro b x y;cases b<;>rfl
 simp only[ad1,h,binO,List.any_cons,List.any_nil,show aU 0 1=true from rfl,show aU 0 2=true from rfl,show aU 0 3=true from rfl,show aU 0 4=true from rfl,show aU 0 5=true from rfl,show aU 0 0=false from rfl,V6,Bool.or_false]
theorem ze {n:Nat}(ns:List No)(ks:List Int)(hk:∀k∈ks,∃y,eG ns k=some y)(h:ks.length<n)(hb:ks.length<9223372036854775808):evFn lay0.tab (n+2) 245 [.p (.slice 8 (ns.map No.e)),.p (.slice 1 (ks.map iE))] []=some (.p (.bool (ks.all fun k=>ed (cK ns k))),[]):=by
 apply zP (n+1) (ns.map No.e) (ks.map iE);unfold jU;refine(aX ks (fun q i=>eO _ (n+1) _ _ q (ns.map No.e,ks.map iE,i)) (fun k=>!ed (cK ns k)) (fun i=>some (.p (.bool false),[])) (some (.p (.bool true),[])) (fun q i hi=>?_) (fun q=>?_) (by omega)).trans ?_
 ·rw[lK];obtain⟨y,hy⟩:=hk ks[i] (lι _);simp only[dF,lβ,cT (show((i:Int)<(ks.length:Int)) by omega),aP,aE,aH,aG hi,be,dI,hy,sI,rL,wBr (show i<9223372036854775807 by omega),aa (rc (n:=n) y.op),ba,aC,aA,cK,Option.map_some,Option.getD_some];cases ed y.op<;>rfl
 ·rw[lK];simp only[dF,lβ,bY,aS]
 ·rw[eQ];cases ks.findIdx? fun k=>!ed (cK ns k)<;>rfl
theorem gw (x:No)(a:Int):ep x a a=aB (x.kids.length:Int) a:=by
 unfold ep;rw[mθ];simp only[bJ,aV,lδ,lη];omega
theorem W1 (v:Va):jS v v=true:=by
 unfold jS;simp[aV,dB]
theorem IA {m:Nat}(ns:List No)(x:No)(s t:List Nat)(hk:∀k∈x.kids,∃y,eG ns k=some y)(hb:x.kids.length<9223372036854775808)(k0:LD×Int×LN×Bool×Int×aF×LN→R):∀(e q j:Nat) (b:Bool),j+e=x.kids.length→e<q→
  L_r18form_1 (bv lay0.tab (m+1)) (m+1) k0 q (ns.map No.e,(x.kids.length:Int),s,b,(j:Int),x.r,t)=k0 (ns.map No.e,(x.kids.length:Int),s,b&&(x.kids.drop j).all (fun k=>Cz (cK ns k)),(x.kids.length:Int),x.r,t)
 |0,q+1,j,b,h,_=>by
  obtain rfl:j=x.kids.length:=by omega
  rw[wK];simp only[kU,bY,aS,List.drop_length,List.all_nil,Bool.and_true]
 |e+1,q+1,j,b,h,hq=>by
  have hj:j<x.kids.length:=by omega
  obtain⟨y,hy⟩:=hk x.kids[j] (lι _);rw[wK,lμ hj];simp only[kU,pR,cT (show((j:Int)<(x.kids.length:Int)) by omega),aP,aE,aH,aG hj,be,dI,hy,sI,rL,wBr (show j<9223372036854775807 by omega),aa (Df (n:=m) y.op),ba,aC,aA,List.all_cons,cK,Option.map_some,Option.getD_some];have ih:=fun b=>IA (m:=m) ns x s t hk hb k0 e q (j+1) b (by omega) (by omega)
  cases b
  ·simp only[aS,ih,Bool.false_and]
  ·cases Cz y.op
   ·simp only[aP,aS,ih,Bool.false_and,Bool.and_false]
   ·simp only[aP,ih,Bool.true_and];rfl
theorem UT {n:Nat}(ns:List No)(x:No)(hk:∀k∈x.kids,∃y,eG ns k=some y)(h1:x.kids.length<n)(h2:x.name.length<n)(h3:x.v.s.length<n)(h4:x.v.I.length<n)(h5:x.v.L.length<n)(b1:x.kids.length<9223372036854775808)(b2:x.name.length<9223372036854775808)(b3:x.v.s.length<9223372036854775808)(b4:x.v.I.length<9223372036854775808)(b5:x.v.L.length<9223372036854775808):
  evFn lay0.tab (n+5) 201 [.p (.slice 8 (ns.map No.e)),.p x.e] []=some (.p (.bool (cm ns x&&dX x)),[]):=by
 apply Vu (n+4) (ns.map No.e) x.r;have e1:=aa (kj (n:=n+2) x.v x.v (by omega) (by omega) b4 b5);have e2:=aa (kj (n:=n+2) x.v v0 (by omega) (by omega) b4 b5);have e3:=aa (kj (n:=n+2) x.v ⟨0,0,x.v.s,[],[]⟩ (by omega) (by omega) b4 b5);have e4:=aa (kj (n:=n+2) x.v ⟨x.v.k,0,[],[],[]⟩ (by omega) (by omega) b4 b5);have e5:=aa (iF (n:=n+1) x.name (by omega) b2);have e6:=aa (iF (n:=n+1) x.v.s (by omega) b3);have e7:=aa (rO (n:=n+3) x.v (by omega) b5);have e8:=aa (ze (n:=n+2) ns x.kids hk (by omega) b1);have e9:=aa (Qu (n:=n+3) x.name);have ex:∀(o:Int) (K:KV),bv lay0.tab (n+4) 248 [.p (.int .i64 o)] [] K=K (.p (.bool (ed o))) []:=fun o=>aa (rc (n:=n+3) o)
 have ev:∀(o:Int) (K:KV),bv lay0.tab (n+4) 247 [.p (.int .i64 o)] [] K=K (.p (.bool (sW o))) []:=fun o=>aa (Qv (n:=n+3) o)
 simp only[Va.c,v0,List.map_nil]at e1 e2 e3 e4 e7;rw[W1]at e1;have ss:aO x.name x.name=true:=by rw[dB];simp
 have eE:(x.kids.all fun k=>ed (cK ns k))=dL ns x 0 ed:=rfl;have q1:iH (bv lay0.tab (n+4)) x.r=some (.p (.bool (jS x.v v0)),[]):=by
  unfold iH cX;simp only[Gk,K0,Il,K1,K2,e2,ba,aC,aA,bE,dW,v0]
 have q2:fM x.r (bv lay0.tab (n+4))=some (.p (.bool (aO x.name [])),[]):=by
  unfold fM cX;simp only[Cc,Gk,K0,Il,K1,K2,e1,ba,aC,aA,aP,bE,dW]
 have q4:eD (bv lay0.tab (n+4)) (ns.map No.e) x.r=some (.p (.bool (dL ns x 0 ed&&jS x.v v0)),[]):=by
  unfold eD lX;simp only[Cc,pR,e8,eE,q1,ss,aP,ba,aC,aA,bE,dW,gu,Bool.true_and]
 have q11:jm x.r (bv lay0.tab (n+4))=some (.p (.bool (aO x.name []&&jS x.v v0)),[]):=by
  unfold jm;simp only[Cc,q1,bE,gu]
 have q6:iI (bv lay0.tab (n+4)) (ns.map No.e) x.r=some (.p (.bool (dL ns x 0 ed&&(aO x.name []&&jS x.v v0))),[]):=by
  unfold iI;simp only[pR,e8,eE,q11,ba,aC,aA,bE,gu]
 have q12:lY x.r (bv lay0.tab (n+4))=some (.p (.bool (aB (x.kids.length:Int) 0&&(aO x.name []&&jS x.v v0))),[]):=by
  unfold lY;simp only[Cc,pR,lβ,q1,bE,gu]
 have q9:kK x.r=some (.p (.bool false),[]):=by
  unfold kK;cases aB x.r.Op 8<;>rfl
 unfold zl;rw[rL];by_cases o1:x.op=1
 ·simp only[o1,aV,decide_true,aP,q2,cm,dX,ZA,cond_true,gw,Gk,K0,Il,K1,K2,pR,lβ,e7,ba,aC,aA];cases decide ((x.kids.length:Int)=0)<;>cases Mg x.v<;>cases decide (x.v.k=1)<;>cases bx 0 x.v.n<;>cases decide (x.v.k=2)<;>cases decide (x.v.k=3)<;>cases aO x.name []<;>rfl
 by_cases o2:x.op=2
 ·simp only[o2,aV,Int.reduceEq,decide_true,decide_false,aP,aS,cond_true,cond_false,cm,dX,gX,gw,Cc,Gk,K0,Il,K1,K2,pR,lβ,ba,aC,bz,aA,bE,dW,gu,lX,e5,q1,ss,Bool.true_and]
 by_cases o3:x.op=3
 ·simp only[o3,aV,Int.reduceEq,decide_true,decide_false,aP,aS,cond_true,cond_false,cm,dX,gX,gw,Cc,Gk,K0,Il,K1,K2,pR,lβ,ba,aC,bz,aA,bE,dW,gu,q12]
 by_cases o14:x.op=14
 ·simp only[o14,aV,Int.reduceEq,decide_true,decide_false,aP,aS,cond_true,cond_false,cm,dX,gX,gw,Cc,Gk,K0,Il,K1,K2,pR,lβ,ba,aC,bz,aA,bE,dW,gu,q12]
 by_cases o4:x.op=4
 ·simp only[o4,aV,Int.reduceEq,decide_true,decide_false,aP,aS,cond_true,cond_false,cm,dX,gX,gw,Cc,Gk,K0,Il,K1,K2,pR,lβ,ba,aC,bz,aA,bE,dW,gu,q4];cases decide ((x.kids.length:Int)=1)<;>cases aO x.name [45]<;>cases aO x.name [33]<;>cases dL ns x 0 ed<;>rfl
 by_cases o5:x.op=5
 ·simp only[o5,aV,Int.reduceEq,decide_true,decide_false,aP,aS,cond_true,cond_false,cm,dX,gX,gw,Cc,Gk,K0,Il,K1,K2,pR,lβ,ba,aC,bz,aA,bE,dW,gu,q4,e9,ad2];cases decide ((x.kids.length:Int)=2)<;>cases(binO.any fun t=>aO x.name t)<;>cases dL ns x 0 ed<;>rfl
 by_cases o6:x.op=6
 ·simp only[o6,aV,Int.reduceEq,decide_true,decide_false,aP,aS,cond_true,cond_false,cm,dX,gX,gw,Cc,Gk,K0,Il,K1,K2,pR,lβ,ba,aC,bz,aA,bE,dW,gu,q4,e5,ep,show bx 0 (x.kids.length:Int)=true by rw[bJ];simp];cases bx (x.kids.length:Int) 16<;>cases cU x.name<;>cases aO x.name [105,110,116,115]<;>cases aO x.name [115,116,114,105,110,103,115]<;>cases dL ns x 0 ed<;>rfl
 by_cases o7:x.op=7
 ·simp only[o7,aV,Int.reduceEq,decide_true,decide_false,aP,aS,cond_true,cond_false,cm,dX,gX,gw,Cc,Gk,K0,Il,K1,K2,pR,lβ,ba,aC,bz,aA,bE,dW,gu,e5,e6,e8,eE,e3,cX,ss,ep,Bool.and_true];cases bx 1 (x.kids.length:Int)<;>cases bx (x.kids.length:Int) 17<;>cases cU x.name<;>cases cU x.v.s<;>cases dL ns x 0 ed<;>rfl
 by_cases o8:x.op=8
 ·simp only[o8,aV,Int.reduceEq,decide_true,decide_false,aP,aS,cond_true,cond_false,cm,dX,gX,gw,oe,cX,rL,Cc,Gk,K0,Il,K1,K2,pR,lβ,e5,e4,q1,q9,ba,aC,aA,ss];by_cases hl:(x.kids.length:Int)=1
  ·obtain⟨k,hks⟩:∃k,x.kids=[k]:=by
    match hx:x.kids,hl with
    |[k],_=>exact⟨k,rfl⟩
    |[],hl=>simp at hl
    |_::_::_,hl=>simp at hl;omega
   obtain⟨y,hy⟩:=hk k (by rw[hks];exact lυ ..);have hoy:cK ns k=y.op:=by unfold cK;rw[hy];rfl
   simp only[hl,hks,show(([k]:List Int).length:Int)=1 from rfl,decide_true,aP,aE,aH,cO,be,dI,hy,sI,rL,ev,ba,aC,aA,o8,dL,List.drop_zero,List.all_cons,List.all_nil,Bool.and_true,hoy,hO,Int.reduceEq,decide_false];cases cU x.name<;>cases sW y.op<;>cases bx 1 x.v.k<;>cases bx x.v.k 5<;>simp only[aP,aS,bE,dW,Bool.true_and,Bool.false_and,Bool.and_true,Bool.and_false,Bool.and_self,cond_true,cond_false]
  ·simp only[hl,decide_false,aS,Bool.false_and]
 by_cases o9:x.op=9
 ·simp only[o9,aV,Int.reduceEq,decide_true,decide_false,aP,aS,cond_true,cond_false,cm,dX,gX,gw,oe,cX,rL,Cc,Gk,K0,Il,K1,K2,pR,lβ,e5,e4,q1,q9,ba,aC,aA,ss];by_cases hl:(x.kids.length:Int)=1
  ·obtain⟨k,hks⟩:∃k,x.kids=[k]:=by
    match hx:x.kids,hl with
    |[k],_=>exact⟨k,rfl⟩
    |[],hl=>simp at hl
    |_::_::_,hl=>simp at hl;omega
   obtain⟨y,hy⟩:=hk k (by rw[hks];exact lυ ..);have hoy:cK ns k=y.op:=by unfold cK;rw[hy];rfl
   simp only[hl,hks,show(([k]:List Int).length:Int)=1 from rfl,decide_true,aP,aE,aH,cO,be,dI,hy,sI,rL,ev,ba,aC,aA,o9,dL,List.drop_zero,List.all_cons,List.all_nil,Bool.and_true,hoy,Int.reduceEq,decide_false];cases cU x.name<;>cases sW y.op<;>simp only[aP,aS,bE,dW,Bool.true_and,Bool.false_and,Bool.and_true,Bool.and_false,Bool.and_self,cond_true,cond_false]
  ·simp only[hl,decide_false,aS,Bool.false_and]
 by_cases o10:x.op=10
 ·simp only[o10,aV,Int.reduceEq,decide_true,decide_false,aP,aS,cond_true,cond_false,cm,dX,gX,gw,rL,pR,lβ,q11];by_cases hl:(x.kids.length:Int)=1
  ·obtain⟨k,hks⟩:∃k,x.kids=[k]:=by
    match hx:x.kids,hl with
    |[k],_=>exact⟨k,rfl⟩
    |[],hl=>simp at hl
    |_::_::_,hl=>simp at hl;omega
   obtain⟨y,hy⟩:=hk k (by rw[hks];exact lυ ..);have hoy:cK ns k=y.op:=by unfold cK;rw[hy];rfl
   simp only[hl,hks,show(([k]:List Int).length:Int)=1 from rfl,decide_true,aP,aE,aH,cO,be,dI,hy,sI,rL,dL,List.drop_zero,List.all_cons,List.all_nil,Bool.and_true,hoy,zW,aV,Bool.true_and];by_cases h7:y.op=7
   ·cases aO x.name []<;>simp[h7,aP]
   ·cases aO x.name []<;>simp[h7,aS]
  ·simp only[hl,decide_false,aS,Bool.false_and]
 by_cases o11:x.op=11
 ·simp only[o11,aV,Int.reduceEq,decide_true,decide_false,aP,aS,cond_true,cond_false,cm,dX,gX,Og,rL,pR,lβ,su,og,q11];match hx:x.kids with
  |[]=>simp[ep,hx,bJ,aS]
  |[_]=>simp[ep,hx,bJ,aS]
  |[k0,k1]=>
   obtain⟨y0,h0⟩:=hk k0 (by rw[hx];simp);obtain⟨y1,h1⟩:=hk k1 (by rw[hx];simp);have g0:cK ns k0=y0.op:=by unfold cK;rw[h0];rfl
   have g1:cK ns k1=y1.op:=by unfold cK;rw[h1];rfl
   have w:aj .i64 (2 - 1)=1:=by decide
   simp only[List.length_cons,List.length_nil,Nat.zero_add,Nat.reduceAdd,Int.cast_ofNat_Int,decide_true,aP,aE,aH,cO,be,dI,h0,sI,rL,ex,ba,aC,aA,w,show eG [k0,k1] 1=some k1 from rfl,h1,ep,hx,dL,List.headD_cons,List.drop_succ_cons,List.drop_zero,List.all_cons,List.all_nil,g0,g1,Eo,aV,show bx 2 2=true from rfl,show bx 2 3=true from rfl,Bool.and_true,Bool.true_and];cases ed y0.op<;>by_cases h18:y1.op=18<;>cases aO x.name []<;>simp[h18,aP,aS]
  |[k0,k1,k2]=>
   obtain⟨y0,h0⟩:=hk k0 (by rw[hx];simp);obtain⟨y1,h1⟩:=hk k1 (by rw[hx];simp);obtain⟨y2,h2'⟩:=hk k2 (by rw[hx];simp);have g0:cK ns k0=y0.op:=by unfold cK;rw[h0];rfl
   have g1:cK ns k1=y1.op:=by unfold cK;rw[h1];rfl
   have g2:cK ns k2=y2.op:=by unfold cK;rw[h2'];rfl
   have w:aj .i64 (3 - 1)=2:=by decide
   simp only[List.length_cons,List.length_nil,Nat.zero_add,Nat.reduceAdd,Int.cast_ofNat_Int,Int.reduceEq,decide_true,decide_false,aP,aS,aE,aH,cO,be,dI,h0,sI,rL,ex,ba,aC,aA,w,show eG [k0,k1,k2] 1=some k1 from rfl,show eG [k0,k1,k2] 2=some k2 from rfl,h1,h2',ep,hx,dL,List.headD_cons,List.drop_succ_cons,List.drop_zero,List.all_cons,List.all_nil,g0,g1,g2,Eo,aV,show bx 2 3=true from rfl,show bx 3 3=true from rfl,Bool.and_true,Bool.true_and];cases ed y0.op<;>by_cases h18:y1.op=18<;>by_cases h19:y2.op=18<;>cases aO x.name []<;>simp[h18,h19,aP,aS]
  |a::b::c::d::r=>
   have z2:¬(((a::b::c::d::r).length:Int)=2):=by simp;omega
   have z3:¬(((a::b::c::d::r).length:Int)=3):=by simp;omega
   have z4:bx ((a::b::c::d::r).length:Int) 3=false:=by rw[bJ];simp;omega
   simp only[z2,z3,decide_false,aS,ep,hx,z4,Bool.and_false,Bool.false_and]
 by_cases o12:x.op=12
 ·simp only[o12,aV,Int.reduceEq,decide_true,decide_false,aP,aS,cond_true,cond_false,cm,dX,gX,Og,rL,pR,lβ,og,q11,gw];match hx:x.kids with
  |[]=>simp[hx,aS]
  |[_]=>simp[hx,aS]
  |[k0,k1]=>
   obtain⟨y0,h0⟩:=hk k0 (by rw[hx];simp);obtain⟨y1,h1⟩:=hk k1 (by rw[hx];simp);have g0:cK ns k0=y0.op:=by unfold cK;rw[h0];rfl
   have g1:cK ns k1=y1.op:=by unfold cK;rw[h1];rfl
   simp only[List.length_cons,List.length_nil,Nat.zero_add,Nat.reduceAdd,Int.cast_ofNat_Int,decide_true,aP,aE,aH,cO,be,dI,h0,sI,rL,ex,ba,aC,aA,show eG [k0,k1] 1=some k1 from rfl,h1,hx,dL,List.headD_cons,List.drop_succ_cons,List.drop_zero,List.all_cons,List.all_nil,g0,g1,Eo,aV,Bool.and_true,Bool.true_and];cases ed y0.op<;>by_cases h18:y1.op=18<;>cases aO x.name []<;>simp[h18,aP,aS]
  |a::b::c::r=>
   have z2:¬(((a::b::c::r).length:Int)=2):=by simp;omega
   simp only[z2,hx,decide_false,aS,Bool.false_and]
 by_cases o13:x.op=13
 ·simp only[o13,aV,Int.reduceEq,decide_true,decide_false,aP,aS,cond_true,cond_false,cm,dX,gX,gw,Cc,Gk,K0,Il,K1,K2,pR,lβ,ba,aC,bz,aA,bE,dW,gu,q6,ep,show bx 0 (x.kids.length:Int)=true by rw[bJ];simp];cases bx (x.kids.length:Int) 1<;>cases dL ns x 0 ed<;>cases aO x.name []<;>rfl
 by_cases o15:x.op=15
 ·simp only[o15,aV,Int.reduceEq,decide_true,decide_false,aP,aS,cond_true,cond_false,cm,dX,gX,gw,Cc,Gk,K0,Il,K1,K2,pR,lβ,ba,aC,bz,aA,bE,dW,gu,q6];cases decide ((x.kids.length:Int)=2)<;>cases dL ns x 0 ed<;>cases aO x.name []<;>rfl
 by_cases o16:x.op=16
 ·simp only[o16,aV,Int.reduceEq,decide_true,decide_false,aP,aS,cond_true,cond_false,cm,dX,gX,gw,Cc,Gk,K0,Il,K1,K2,pR,lβ,ba,aC,bz,aA,bE,dW,gu,q6];cases decide ((x.kids.length:Int)=3)<;>cases dL ns x 0 ed<;>cases aO x.name []<;>rfl
 by_cases o17:x.op=17
 ·simp only[o17,aV,Int.reduceEq,decide_true,decide_false,aP,aS,cond_true,cond_false,cm,dX,gX,gw,Cc,Gk,K0,Il,K1,K2,pR,lβ,ba,aC,bz,aA,bE,dW,gu,q6];cases decide ((x.kids.length:Int)=1)<;>cases dL ns x 0 ed<;>cases aO x.name []<;>rfl
 by_cases o18:x.op=18
 ·simp only[o18,aV,Int.reduceEq,decide_true,decide_false,aP,aS,cond_true,cond_false,cm,dX,gX];have g:=fun k0=>IA (m:=n+3) ns x [] [] hk b1 k0 x.kids.length (n+4) 0 true (by omega) (by omega)
  simp only[show((0:Nat):Int)=0 from rfl,List.drop_zero,Bool.true_and]at g;simp only[pR,lβ,g,Cc,Gk,K0,Il,K1,K2,e2,cX,ba,aC,aA,bE,dW,gu,dL,List.drop_zero,v0,Bool.and_true]
 ·simp only[aV,o1,o2,o3,o4,o5,o6,o7,o8,o9,o10,o11,o12,o13,o14,o15,o16,o17,o18,decide_false,aS,cm,cond_false,Bool.false_and]
end
end Go.Ab
end
section
namespace Go.Ab
open Go
set_option maxRecDepth 100000
noncomputable section
theorem Gm {n:Nat}(xs ys:List Int)(lo len:Nat)(hl:lo+len≤xs.length)(h:ys.length<n)(hb:ys.length<9223372036854775808):evFn lay0.tab (n+1) 50 [.p (.slice 1 (ys.map iE)),.arr 0 lo len 1] [.arr (xs.map iE)]=some (.p (.bool (decide ((xs.drop lo).take len=ys))),[.arr (xs.map iE)]):=by
 apply GC n (xs.map iE) lo len (ys.map iE);have hzl:((xs.drop lo).take len).length=len:=by simp;omega
 simp only[oL,lβ,aV,cq];by_cases he:ys.length=len
 ·rw[if_pos (by omega)];have hl2:ys.length=((xs.drop lo).take len).length:=by omega
  refine(aX (ys.zip ((xs.drop lo).take len)) (fun q i=>ii _ n _ _ q (ys.map iE,lo,len,i,xs.map iE)) (fun t=>!aB t.1 t.2) (fun i=>some (.p (.bool false),[.arr (xs.map iE)])) (some (.p (.bool true),[.arr (xs.map iE)])) (fun q i hi=>?_) (fun q=>?_) (by simp only[mι];omega)).trans ?_
  ·simp only[mι]at hi;rw[pq];have hg:(xs.map iE)[lo+i]?=some (iE (((xs.drop lo).take len)[i]'(by omega))):=by
    rw[lχ,lγ (by omega)];simp
   simp only[fi,lβ,cT (show((i:Int)<(ys.length:Int)) by omega),cT (show((i:Int)<(len:Int)) by omega),aP,bJ,show(0:Int)≤(i:Int) by omega,decide_true,Int.toNat_natCast,hg,aE,aH,aG (show i<ys.length by omega),be,dI,wBr (show i<9223372036854775807 by omega),List.getElem_zip];exact de _ _ _
  ·rw[pq];simp only[fi,lβ,mι,←hl2,Nat.min_self,bY,aS]
  ·have key:=ny aB hl2 aV;cases hf:(ys.zip ((xs.drop lo).take len)).findIdx? (fun t=>!aB t.1 t.2)with
   |none=>simp only[(key.1 hf).symm,decide_true]
   |some j=>
    have:¬(xs.drop lo).take len=ys:=fun e=>by rw[key.2 e.symm]at hf;cases hf
    simp only[this,decide_false]
 ·rw[if_neg (by omega)];have:¬(xs.drop lo).take len=ys:=fun e=>he (by rw[←e];omega)
  simp only[this,decide_false]
theorem FR {n:Nat}(ns:List No)(hkl:∀x∈ns,x.kids.length<1000)(hl:ns.length<1000)(k0:LD→R)(k1:cR→R)(hk0:∀a,k0 a=some (.p (.bool false),[]))(hk1:∀a b c d,k1 (a,b,c,d)=some (.p (.bool (decide (b=1))),[])):∀(e q i:Nat) (roots:List Int),i+e=ns.length→e<q→roots.length≤i→
  L_r18PostOrder_1 (bv lay0.tab (n+1001)) (n+1001) k0 k1 q (ns.map No.e,roots.length,(i:Int),roots.map iE)=some (.p (.bool (eJ (ns.drop i) i roots)),[])
 |0,q+1,i,roots,h,_,_=>by
  obtain rfl:i=ns.length:=by omega
  rw[n7];simp only[ek,lβ,bY,aS,List.drop_length,eJ,hk1]
 |e+1,q+1,i,roots,h,hq,hr=>by
  have hi:i<ns.length:=by omega
  have hx:ns[i]∈ns:=lι _;have hkx:=hkl _ hx;rw[n7,lμ hi];have hw:aj .i64 ((roots.length:Int) - ((ns[i].kids.map iE).length:Int))=(roots.length:Int) - (ns[i].kids.length:Int):=by
   rw[lβ,jT (by omega) (by omega)]
  simp only[ek,lβ,cT (show((i:Int)<(ns.length:Int)) by omega),aP,aE,aH,aG hi,be,sI,pR,eJ];rw[lβ]at hw;by_cases hlt:roots.length<ns[i].kids.length
  ·rw[if_pos hlt,cT (by omega),aP,hk0]
  ·rw[if_neg hlt,Bq (by omega),aS];have ht:((roots.length:Int) - (ns[i].kids.length:Int)).toNat=roots.length - ns[i].kids.length:=by omega
   have hm:List.take (roots.length - ns[i].kids.length - 0) (List.drop 0 (roots.map iE))++[Da.int .i64 (i:Int)]=(roots.take (roots.length - ns[i].kids.length)++[(i:Int)]).map iE:=by
    rw[List.map_append,List.map_take];rfl
   have hb0:dM (0+(List.take (roots.length - ns[i].kids.length - 0) (List.drop 0 (roots.map iE))).length) 8=true:=zS (by simp;omega);have hb:dM ((List.take (roots.length - ns[i].kids.length - 0) (List.drop 0 (roots.map iE))).length+[Da.int .i64 (i:Int)].length) 8=true:=zS (by simp;omega);have hv:=aa (Gm (n:=n+1000) roots ns[i].kids (roots.length - ns[i].kids.length) (roots.length - (roots.length - ns[i].kids.length)) (by omega) (by omega) (by omega));have hz:=aa (wz (n:=n+1000) ns[i].kids [] (by omega) (by omega));have hdr:(roots.drop (roots.length - ns[i].kids.length)).take (roots.length - (roots.length - ns[i].kids.length))=roots.drop (roots.length - ns[i].kids.length):=by
    rw[mκ (by simp)]
   rw[hdr]at hv;simp only[List.map_nil]at hz;have hrec:=FR (n:=n) ns hkl hl k0 k1 hk0 hk1 e q (i+1) (roots.take (roots.length - ns[i].kids.length)++[(i:Int)]) (by omega) (by omega) (by simp;omega);simp only[jZ,jY,pR,lβ,hw,bJ,show(0:Int)≤(roots.length:Int) - (ns[i].kids.length:Int) by omega,show(roots.length:Int) - (ns[i].kids.length:Int)≤(roots.length:Int) by omega,decide_true,aP,ht,Nat.zero_add,hv,hz,ba,aC,cg,aA,show ∀(l:LD) (K:LD→R),O4 (Ob.arr l) K=K l from fun _ _=>rfl,hk0,wS (show i<cb by unfold cb;omega),Yx,dt];rw[Nat.zero_add]at hb0;simp only[hb0,hb,hm,aP,lβ,hrec];by_cases hd:roots.drop (roots.length - ns[i].kids.length)=ns[i].kids
   ·rw[if_pos hd];by_cases h0:roots.length - ns[i].kids.length=roots.length
    ·have hk:ns[i].kids=([]:List Int):=by rw[←hd,h0,List.drop_length]
     simp only[h0,hd,hk,if_true,decide_true];cases Nat.blt 0 roots.length<;>simp[aP,aS]
    ·simp only[h0,hd,if_false,if_true]
   ·rw[if_neg hd];by_cases h0:roots.length - ns[i].kids.length=roots.length
    ·have hk:¬ns[i].kids=([]:List Int):=fun e=>hd (by rw[e];simp)
     simp only[h0,hd,hk,if_true,if_false];cases Nat.blt 0 roots.length<;>simp[hk,aP,aS]
    ·simp only[h0,hd,if_false]
theorem De {n:Nat}(ns:List No)(hkl:∀x∈ns,x.kids.length<1000)(hl:ns.length<1000):evFn lay0.tab (n+1002) 200 [.p (.slice 8 (ns.map No.e))] []=some (.p (.bool (eJ ns 0 [])),[]):=by
 apply Ed (n+1001) (ns.map No.e);unfold mz;refine(FR (n:=n) ns hkl hl _ _ (fun _=>rfl) (fun a b c d=>?_) ns.length (n+1001) 0 [] (by omega) (by omega) (by simp)).trans rfl;show iL (aB (b:Int) 1) _ _=_;rw[bE,dW,aV];congr 4;rw[decide_eq_decide];omega
theorem C1:∀(r:List No) (i:Nat) (roots:List Int),eN i roots→eJ r i roots=true→∀(j:Nat) x,r[j]?=some x→eN (i+j) x.kids
 |[],_,_,_,_,j,x,hx=>by simp at hx
 |y::r,i,roots,hr,h,j,x,hx=>by
  simp only[eJ]at h;split at h
  ·cases h
  ·split at h
   ·rename_i hlen hdrop;cases j with
    |zero=>
     simp only[List.getElem?_cons_zero,lα]at hx;subst hx;intro k hk;rw[←hdrop]at hk;exact hr k (mπ hk)
    |succ j=>
     rw[List.getElem?_cons_succ]at hx;have:=C1 r (i+1) _ ?_ h j x hx
     ·rw[show i+(j+1)=i+1+j by omega];exact this
     ·intro k hk;rcases mσ.1 hk with hk|hk
      ·obtain⟨g1,g2⟩:=hr k (mω hk);exact⟨g1,by omega⟩
      ·simp only[List.mem_singleton]at hk;subst hk;omega
   ·cases h
theorem aak:∀(l:List No) (i:Nat) (hs:List Int) (j:Nat),j<i→(hN l i hs).getD j 0=hs.getD j 0
 |[],_,_,_,_=>rfl
 |x::r,i,hs,j,h=>by
  simp only[hN];rw[aak r (i+1) _ j (by omega)];simp only[lρ,List.getElem?_set];rw[if_neg (by omega)]
theorem aai (op:Int)(hs hs':List Int):∀(l:List Int) (j:Nat) (m:Int),(∀k∈l,hs.getD k.toNat 0=hs'.getD k.toNat 0)→hK op hs l j m=hK op hs' l j m
 |[],_,_,_=>rfl
 |k::r,j,m,h=>by
  simp only[hK,h k (lυ ..)];exact aai op hs hs' r (j+1) _ fun x hx=>h x (lψ _ hx)
theorem ae0:∀(l:List No) (i:Nat) (hs:List Int) (j:Nat) (x:No),l[j]?=some x→i+l.length≤hs.length→(∀(j:Nat) x,l[j]?=some x→eN (i+j) x.kids)→(hN l i hs).getD (i+j) 0=Oe x.op (hK x.op (hN l i hs) x.kids 0 0)
 |[],_,_,j,x,h,_,_=>by simp at h
 |y::r,i,hs,j,x,h,hl,hk=>by
  simp only[List.length_cons]at hl;cases j with
  |zero=>
   simp only[List.getElem?_cons_zero,lα]at h;subst h;have h0:=hk 0 y rfl;simp only[hN];show(hN r (i+1) (hs.set i (Oe y.op (hK y.op hs y.kids 0 0)))).getD i 0=_;rw[aak r (i+1) _ i (by omega),lρ,qγ (by omega),Option.getD_some];congr 1;refine aai _ _ _ _ _ _ fun k hm=>?_
   obtain⟨g1,g2⟩:=h0 k hm;have g2:k<(i:Int):=g2;rw[aak r (i+1) _ k.toNat (by omega)];simp only[lρ,List.getElem?_set];rw[if_neg (by omega)]
  |succ j=>
   rw[List.getElem?_cons_succ]at h;have:=ae0 r (i+1) (hs.set i (Oe y.op (hK y.op hs y.kids 0 0))) j x h (by rw[List.length_set];omega) fun j x hx=>by
    have:=hk (j+1) x (by rw[List.getElem?_cons_succ];exact hx);rw[show i+1+j=i+(j+1) by omega];exact this
   rw[show i+(j+1)=i+1+j by omega];exact this
def hgt (ns:List No):List Int:=hN ns 0 (List.replicate ns.length 0)
theorem agM {ns:List No}(hp:eJ ns 0 []=true){i:Nat}{x:No}(hx:ns[i]?=some x):(hgt ns).getD i 0=Oe x.op (hK x.op (hgt ns) x.kids 0 0):=by
 have:=ae0 ns 0 (List.replicate ns.length 0) i x hx (by simp) (C1 ns 0 [] (fun k h=>by cases h) hp);rw[Nat.zero_add]at this;exact this
theorem IC {m:Nat}(ns:List No)(k0:gD→R)(x:No)(hl:x.kids.length<1000)(hr:∀k∈x.kids,∀K:KV,bv lay0.tab m 197 [.p (.slice 8 (ns.map No.e)),.p (.int .i64 k)] [] K=K (.p (.int .i64 ((hgt ns).getD k.toNat 0))) []):∀(e q j:Nat) (mx:Int),j+e=x.kids.length→e<q→
  L_r18Height_1 (bv lay0.tab m) m k0 q (ns.map No.e,mx,(j:Int),x.r)=k0 (ns.map No.e,hK x.op (hgt ns) (x.kids.drop j) j mx,(x.kids.length:Int),x.r)
 |0,q+1,j,mx,h,_=>by
  obtain rfl:j=x.kids.length:=by omega
  rw[sg];simp only[gP,pR,lβ,bY,aS,List.drop_length,hK]
 |e+1,q+1,j,mx,h,hq=>by
  have hj:j<x.kids.length:=by omega
  rw[sg,lμ hj];simp only[gP,pR,lβ,cT (show((j:Int)<(x.kids.length:Int)) by omega),aP,aE,aH,aG hj,be,dI,hr _ (lι _),ba,bz,aA,rL,wS (show j<cb by unfold cb;omega),hK];cases aB (j:Int) 0<;>cases aB x.op 11<;>cases aB x.op 12<;>exact IC ns k0 x hl hr e q (j+1) _ (by omega) (by omega)
theorem AU {n:Nat}(ns:List No)(hp:eJ ns 0 []=true)(hkl:∀x∈ns,x.kids.length<1000):∀(f i:Nat),i<f→i<ns.length→evFn lay0.tab (n+1001+f) 197 [.p (.slice 8 (ns.map No.e)),.p (.int .i64 i)] []=some (.p (.int .i64 ((hgt ns).getD i 0)),[])
 |0,i,h,_=>by omega
 |f+1,i,h,hi=>by
  have hx:ns[i]?=some ns[i]:=lγ hi;have hk:=C1 ns 0 [] (fun k h=>by cases h) hp i ns[i] hx;rw[Nat.zero_add]at hk;have hkx:=hkl ns[i] (lι _);rw[agM hp hx];show evFn lay0.tab (n+1001+f+1) _ _ _=_;apply M1 (n+1001+f) (ns.map No.e) i;unfold rR;have g:=fun k0=>IC (m:=n+1001+f) ns k0 ns[i] hkx (fun k hm K=>by
   obtain⟨g1,g2⟩:=hk k hm;obtain⟨j,rfl⟩:∃j:Nat,k=(j:Int):=⟨k.toNat,by omega⟩
   have:=AU (n:=n) ns hp hkl f j (by omega) (by omega);rw[Int.toNat_natCast];exact aa this K) ns[i].kids.length (n+1001+f) 0 0 (by omega) (by omega)
  simp only[show((0:Nat):Int)=0 from rfl,List.drop_zero]at g;simp only[aE,aH,aG hi,be,sI,g,rL];unfold Oe;cases aB ns[i].op 4<;>cases aB ns[i].op 5<;>cases aB ns[i].op 6<;>cases aB ns[i].op 7<;>cases aB ns[i].op 15<;>cases aB ns[i].op 16<;>cases aB ns[i].op 17<;>cases aB ns[i].op 18<;>rfl
structure SzS (n:Nat)(x:No):Prop where
 nm:x.name.length<n∧x.name.length<9223372036854775808
 vs:x.v.s.length<n∧x.v.s.length<9223372036854775808
theorem US {n:Nat}(ns:List No)(hs:∀x∈ns,SzN x)(hl:ns.length<1000)(hn:∀x∈ns,SzS n x)(hb:n≤400000000000000000000):evFn lay0.tab (n+3000) 158 [.p (.slice 8 (ns.map No.e))] []=some (.p (.bool (iM ns)),[]):=by
 apply Vt (n+2999) (ns.map No.e);unfold zk iM;simp only[aa (De (n:=n+1997) ns (fun x hx=>(hs x hx).ks) hl),ba,aC,aA];cases hp:eJ ns 0 []with
 |false=>rfl
 |true=>
  obtain⟨k,hsub,hk1⟩:=uc ns 0 [] rfl (Nat.zero_le _) .nil hp;have hkk:=ub (b:=ns.length) ns 0 [] (by omega) (fun k hk=>by cases hk) hp;have hw:aj .i64 (((ns.map No.e).length:Int) - 1)=((ns.length - 1:Nat):Int):=by rw[lβ,jT (by omega) (by omega)];omega
  have hlt:ns.length - 1<ns.length:=by omega
  simp only[hw,aP,aE,aH,aG hlt,be,sI,rL,cK,Option.map_some,Option.getD_some,Bool.true_and];cases aB ns[ns.length - 1].op 18 with
  |false=>rfl
  |true=>
   simp only[Bool.not_true,aS,Bool.true_and];have hh:=aa (AU (n:=n+998) ns hp (fun x hx=>(hs x hx).ks) 1000 (ns.length - 1) (by omega) (by omega));refine(aX ns (fun q i=>nR _ (n+2999) _ _ q (ns.map No.e,i)) (fun x=>!(cm ns x&&dX x)) (fun i=>some (.p (.bool false),[])) (some (.p (.bool (bx (xJ ns) 24)),[])) (fun q i hi=>?_) (fun q=>?_) (by omega)).trans ?_
   ·rw[wJ];have hx:ns[i]∈ns:=lι _;have sx:=hs _ hx;have tx:=hn _ hx;have e1:=aa (UT (n:=n+2994) ns ns[i] (TU (hkk _ hx)) (by have:=sx.ks;omega) (by have:=tx.nm;omega) (by have:=tx.vs;omega) (by have:=sx.iv;omega) (by have:=sx.lv;omega) (by have:=sx.ks;omega) (by have:=tx.nm;omega) (by have:=tx.vs;omega) (by have:=sx.iv;omega) (by have:=sx.lv;omega));simp only[No.e]at e1;simp only[kT,lβ,cT (show((i:Int)<(ns.length:Int)) by omega),aP,aE,aH,aG hi,be,sI,wS (show i<cb by unfold cb;omega),e1,ba,aC,aA];cases cm ns ns[i]<;>cases dX ns[i]<;>rfl
   ·rw[wJ];simp only[kT,lβ,bY,aS];rw[lβ]at hw;simp only[hw,hh,ba,bz,aA,bE,dW];rfl
   ·rw[eQ];cases ns.findIdx? fun x=>!(cm ns x&&dX x)<;>rfl
structure QV (n:Nat)(a:Ac):Prop where
 nm:a.name.length<n∧a.name.length<9223372036854775808
 ff:∀f∈a.fields,f.name.length<n∧f.name.length<9223372036854775808
 mm:∀m∈a.methods,(m.name.length<n∧m.name.length<9223372036854775808)∧(∀p∈m.params,p.name.length<n∧p.name.length<9223372036854775808)∧∀x∈m.nodes,SzS n x
theorem ad8 {k:Nat}(h:k<1000):(bif aU 1501 (k:Int)then(1501:Int)else(k:Int))=(k:Int):=by
 rw[Bq (by omega)];rfl
theorem ah0 (k:Int):(!aU k 0&&!aU 5 k)=(!(!aB k 0)||hO k):=by
 unfold hO;rw[mθ];simp only[iR,aV,bJ,lδ,qδ,Bool.not_eq_true',Bool.not_not,lη,mγ];omega
theorem WX {m:Nat}(ps:List Pa)(hs:∀p∈ps,p.name.length<m∧p.name.length<9223372036854775808)(hl:ps.length<1000)(hb:m≤400000000000000000000)(a b c:Int)(P:ab)(A:af)(M:ah)(hM:M.Params=ps.map Pa.e)(k0:ab×af×ah→R)(k1:iX→R){q:Nat}(hq:ps.length<q):
  L_r18Valid_4 (bv lay0.tab (m+3)) (m+3) k0 k1 q (a,b,c,0,P,A,M)=bif ps.all (fun p=>cU p.name&&hO p.kind)then k1 (a,b,c,(ps.length:Int),P,A,M)else k0 (P,A,M):=by
 refine(aX ps (fun q i=>L_r18Valid_4 _ (m+3) _ _ q (a,b,c,i,P,A,M)) (fun p=>!(cU p.name&&hO p.kind)) (fun i=>k0 (P,A,M)) (k1 (a,b,c,(ps.length:Int),P,A,M)) (fun q i hi=>?_) (fun q=>?_) hq).trans ?_
 ·rw[ux];have hx:=hs ps[i] (lι _);have e1:=aa (iF (n:=m) ps[i].name hx.1 hx.2);have hk:hO ps[i].kind=(!aU ps[i].kind 1&&!aU 5 ps[i].kind):=rfl;simp only[jq,hM,lβ,cT (show((i:Int)<(ps.length:Int)) by omega),aP,aE,aH,aG hi,be,ZH,show ∀p:Pa,p.r.Name=p.name from fun _=>rfl,show ∀p:Pa,p.r.Kind=p.kind from fun _=>rfl,wS (show i<cb by unfold cb;omega),hk,e1,ba,aC,aA];cases cU ps[i].name<;>cases aU ps[i].kind 1<;>cases aU 5 ps[i].kind<;>rfl
 ·rw[ux];simp only[jq,hM,lβ,bY,aS]
 ·rw[eQ];cases ps.findIdx? fun p=>!(cU p.name&&hO p.kind)<;>rfl
theorem ID {m:Nat}(a:Ac)(hz:SzA a)(hs:QV m a)(hb:m≤300000000000000000000)(i:Int)(P:ab)(k0:ab×af×ah→R)(k1:iW→R)(Z:R)(hk0:∀x,k0 x=Z):∀(e q j:Nat) (t:Int),j+e=a.methods.length→e<q→
  L_r18Valid_3 (bv lay0.tab (m+3003)) (m+3003) k0 k1 q (t,i,(j:Int),P,a.r)=match AB (a.methods.drop j) t with|none=>Z|some t=>k1 (t,i,(a.methods.length:Int),P,a.r)
 |0,q+1,j,t,h,_=>by
  obtain rfl:j=a.methods.length:=by omega
  rw[uw];simp only[jp,show a.r.Methods=a.methods.map Me.e from rfl,lβ,bY,aS,List.drop_length,AB]
 |e+1,q+1,j,t,h,hq=>by
  have hj:j<a.methods.length:=by omega
  have hx:=hz.mm a.methods[j] (lι _);obtain⟨s1,s2,s3⟩:=hs.mm a.methods[j] (lι _);have e1:=aa (iF (n:=m+3000) a.methods[j].name (by omega) (by omega));have e2:=aa (US (n:=m+3) a.methods[j].nodes hx.nx hx.ns (fun x hx=>⟨by have:=(s3 x hx).nm;omega,by have:=(s3 x hx).vs;omega⟩) (by omega));have e3:=fun t i2 k1' k0'=>WX (m:=m+3000) a.methods[j].params (fun p hp=>by have:=s2 p hp;omega) hx.ps (by omega) t i2 (j:Int) P a.r a.methods[j].r rfl k0' k1' (q:=m+3003) (by have:=hx.ps;omega)
  rw[uw,lμ hj];simp only[jp,show a.r.Methods=a.methods.map Me.e from rfl,lβ,cT (show((j:Int)<(a.methods.length:Int)) by omega),aP,aE,aH,aG hj,be,NK,wS (show j<cb by unfold cb;have:=hz.me;omega),show a.methods[j].r.Nodes=a.methods[j].nodes.map No.e from rfl,show a.methods[j].r.Name=a.methods[j].name from rfl,show a.methods[j].r.Result=a.methods[j].result from rfl,show a.methods[j].r.Params=a.methods[j].params.map Pa.e from rfl,lβ,ad8 hx.ns,e1,e2,e3,ba,aC,aA,hk0,AB,uN,←ah0];cases aU 1500 (aj .i64 (t+(a.methods[j].nodes.length:Int)))
  ·have ih:=ID (m:=m) a hz hs hb i P k0 k1 Z hk0 e q (j+1) (aj .i64 (t+(a.methods[j].nodes.length:Int))) (by omega) (by omega);cases cU a.methods[j].name
   ·rfl
   cases aU a.methods[j].result 0
   ·cases aU 5 a.methods[j].result
    ·cases aU 4 (a.methods[j].params.length:Int)
     ·cases iM a.methods[j].nodes
      ·cases(a.methods[j].params.all fun p=>cU p.name&&hO p.kind)<;>rfl
      ·cases(a.methods[j].params.all fun p=>cU p.name&&hO p.kind)
       ·rfl
       ·exact ih
     ·rfl
    ·cases aU 4 (a.methods[j].params.length:Int)<;>rfl
   ·cases aU 4 (a.methods[j].params.length:Int)<;>rfl
  ·rfl
theorem WV {m:Nat}(a:Ac)(hz:SzA a)(hs:QV m a)(hb:m≤300000000000000000000)(t i:Int)(P:ab)(k0:ab×af→R)(k1:iV→R){q:Nat}(hq:a.fields.length<q):
  L_r18Valid_2 (bv lay0.tab (m+3003)) (m+3003) k0 k1 q (t,i,0,P,a.r)=bif !a.fields.any (fun f=>!f1 f)then k1 (t,i,(a.fields.length:Int),P,a.r)else k0 (P,a.r):=by
 refine(aX a.fields (fun q j=>L_r18Valid_2 _ (m+3003) _ _ q (t,i,j,P,a.r)) (fun f=>!f1 f) (fun j=>k0 (P,a.r)) (k1 (t,i,(a.fields.length:Int),P,a.r)) (fun q j hj=>?_) (fun q=>?_) hq).trans ?_
 ·rw[uv];have hf:=hz.ff a.fields[j] (lι _);have e1:=aa (IS (n:=m+2999) a.fields[j] (by have:=hs.ff a.fields[j] (lι _);omega) (by have:=hf.iv;omega) (by have:=hf.lv;omega) (by have:=hs.ff a.fields[j] (lι _);omega) (by have:=hf.iv;omega) (by have:=hf.lv;omega));simp only[Fe.e]at e1;simp only[jo,show a.r.Fields=a.fields.map Fe.e from rfl,lβ,cT (show((j:Int)<(a.fields.length:Int)) by omega),aP,aE,aH,aG hj,be,dFe,wS (show j<cb by unfold cb;have:=hz.fl;omega),e1,ba,aC,aA];cases f1 a.fields[j]<;>rfl
 ·rw[uv];simp only[jo,show a.r.Fields=a.fields.map Fe.e from rfl,lβ,bY,aS]
 ·rw[←List.findIdx?_isSome];cases a.fields.findIdx? fun f=>!f1 f<;>rfl
theorem IF {m:Nat}(p:List Ac)(hz:∀a∈p,SzA a)(hl:p.length<1000)(hs:∀a∈p,QV m a)(hb:m≤300000000000000000000)(k0:ab×af→R)(k1:ab×af×ah→R)(k2:iU→R)(Z W:R)(hk0:∀x,k0 x=Z)(hk1:∀x,k1 x=Z)(hk2:∀x,k2 x=W):∀(e q j:Nat) (t:Int),j+e=p.length→e<q→
  L_r18Valid_1 (bv lay0.tab (m+3003)) (m+3003) k0 k1 k2 q (t,(j:Int),⟨p.map Ac.e⟩)=match CA (p.drop j) t with|none=>Z|some _=>W
 |0,q+1,j,t,h,_=>by
  obtain rfl:j=p.length:=by omega
  rw[uu];simp only[jn,lβ,bY,aS,List.drop_length,CA,hk2]
 |e+1,q+1,j,t,h,hq=>by
  have hj:j<p.length:=by omega
  have hx:=hz p[j] (lι _);have sx:=hs p[j] (lι _);have e1:=aa (iF (n:=m+3000) p[j].name (by have:=sx.nm;omega) (by have:=sx.nm;omega));have e2:=fun k0' k1'=>WV (m:=m) p[j] hx sx hb t (j:Int) ⟨p.map Ac.e⟩ k0' k1' (q:=m+3003) (by have:=hx.fl;omega)
  have e3:=fun k0' k1' hk=>ID (m:=m) p[j] hx sx hb (j:Int) ⟨p.map Ac.e⟩ k0' k1' Z hk p[j].methods.length (m+3003) 0 t (by omega) (by have:=hx.me;omega)
  simp only[show((0:Nat):Int)=0 from rfl,List.drop_zero]at e3;have e3':=fun k1'=>e3 (fun(u70,u71,u72)=>Z) k1' (fun _=>rfl)
  rw[uu,lμ hj];simp only[jn,lβ,cT (show((j:Int)<(p.length:Int)) by omega),aP,aE,aH,aG hj,be,HQ,show p[j].r.Name=p[j].name from rfl,show p[j].r.Fields=p[j].fields.map Fe.e from rfl,show p[j].r.Methods=p[j].methods.map Me.e from rfl,lβ,wS (show j<cb by unfold cb;omega),e1,e2,e3',ba,aC,aA,hk0,hk1,CA,Yl];cases cU p[j].name
  ·rfl
  cases aU 8 (p[j].fields.length:Int)
  ·cases aU 16 (p[j].methods.length:Int)
   ·cases p[j].fields.any fun f=>!f1 f
    ·simp only[aP,aS,Bool.not_false,Bool.true_and,cond_true];cases AB p[j].methods t with
     |none=>rfl
     |some t'=>exact IF p hz hl hs hb k0 k1 k2 Z W hk0 hk1 hk2 e q (j+1) _ (by omega) (by omega)
    ·rfl
   ·rfl
  ·rfl
theorem Qt {n:Nat}(p:List Ac)(hz:∀a∈p,SzA a)(hl:p.length<1000)(hs:∀a∈p,QV n a)(hb:n≤300000000000000000000):evFn lay0.tab (n+3004) 114 [.p (.agg [.slice 3 (p.map Ac.e)])] []=some (.p (.bool (cN p)),[]):=by
 apply Q3 (n+3003) ⟨p.map Ac.e⟩;unfold vn cN;simp only[lβ];cases aU 8 (p.length:Int)
 ·refine(IF (m:=n) p hz hl hs hb _ _ _ (some (.p (.bool false),[])) (some (.p (.bool true),[])) (fun _=>rfl) (fun _=>rfl) (fun _=>rfl) p.length (n+3003) 0 0 (by omega) (by omega)).trans ?_;rw[List.drop_zero];cases CA p 0<;>rfl
 ·rfl
end
end Go.Ab
end
section
namespace Go.Ab
open Go
set_option maxRecDepth 100000
noncomputable section
theorem rN {n:Nat}(ts:List Ac)(s:List Nat)(h:ts.length<1000):evFn lay0.tab (n+1001) 58 [.p (.agg [.slice 3 (ts.map Ac.e)]),.p (.str s)] []=some (.p (.int .i64 (lI (ts.findIdx? fun t=>aO t.name s))),[]):=by
 apply M6 (n+1000) ⟨ts.map Ac.e⟩ s;refine(aX ts (fun q i=>ko _ (n+1000) _ _ q (s,i,⟨ts.map Ac.e⟩)) (fun t=>aO t.name s) (fun i=>some (.p (.int .i64 i),[])) (some (.p (.int .i64 (-1)),[])) (fun q i hi=>?_) (fun q=>?_) (by omega)).trans ?_
 ·rw[sr];simp only[gV,lβ,cT (show((i:Int)<(ts.length:Int)) by omega),aP,aE,aH,aG hi,be,HQ,wS (show i<cb by unfold cb;omega),show ∀a:Ac,a.r.Name=a.name from fun _=>rfl];exact de _ _ _
 ·rw[sr];simp only[gV,lβ,bY,aS]
 ·cases ts.findIdx? fun t=>aO t.name s<;>rfl
theorem ur {n:Nat}(a:Ac)(s:List Nat)(h:a.methods.length<1000):evFn lay0.tab (n+1001) 59 [.p a.e,.p (.str s)] []=some (.p (.int .i64 (lI (a.methods.findIdx? fun t=>aO t.name s))),[]):=by
 apply GA (n+1000) a.r s;refine(aX a.methods (fun q i=>ib _ (n+1000) _ _ q (s,i,a.r)) (fun t=>aO t.name s) (fun i=>some (.p (.int .i64 i),[])) (some (.p (.int .i64 (-1)),[])) (fun q i hi=>?_) (fun q=>?_) (by omega)).trans ?_
 ·rw[pk];simp only[fd,show a.r.Methods=a.methods.map Me.e from rfl,lβ,cT (show((i:Int)<(a.methods.length:Int)) by omega),aP,aE,aH,aG hi,be,NK,wS (show i<cb by unfold cb;omega),show ∀m:Me,m.r.Name=m.name from fun _=>rfl];exact de _ _ _
 ·rw[pk];simp only[fd,show a.r.Methods=a.methods.map Me.e from rfl,lβ,bY,aS]
 ·cases a.methods.findIdx? fun t=>aO t.name s<;>rfl
theorem Dg {n:Nat}(a:Ac)(s:List Nat)(h:a.fields.length<1000):evFn lay0.tab (n+1001) 93 [.p a.e,.p (.str s)] []=some (.p (.bool (a.fields.any fun t=>aO t.name s)),[]):=by
 apply Q8 (n+1000) a.r s;refine(aX a.fields (fun q i=>lS _ (n+1000) _ _ q (s,i,a.r)) (fun t=>aO t.name s) (fun i=>some (.p (.bool true),[])) (some (.p (.bool false),[])) (fun q i hi=>?_) (fun q=>?_) (by omega)).trans ?_
 ·rw[uC];simp only[jw,show a.r.Fields=a.fields.map Fe.e from rfl,lβ,cT (show((i:Int)<(a.fields.length:Int)) by omega),aP,aE,aH,aG hi,be,dFe,wS (show i<cb by unfold cb;omega),show ∀m:Fe,m.r.Name=m.name from fun _=>rfl];exact de _ _ _
 ·rw[uC];simp only[jw,show a.r.Fields=a.fields.map Fe.e from rfl,lβ,bY,aS]
 ·rw[←List.findIdx?_isSome];cases a.fields.findIdx? fun t=>aO t.name s<;>rfl
theorem Dh {n:Nat}(m:Me)(k:Nat)(s:List Nat)(hk:k≤m.params.length)(h:m.params.length<1000):evFn lay0.tab (n+1001) 94 [.p m.e,.p (.int .i64 k),.p (.str s)] []=some (.p (.bool ((m.params.take k).any fun t=>aO t.name s)),[]):=by
 apply Ra (n+1000) m.r k s;have hl:(m.params.take k).length=k:=by simp;omega
 refine(aX (m.params.take k) (fun q i=>lT _ (n+1000) _ _ q (k,s,i,m.r)) (fun t=>aO t.name s) (fun i=>some (.p (.bool true),[])) (some (.p (.bool false),[])) (fun q i hi=>?_) (fun q=>?_) (by omega)).trans ?_
 ·rw[uE];simp only[jy,show m.r.Params=m.params.map Pa.e from rfl,lβ,cT (show((i:Int)<(k:Int)) by omega),aP,aE,aH,aG (show i<m.params.length by omega),be,ZH,wS (show i<cb by unfold cb;omega),show ∀m:Pa,m.r.Name=m.name from fun _=>rfl,qη];exact de _ _ _
 ·rw[uE];simp only[jy,hl,bY,aS]
 ·rw[←List.findIdx?_isSome];cases(m.params.take k).findIdx? fun t=>aO t.name s<;>rfl
def nB (l:List No):Nat:=(l.filter fun x=>decide (x.op=8)).length
def nA (l:List No)(s:List Nat):Bool:=l.any fun x=>decide (x.op=8)&&aO x.name s
theorem OH {m:Nat}(ns:List No)(s:List Nat)(b:Nat)(hb:b≤ns.length)(hl:ns.length<1000)(k0:nH→R):∀(e q j:Nat) (c:Nat) (h:Bool),j+e=b→e<q→c≤j→
  L_r19lets_1 (bv lay0.tab m) m k0 q (ns.map No.e,(b:Int),s,(c:Int),h,(j:Int))=k0 (ns.map No.e,(b:Int),s,((c+nB ((ns.take b).drop j):Nat):Int),h||nA ((ns.take b).drop j) s,(b:Int))
 |0,q+1,j,c,h,hj,_,_=>by
  obtain rfl:j=b:=by omega
  rw[wL];have:(ns.take j).drop j=[]:=qβ (by simp;omega);simp only[kV,bY,aS,this,nB,nA,List.filter_nil,List.length_nil,List.any_nil,Bool.or_false,Nat.add_zero]
 |e+1,q+1,j,c,h,hj,hq,hc=>by
  have hjl:j<ns.length:=by omega
  have hd:(ns.take b).drop j=ns[j]::(ns.take b).drop (j+1):=by
   rw[lμ (by simp;omega),qη]
  rw[wL,hd];have ih:=fun c h hc=>OH (m:=m) ns s b hb hl k0 e q (j+1) c h (by omega) (by omega) hc
  simp only[kV,cT (show((j:Int)<(b:Int)) by omega),aP,aE,aH,aG hjl,be,sI,rL,Cc,wS (show j<cb by unfold cb;omega),wS (show c<cb by unfold cb;omega),aV,ih (c+1) true (by omega),ih (c+1) false (by omega),ih c h (by omega)];by_cases h8:ns[j].op=8
  ·simp only[h8,decide_true,aP,nB,nA,List.filter_cons,if_true,List.length_cons,List.any_cons,Bool.true_and];rw[show c+1+((ns.take b).drop (j+1) |>.filter fun x=>decide (x.op=8)).length=c+(((ns.take b).drop (j+1) |>.filter fun x=>decide (x.op=8)).length+1) by omega];cases h<;>cases aO ns[j].name s<;>rfl
  ·simp only[h8,decide_false,aS,nB,nA,List.filter_cons,Bool.false_eq_true,if_false,List.any_cons,Bool.false_and,Bool.false_or]
theorem UW {n:Nat}(ns:List No)(b:Nat)(s:List Nat)(hb:b≤ns.length)(hl:ns.length<1000):evFn lay0.tab (n+1001) 132 [.p (.slice 8 (ns.map No.e)),.p (.int .i64 b),.p (.str s)] []=some (.tup [.p (.int .i64 (nB (ns.take b))),.p (.bool (nA (ns.take b) s))],[]):=by
 apply Vy (n+1000) (ns.map No.e) b s;refine(OH (m:=n+1000) ns s b hb hl _ b (n+1000) 0 0 false (by omega) (by omega) (by omega)).trans ?_;rw[List.drop_zero,Nat.zero_add,Bool.false_or];cases nA (ns.take b) s<;>rfl
def kE (f:Nat)(ns:List No)(i:Int)(o:Option Int):Bool:=match o with|some k=>decide (k<i)&&jD f ns k|none=>false
def ahM (f:Nat)(ns:List No)(i:Int)(x:No):Bool:=if x.op=13 then true else if x.op=14 then true else if x.op=11 then(decide (x.kids.length=3)&&(kE f ns i x.kids[1]?&&kE f ns i x.kids[2]?))else if x.op=18 then kE f ns i x.kids.getLast? else false
theorem adu {f:Nat}{ns:List No}{i:Int}{x:No}(h:eG ns i=some x):jD (f+1) ns i=ahM f ns i x:=by
 simp only[jD,h];rfl
theorem Hw {n:Nat}(ns:List No)(hk:∀(i:Nat) x,ns[i]?=some x→eN i x.kids)(hkl:∀x∈ns,x.kids.length<1000):∀(f i:Nat),i<f→i<ns.length→evFn lay0.tab (n+f) 133 [.p (.slice 8 (ns.map No.e)),.p (.int .i64 i)] []=some (.p (.bool (jD f ns i)),[])
 |0,i,h,_=>by omega
 |f+1,i,h,hi=>by
  have hx:ns[i]?=some ns[i]:=lγ hi;have hki:=hk i _ hx;have hkx:=hkl ns[i] (lι _);show evFn lay0.tab (n+f+1) _ _ _=_;apply Vv (n+f) (ns.map No.e) i;have rec_:∀k∈ns[i].kids,(∀K:KV,bv lay0.tab (n+f) 133 [.p (.slice 8 (ns.map No.e)),.p (.int .i64 k)] [] K=K (.p (.bool (jD f ns k))) [])∧decide (k<(i:Int))=true:=fun k hm=>by
   obtain⟨g1,g2⟩:=hki k hm;obtain⟨j,rfl⟩:∃j:Nat,k=(j:Int):=⟨k.toNat,by omega⟩
   exact⟨aa (Hw (n:=n) ns hk hkl f j (by omega) (by omega)),by simpa using g2⟩
  unfold zm;rw[adu (aG hi)];unfold ahM;simp only[aE,aH,aG hi,be,sI,rL,pR,lβ,aV];by_cases o13:ns[i].op=13
  ·simp only[o13,decide_true,aP,if_true]
  by_cases o14:ns[i].op=14
  ·simp only[o14,decide_true,decide_false,aP,aS,if_true,if_false,Int.reduceEq]
  by_cases o11:ns[i].op=11
  ·simp only[o11,decide_true,decide_false,aP,aS,if_true,if_false,Int.reduceEq];match hks:ns[i].kids with
   |[a,b,c]=>
    obtain⟨r1,d1⟩:=rec_ b (by rw[hks];simp);obtain⟨r2,d2⟩:=rec_ c (by rw[hks];simp);simp only[oh,show eG [a,b,c] 1=some b from rfl,show eG [a,b,c] 2=some c from rfl,be,dI,r1,r2,d1,d2,ba,aC,aA,List.length_cons,List.length_nil,Nat.zero_add,Nat.reduceAdd,Int.cast_ofNat_Int,decide_true,aP,bE,dW,gu,Bool.true_and,Bool.and_true,List.getElem?_cons_succ,List.getElem?_cons_zero,kE]
   |[]=>rfl
   |[_]=>rfl
   |[_,_]=>rfl
   |a::b::c::d::r=>
    have z:¬(((a::b::c::d::r).length:Int)=3):=by simp;omega
    have z':¬((a::b::c::d::r).length=3):=by simp
    simp only[z,z',decide_false,aS,Bool.false_and]
  by_cases o18:ns[i].op=18
  ·simp only[o18,decide_true,decide_false,aP,aS,if_true,if_false,Int.reduceEq];cases hks:ns[i].kids with
   |nil=>rfl
   |cons a r=>
    have hw:aj .i64 (((a::r).length:Int) - 1)=((r.length:Nat):Int):=by
     have:(a::r).length<1000:=by rw[←hks];exact hkx
     simp at this ⊢
     rw[jT (by omega) (by omega)]
    have hlast:(a::r).getLast?=some ((a::r)[r.length]'(by simp)):=by
     rw[List.getLast?_eq_getElem?];simp
    obtain⟨r1,d1⟩:=rec_ ((a::r)[r.length]'(by simp)) (by rw[hks];exact lι _);rw[hlast];simp only[cT (show(0:Int)<((a::r).length:Int) by simp),aP,hw,aE,aH,aG (show r.length<(a::r).length by simp),be,oh,dI,r1,d1,ba,aC,aA,bE,dW,Bool.true_and,cond_true,kE]
  simp only[o13,o14,o11,o18,decide_false,aS,if_false]
def ahi (s:List Nat)(x y:Int):Int:=bif(En s x y).2 then(En s x y).1 else -2
end
end Go.Ab
end
section
namespace Go.Ab
open Go
set_option maxRecDepth 100000
noncomputable section
def rB1 (x:Int):Int:=bif aB x 1 then 2 else bif aB x 3 then 2 else -2
def rB2 (x:Int):Int:=bif aB x 1 then 1 else -2
def rB3 (x:Int):Int:=bif aB x 2 then 2 else -2
def rBi (s:List Nat)(x y:Int):Int:=bif !aB x y then -2 else bif aO s [43]then(bif aB x 1 then x else bif aB x 3 then x else -2)else bif aO s [45]then rB2 x else bif aO s [42]then rB2 x else bif aO s [47]then rB2 x else bif aO s [37]then rB2 x else bif aO s [61,61]then 2 else bif aO s [33,61]then 2 else bif aO s [60]then rB1 x else bif aO s [60,61]then rB1 x else bif aO s [62]then rB1 x else bif aO s [62,61]then rB1 x else bif aO s [38,38]then rB3 x else bif aO s [124,124]then rB3 x else -2
theorem Ms {n:Nat}(s:List Nat)(x y:Int):evFn lay0.tab (n+1) 130 [.p (.str s),.p (.int .i64 x),.p (.int .i64 y)] []=some (.p (.int .i64 (rBi s x y)),[]):=by
 apply M4 n s x y;simp only[rU,gM,gN,Ki,rBi,rB1,rB2,rB3]
theorem ahh {s:List Nat}(h:binO.any (fun t=>aO s t)=true)(x y:Int):rBi s x y=ahi s x y:=by
 unfold ahi;have e:aB x y=true→x=y:=by rw[aV];exact of_decide_eq_true
 simp only[binO,List.any_cons,List.any_nil,Bool.or_false,qδ]at h;rcases h with h|h|h|h|h|h|h|h|h|h|h|h|h<;>(rw[dB]at h;have:=of_decide_eq_true h;subst this;cases hxy:aB x y<;>simp[rBi,En,rB1,rB2,rB3,hxy,aO]<;>(try (cases aB x 1<;>cases aB x 2<;>cases aB x 3<;>rfl)))
def lc (k:Int):Nat:=bif aB k 1 then 105 else bif aB k 2 then 98 else bif aB k 3 then 115 else bif aB k 4 then 73 else bif aB k 5 then 83 else 117
def kL (k:Int):Int:=bif aB k 1 then 2 else bif aB k 2 then 1 else bif aB k 3 then 3 else bif aB k 4 then 4 else bif aB k 5 then 5 else 0
theorem BQ {n:Nat}(k:Int):evFn lay0.tab (n+1) 237 [.p (.int .i64 k)] []=some (.p (.int .i64 (kL k)),[]):=by
 apply BY n k;simp only[ly,Ki,kL]
def Ay:List Int→Nat→List Nat→List Nat
 |[],_,acc=>acc
 |k::r,j,acc=>bif aU (j:Int) 4 then(bif aU k 0 then[63]else bif aU 5 k then[63]else Ay r (j+1) (acc++[lc k]))else acc
theorem ahY (k:Int):∃j:Nat,kL k=(j:Int)∧j≤5∧List.take ((j+1) - j) (List.drop j [117,98,105,115,73,83])=[lc k]:=by
 unfold kL lc;cases aB k 1<;>cases aB k 2<;>cases aB k 3<;>cases aB k 4<;>cases aB k 5<;>first|exact⟨0,rfl,by decide,rfl⟩|exact⟨1,rfl,by decide,rfl⟩|exact⟨2,rfl,by decide,rfl⟩|exact⟨3,rfl,by decide,rfl⟩|exact⟨4,rfl,by decide,rfl⟩|exact⟨5,rfl,by decide,rfl⟩
theorem ON {m:Nat}(ks:List Int)(hl:ks.length<1000)(k0:LN→R)(k1:LD×LN×Int→R)(W:LN→R)(hk0:∀s,k0 s=W s)(hk1:∀a s b,k1 (a,s,b)=W s):∀(e q j:Nat) (acc:List Nat),j+e=ks.length→e<q→acc.length≤j→
  L_r19letters_1 (bv lay0.tab (m+1)) (m+1) k0 k1 q (ks.map iE,acc,(j:Int))=W (Ay (ks.drop j) j acc)
 |0,q+1,j,acc,h,_,_=>by
  obtain rfl:j=ks.length:=by omega
  rw[rj];simp only[fR,lβ,bY,aS,List.drop_length,Ay,hk1]
 |e+1,q+1,j,acc,h,hq,ha=>by
  have hj:j<ks.length:=by omega
  obtain⟨w,g1,g2,g3⟩:=ahY ks[j];have e1:∀K:KV,bv lay0.tab (m+1) 237 [.p (.int .i64 ks[j])] [] K=K (.p (.int .i64 (w:Int))) []:=fun K=>by
   rw[aa (BQ (n:=m) ks[j]),g1]
  have hw:aj .i64 ((w:Int)+1)=((w+1:Nat):Int):=wBr (by omega);rw[rj,lμ hj];simp only[fR,lβ,cT (show((j:Int)<(ks.length:Int)) by omega),aP,aE,aH,aG hj,be,dI,e1,ba,bz,aA,hw,bJ,show(0:Int)≤((w+1:Nat):Int) by omega,show((w+1:Nat):Int)≤(([117,98,105,115,73,83]:List Nat).length:Int) by simp;omega,show(0:Int)≤(w:Int) by omega,show(w:Int)≤((w+1:Nat):Int) by omega,decide_true,Int.toNat_natCast,g3,wS (show j<cb by unfold cb;omega),Ay,hk0,hk1];have hb:Nat.ble (acc.length+([lc ks[j]]:List Nat).length) ra=true:=by rw[Nat.ble_eq];unfold ra;simp;omega
  simp only[hb,aP];cases aU (j:Int) 4
  ·rfl
  ·cases aU ks[j] 0
   ·cases aU 5 ks[j]
    ·exact ON ks hl k0 k1 W hk0 hk1 e q (j+1) (acc++[lc ks[j]]) (by omega) (by omega) (by simp;omega)
    ·rfl
   ·rfl
theorem IU {n:Nat}(ks:List Int)(hl:ks.length<1000):evFn lay0.tab (n+1002) 185 [.p (.slice 1 (ks.map iE))] []=some (.p (.str (Ay ks 0 [])),[]):=by
 apply JF (n+1001) (ks.map iE);exact ON (m:=n+1000) ks hl _ _ (fun s=>some (.p (.str s),[])) (fun _=>rfl) (fun _ _ _=>rfl) ks.length (n+1001) 0 [] (by omega) (by omega) (by simp)
theorem KS:∀(r:List Int) (j:Nat) (acc:List Nat),Ay r j acc=[63]∨∃t,Ay r j acc=acc++t
 |[],j,acc=> .inr ⟨[],by simp[Ay]⟩
 |k::r,j,acc=>by
  simp only[Ay];cases aU (j:Int) 4
  ·exact .inr ⟨[],by simp⟩
  ·cases aU k 0
   ·cases aU 5 k
    ·rcases KS r (j+1) (acc++[lc k])with h|⟨t,h⟩
     ·exact .inl h
     ·exact .inr ⟨lc k::t,by simp only[cond_true,cond_false];rw[h];simp⟩
    ·exact .inl rfl
   ·exact .inl rfl
theorem ae8 (k:Int):lc k≠63:=by
 unfold lc;cases aB k 1<;>cases aB k 2<;>cases aB k 3<;>cases aB k 4<;>cases aB k 5<;>decide
theorem agX {k p:Int}(h0:0≤k)(h5:k≤5)(p1:1≤p)(p5:p≤5)(h:lc k=lc p):k=p:=by
 have a:k=0∨k=1∨k=2∨k=3∨k=4∨k=5:=by omega
 have b:p=1∨p=2∨p=3∨p=4∨p=5:=by omega
 rcases a with rfl|rfl|rfl|rfl|rfl|rfl<;>rcases b with rfl|rfl|rfl|rfl|rfl<;>first|rfl|(exact absurd h (by decide))
theorem aaK:∀(ks P:List Int) (j:Nat) (acc:List Nat),j+P.length≤3→63∉acc→(∀p∈P,1≤p∧p≤5)→(Ay ks j acc=acc++P.map lc↔ks=P)
 |[],P,j,acc,_,_,_=>by
  simp only[Ay];constructor
  ·intro h;have:=congrArg List.length h;simp at this;rw[this]
  ·rintro rfl;simp
 |k::r,P,j,acc,hj,ha,hP=>by
  have h63:∀Q:List Int,[63]≠acc++Q.map lc:=by
   intro Q h;have:63∈acc++Q.map lc:=by rw[←h];simp
   rcases mσ.1 this with h|h
   ·exact ha h
   ·obtain⟨p,_,hp⟩:=List.mem_map.1 h;exact ae8 p hp
  have hj4:aU (j:Int) 4=true:=cT (by omega);simp only[Ay,hj4,cond_true];by_cases h0:k<0
  ·rw[cT h0,cond_true];refine⟨fun h=>absurd h (h63 P),?_⟩
   rintro rfl
   have:=(hP k (lυ ..)).1;omega
  ·rw[Bq h0,cond_false];by_cases h5:5<k
   ·rw[cT h5,cond_true];refine⟨fun h=>absurd h (h63 P),?_⟩
    rintro rfl
    have:=(hP k (lυ ..)).2;omega
   ·rw[Bq h5,cond_false];cases P with
    |nil=>
     constructor
     ·intro h;rcases KS r (j+1) (acc++[lc k])with g|⟨t,g⟩
      ·rw[g]at h;exact absurd h (h63 [])
      ·rw[g]at h;have:=congrArg List.length h;simp at this
     ·intro h;cases h
    |cons p P=>
     simp only[List.length_cons]at hj;have hp:=hP p (lυ ..);by_cases hkp:k=p
     ·subst hkp;have ih:=aaK r P (j+1) (acc++[lc k]) (by omega) (by
       intro h;rcases mσ.1 h with h|h
       ·exact ha h
       ·exact ae8 k (List.mem_singleton.1 h).symm) fun p h=>hP p (lψ _ h)
      rw[mμ,List.singleton_append]at ih;rw[List.map_cons,ih];simp
     ·constructor
      ·intro h;rcases KS r (j+1) (acc++[lc k])with g|⟨t,g⟩
       ·rw[g]at h;exact absurd h (h63 (p::P))
       ·rw[g,mμ]at h;have:=List.append_cancel_left h;simp only[List.map_cons,List.singleton_append,lν]at this;exact absurd (agX (by omega) (by omega) hp.1 hp.2 this.1) hkp
      ·intro h;simp only[lν]at h;exact absurd h.1 hkp
theorem ag4 (ks P:List Int)(hl:P.length≤3)(hP:∀p∈P,1≤p∧p≤5):aO (Ay ks 0 []) (P.map lc)=decide (ks=P):=by
 rw[dB];have:=aaK ks P 0 [] (by omega) (by simp) hP;rw[List.nil_append]at this;exact decide_eq_decide.2 this
theorem Hx {n:Nat}(ks:List Int)(el kd:Int)(hl:ks.length<1000):evFn lay0.tab (n+1001) 186 [.p (.slice 1 (ks.map iE)),.p (.int .i64 el),.p (.int .i64 kd)] []=some (.p (.int .i64 (bif ks.all (fun k=>aB k el)then kd else -2)),[]):=by
 apply Vz (n+1000) (ks.map iE) el kd;refine(aX ks (fun q i=>nS _ (n+1000) _ _ q (ks.map iE,el,kd,i)) (fun k=>!aB k el) (fun i=>some (.p (.int .i64 (-2)),[])) (some (.p (.int .i64 kd),[])) (fun q i hi=>?_) (fun q=>?_) (by omega)).trans ?_
 ·rw[wM];simp only[kW,lβ,cT (show((i:Int)<(ks.length:Int)) by omega),aP,aE,aH,aG hi,be,dI,wS (show i<cb by unfold cb;omega)];exact de _ _ _
 ·rw[wM];simp only[kW,lβ,bY,aS]
 ·rw[eQ];cases ks.findIdx? fun k=>!aB k el<;>rfl
def Py (s:List Nat)(ks:List Int):Int:=bif aO s [108,101,110]then(bif decide (ks=[3])then 1 else bif decide (ks=[4])then 1 else bif decide (ks=[5])then 1 else -2)else bif aO s [97,116]then(bif decide (ks=[4,1])then 1 else bif decide (ks=[5,1])then 3 else -2)else bif aO s [97,112,112,101,110,100]then(bif decide (ks=[4,1])then 4 else bif decide (ks=[5,3])then 5 else -2)else bif aO s [115,101,116]then(bif decide (ks=[4,1,1])then 4 else bif decide (ks=[5,1,3])then 5 else -2)else bif aO s [115,116,114]then(bif decide (ks=[1])then 3 else -2)else bif aO s [105,110,116,115]then(bif ks.all (fun k=>aB k 1)then 4 else -2)else bif aO s [115,116,114,105,110,103,115]then(bif ks.all (fun k=>aB k 3)then 5 else -2)else -1
theorem IT {n:Nat}(s:List Nat)(ks:List Int)(hl:ks.length<1000):evFn lay0.tab (n+1003) 131 [.p (.str s),.p (.slice 1 (ks.map iE))] []=some (.p (.int .i64 (Py s ks)),[]):=by
 apply JE (n+1002) s (ks.map iE);have e1:=aa (IU (n:=n) ks hl);have e2:=aa (Hx (n:=n+1) ks 1 4 hl);have e3:=aa (Hx (n:=n+1) ks 3 5 hl);have p (P:List Int) (hl:P.length≤3) (hP:∀p∈P,1≤p∧p≤5):=ag4 ks P hl hP;have l1:=p [3] (by decide) (by decide);have l2:=p [4] (by decide) (by decide);have l3:=p [5] (by decide) (by decide);have l4:=p [4,1] (by decide) (by decide);have l5:=p [5,1] (by decide) (by decide);have l6:=p [5,3] (by decide) (by decide);have l7:=p [4,1,1] (by decide) (by decide);have l8:=p [5,1,3] (by decide) (by decide);have l9:=p [1] (by decide) (by decide);simp only[List.map_cons,List.map_nil,show lc 1=105 from rfl,show lc 3=115 from rfl,show lc 4=73 from rfl,show lc 5=83 from rfl]at l1 l2 l3 l4 l5 l6 l7 l8 l9;simp only[qk,e1,e2,e3,ba,ago,bz,aA,l1,l2,l3,l4,l5,l6,l7,l8,l9,Ki,Py]
theorem ahj (s:List Nat)(ks:List Int):((fY s ks).2=0↔¬Py s ks<0)∧((fY s ks).2=0→Py s ks=(fY s ks).1):=by
 by_cases h0:s=[108,101,110]
 ·subst h0;by_cases a0:ks=[3]
  ·subst a0;decide
  by_cases a1:ks=[4]
  ·subst a1;decide
  by_cases a2:ks=[5]
  ·subst a2;decide
  simp[fY,Py,P8,Ht,dB,a0,show ¬[3]=ks from fun e=>a0 e.symm,a1,show ¬[4]=ks from fun e=>a1 e.symm,a2,show ¬[5]=ks from fun e=>a2 e.symm]
 by_cases h1:s=[97,116]
 ·subst h1;by_cases a0:ks=[4,1]
  ·subst a0;decide
  by_cases a1:ks=[5,1]
  ·subst a1;decide
  simp[fY,Py,P8,Ht,dB,a0,show ¬[4,1]=ks from fun e=>a0 e.symm,a1,show ¬[5,1]=ks from fun e=>a1 e.symm]
 by_cases h2:s=[97,112,112,101,110,100]
 ·subst h2;by_cases a0:ks=[4,1]
  ·subst a0;decide
  by_cases a1:ks=[5,3]
  ·subst a1;decide
  simp[fY,Py,P8,Ht,dB,a0,show ¬[4,1]=ks from fun e=>a0 e.symm,a1,show ¬[5,3]=ks from fun e=>a1 e.symm]
 by_cases h3:s=[115,101,116]
 ·subst h3;by_cases a0:ks=[4,1,1]
  ·subst a0;decide
  by_cases a1:ks=[5,1,3]
  ·subst a1;decide
  simp[fY,Py,P8,Ht,dB,a0,show ¬[4,1,1]=ks from fun e=>a0 e.symm,a1,show ¬[5,1,3]=ks from fun e=>a1 e.symm]
 by_cases h4:s=[115,116,114]
 ·subst h4;by_cases a0:ks=[1]
  ·subst a0;decide
  simp[fY,Py,P8,Ht,dB,a0,show ¬[1]=ks from fun e=>a0 e.symm]
 by_cases h5:s=[105,110,116,115]
 ·subst h5;cases ha:ks.all fun k=>aB k 1<;>simp[fY,Py,dB,ha]
 by_cases h6:s=[115,116,114,105,110,103,115]
 ·subst h6;cases ha:ks.all fun k=>aB k 3<;>simp[fY,Py,dB,ha]
 simp[fY,Py,P8,Ht,dB,h0,h1,h2,h3,h4,h5,h6]
theorem UY {n:Nat}(ks:List Int)(i:Int)(hl:ks.length<1000):evFn lay0.tab (n+1001) 187 [.p (.slice 1 (ks.map iE)),.p (.int .i64 i)] []=some (.p (.int .i64 (lI (ks.findIdx? fun k=>aB k i))),[]):=by
 apply VB (n+1000) (ks.map iE) i;refine(aX ks (fun q j=>nT _ (n+1000) _ _ q (ks.map iE,i,j)) (fun k=>aB k i) (fun j=>some (.p (.int .i64 j),[])) (some (.p (.int .i64 (-1)),[])) (fun q j hj=>?_) (fun q=>?_) (by omega)).trans ?_
 ·rw[wN];simp only[kX,lβ,cT (show((j:Int)<(ks.length:Int)) by omega),aP,aE,aH,aG hj,be,dI,wS (show j<cb by unfold cb;omega)];exact de _ _ _
 ·rw[wN];simp only[kX,lβ,bY,aS]
 ·cases ks.findIdx? fun k=>aB k i<;>rfl
end
end Go.Ab
end
section
namespace Go.Ab
open Go
set_option maxRecDepth 100000
noncomputable section
def FX (i:Int):List Int→List Int→List Int
 |[],out=>out
 |k::r,out=>FX i r (out.set k.toNat i)
def AJ:List No→Nat→List Int→List Int
 |[],_,out=>out
 |x::r,i,out=>AJ r (i+1) (FX (i:Int) x.kids out)
def qU (ns:List No):List Int:=AJ ns 0 (List.replicate ns.length (-1))
theorem pY (i:Int):∀(l out:List Int),(FX i l out).length=out.length
 |[],_=>rfl
 |k::r,out=>by simp only[FX];rw[pY];simp
theorem Fy:∀(l:List No) (i:Nat) (out:List Int),(AJ l i out).length=out.length
 |[],_,_=>rfl
 |x::r,i,out=>by simp only[AJ];rw[Fy,pY]
theorem agl (v:Int):Nat.beq (cells (iE v)).length 1=true:=rfl
theorem ahk (v w:Int):dh (iE v) (cells (Da.int .i64 w))=some (iE w):=rfl
theorem In {m:Nat}(l:LD)(N:Nat)(hN:N<1000)(k0:fF→R):∀(e q j:Nat) (out:List Int),j+e=N→e<q→out.length=N→
  L_r19Parents_1 (bv lay0.tab m) m k0 q (l,N,(j:Int),out.map iE)=k0 (l,N,(N:Int),(out.take j++List.replicate (N - j) (-1)).map iE)
 |0,q+1,j,out,h,_,ho=>by
  obtain rfl:j=N:=by omega
  rw[rf];simp only[fO,bY,aS,Nat.sub_self,List.replicate_zero,mε,mκ (show out.length≤j by omega)]
 |e+1,q+1,j,out,h,hq,ho=>by
  have hj:j<out.length:=by omega
  rw[rf];simp only[fO,cT (show((j:Int)<(N:Int)) by omega),aP,bJ,show(0:Int)≤(j:Int) by omega,decide_true,Nat.zero_add,Int.toNat_natCast,ne out hj,be,agl,ahk,wS (show j<cb by unfold cb;omega)];rw[←List.map_set,In l N hN k0 e q (j+1) (out.set j (-1)) (by omega) (by omega) (by simp;omega)];congr 5;rw[List.take_add_one,qγ hj,List.take_set_of_le (Nat.le_refl _),show N - j=(N - (j+1))+1 by omega,List.replicate_succ];simp
theorem Ip {m:Nat}(ns:List No)(i:Nat)(hi:i<ns.length)(hN:ns.length<1000)(k0:fH→R)(hk:eN ns.length ns[i].kids)(hl:ns[i].kids.length<1000):∀(e q j:Nat) (out:List Int),j+e=ns[i].kids.length→e<q→out.length=ns.length→
  L_r19Parents_3 (bv lay0.tab m) m k0 q (ns.map No.e,ns.length,(i:Int),(j:Int),out.map iE)=k0 (ns.map No.e,ns.length,(i:Int),(ns[i].kids.length:Int),(FX (i:Int) (ns[i].kids.drop j) out).map iE)
 |0,q+1,j,out,h,_,ho=>by
  obtain rfl:j=ns[i].kids.length:=by omega
  rw[ri];simp only[fQ,aE,aH,aG hi,be,sI,pR,lβ,bY,aS,List.drop_length,FX]
 |e+1,q+1,j,out,h,hq,ho=>by
  have hj:j<ns[i].kids.length:=by omega
  obtain⟨g1,g2⟩:=hk ns[i].kids[j] (lι _);have g3:ns[i].kids[j].toNat<out.length:=by omega
  rw[ri,lμ hj];simp only[fQ,aE,aH,aG hi,be,sI,pR,lβ,cT (show((j:Int)<(ns[i].kids.length:Int)) by omega),aP,aG hj,dI,bJ,g1,decide_true,cT g2,Nat.zero_add,ne out g3,agl,ahk,wS (show j<cb by unfold cb;omega),FX];rw[←List.map_set];exact Ip ns i hi hN k0 hk hl e q (j+1) _ (by omega) (by omega) (by simp;omega)
theorem Io {m:Nat}(ns:List No)(hm:1000<m)(hN:ns.length<1000)(k0:fG→R)(hk:∀x∈ns,eN ns.length x.kids)(hl:∀x∈ns,x.kids.length<1000):∀(e q i:Nat) (out:List Int),i+e=ns.length→e<q→out.length=ns.length→
  L_r19Parents_2 (bv lay0.tab m) m k0 q (ns.map No.e,ns.length,(i:Int),out.map iE)=k0 (ns.map No.e,ns.length,(ns.length:Int),(AJ (ns.drop i) i out).map iE)
 |0,q+1,i,out,h,_,ho=>by
  obtain rfl:i=ns.length:=by omega
  rw[rh];simp only[fP,lβ,bY,aS,List.drop_length,AJ]
 |e+1,q+1,i,out,h,hq,ho=>by
  have hi:i<ns.length:=by omega
  have hx:=lι hi;rw[rh,lμ hi];have g:=fun k0'=>Ip (m:=m) ns i hi hN k0' (hk _ hx) (hl _ hx) ns[i].kids.length m 0 out (by omega) (by have:=hl _ hx;omega) ho
  simp only[show((0:Nat):Int)=0 from rfl,List.drop_zero]at g;simp only[fP,lβ,cT (show((i:Int)<(ns.length:Int)) by omega),aP,g,wS (show i<cb by unfold cb;omega),AJ];exact Io ns hm hN k0 hk hl e q (i+1) _ (by omega) (by omega) (by rw[pY];exact ho)
theorem wx {n:Nat}(ns:List No)(hN:ns.length<1000)(hk:∀x∈ns,eN ns.length x.kids)(hl:∀x∈ns,x.kids.length<1000):evFn lay0.tab (n+1002) 62 [.p (.slice 8 (ns.map No.e))] []=some (.p (.slice 1 ((qU ns).map iE)),[]):=by
 apply JD (n+1001) (ns.map No.e);unfold qj;have hr:List.replicate ns.length (Da.int .i64 0)=(List.replicate ns.length (0:Int)).map iE:=by simp[iE]
 have g1:=fun k0=>In (m:=n+1001) (ns.map No.e) ns.length hN k0 ns.length (n+1001) 0 (List.replicate ns.length 0) (by omega) (by omega) (by simp)
 have g2:=fun k0=>Io (m:=n+1001) ns (by omega) hN k0 hk hl ns.length (n+1001) 0 (List.replicate ns.length (-1)) (by omega) (by omega) (by simp)
 simp only[show((0:Nat):Int)=0 from rfl,List.take_zero,List.nil_append,Nat.sub_zero,List.drop_zero]at g1 g2;simp only[lβ,Int.toNat_natCast,hr,g1,g2,bJ,show(0:Int)≤(ns.length:Int) by omega,Int.le_refl,decide_true,Bool.true_and,show Nat.ble (ns.length*8) 281474976710656=true by rw[Nat.ble_eq];omega,show(ns.length:Int)≤9223372036854775807 by omega,aP,List.drop_zero];rw[mκ (by rw[lβ,Fy];simp)];rfl
def FF (par:List Int)(at_:Nat)(s:List Nat):List No→Nat→Nat→Option Vr
 |[],_,_=>none
 |x::r,i,sl=>if i≤at_ then(if x.op=8 then(if x.name=s∧(i=at_∨(at_:Int)<par.getD i 0)then some ⟨x.v.k,sl,false⟩else FF par at_ s r (i+1) (sl+1))else FF par at_ s r (i+1) sl)else none
def Iy (a:Me)(par:List Int)(at_:Nat)(s:List Nat):Option Vr:=FF par at_ s a.nodes 0 a.params.length
def pW (a:Ac)(m:Me)(par:List Int)(at_:Nat)(s:List Nat):Option Vr:=match a.fields.findIdx? fun f=>aO f.name s with
 |some j=>a.fields[j]?.map fun f=>⟨f.kind,j,true⟩
 |none=>match m.params.findIdx? fun f=>aO f.name s with
  |some j=>m.params[j]?.map fun f=>⟨f.kind,j,false⟩
  |none=>Iy m par at_ s
def Hu (o:Option Vr):Da:=match o with
 |some v=> .agg [.int .i64 v.kind,.int .i64 v.slot,.bool v.field,.bool true]
 |none=> .agg [.int .i64 0,.int .i64 0,.bool false,.bool false]
theorem IK {m:Nat}(M:Me)(par:List Int)(at_:Nat)(s:List Nat)(hp:par.length=M.nodes.length)(hN:M.nodes.length<1000)(k0:ah×Int×Int→R)(k1:hY→R)(W:R)(hk1:∀x,k1 x=W):∀(e q j sl:Nat),j+e=M.nodes.length→e<q→sl≤j+1000→
  L_r19variable_3 (bv lay0.tab m) m k0 k1 q (par.map iE,(at_:Int),s,(sl:Int),(j:Int),M.r)=match FF par at_ s (M.nodes.drop j) j sl with|some v=>k0 (M.r,v.kind,v.slot)|none=>W
 |0,q+1,j,sl,h,_,_=>by
  obtain rfl:j=M.nodes.length:=by omega
  rw[pp];simp only[fh,show M.r.Nodes=M.nodes.map No.e from rfl,lβ,bY,aS,List.drop_length,FF,hk1]
 |e+1,q+1,j,sl,h,hq,hs=>by
  have hj:j<M.nodes.length:=by omega
  have hjp:j<par.length:=by omega
  rw[pp,lμ hj];have ih:=fun sl hs=>IK (m:=m) M par at_ s hp hN k0 k1 W hk1 e q (j+1) sl (by omega) (by omega) hs
  have hpg:par.getD j 0=par[j]:=by simp[lρ,lγ hjp]
  simp only[fh,show M.r.Nodes=M.nodes.map No.e from rfl,lβ,cT (show((j:Int)<(M.nodes.length:Int)) by omega),aP,aE,aH,aG hj,aG hjp,be,sI,rL,Cc,Gk,dI,wS (show j<cb by unfold cb;omega),wS (show sl<cb by unfold cb;omega),FF,hk1,ih (sl+1) (by omega),ih sl (by omega),hpg];simp only[bJ,dt,aV,dB,cq,iR];by_cases h1:j≤at_
  ·rw[if_pos (show(j:Int)≤(at_:Int) by omega),if_pos h1];by_cases h8:M.nodes[j].op=8
   ·rw[if_pos h8,if_pos h8];by_cases hn:M.nodes[j].name=s
    ·rw[if_pos hn];by_cases he:j=at_
     ·rw[if_pos (show(j:Int)=(at_:Int) by omega),if_pos ⟨hn,.inl he⟩]
     ·rw[if_neg (show ¬(j:Int)=(at_:Int) by omega)];by_cases hp2:(at_:Int)<par[j]
      ·rw[if_pos hp2,if_pos ⟨hn,.inr hp2⟩]
      ·rw[if_neg hp2,if_neg (fun g=>g.2.elim he hp2)]
    ·rw[if_neg hn,if_neg (fun g=>hn g.1)]
   ·rw[if_neg h8,if_neg h8]
  ·rw[if_neg (show ¬(j:Int)≤(at_:Int) by omega),if_neg h1]
theorem oH {n:Nat}(a:Ac)(M:Me)(par:List Int)(at_:Nat)(s:List Nat)(ha:a.fields.length<1000)(hm:M.params.length<1000)(hp:par.length=M.nodes.length)(hN:M.nodes.length<1000):evFn lay0.tab (n+1001) 61 [.p a.e,.p M.e,.p (.slice 1 (par.map iE)),.p (.int .i64 at_),.p (.str s)] []=some (.p (Hu (pW a M par at_ s)),[]):=by
 apply GB (n+1000) a.r M.r (par.map iE) at_ s;unfold oK pW;have g3:=fun k0 k1 W hk=>IK (m:=n+1000) M par at_ s hp hN k0 k1 W hk M.nodes.length (n+1000) 0 M.params.length (by omega) (by omega) (by omega)
 refine(aX a.fields (fun q i=>ic _ (n+1000) _ _ q (par.map iE,(at_:Int),s,i,a.r,M.r)) (fun f=>aO f.name s) (fun j=>some (.p (Hu (a.fields[j]?.map fun f=>⟨f.kind,j,true⟩)),[])) (some (.p (Hu (match M.params.findIdx? fun f=>aO f.name s with|some j=>M.params[j]?.map fun f=>⟨f.kind,j,false⟩|none=>Iy M par at_ s)),[])) (fun q i hi=>?_) (fun q=>?_) (by omega)).trans ?_
 ·rw[pm];simp only[fe,show a.r.Fields=a.fields.map Fe.e from rfl,lβ,cT (show((i:Int)<(a.fields.length:Int)) by omega),aP,aE,aH,aG hi,be,dFe,wS (show i<cb by unfold cb;omega),show ∀m:Fe,m.r.Name=m.name from fun _=>rfl,show ∀m:Fe,m.r.Kind=m.kind from fun _=>rfl,lγ hi,Option.map_some,Hu];exact de _ _ _
 ·rw[pm];simp only[fe,show a.r.Fields=a.fields.map Fe.e from rfl,lβ,bY,aS];refine(aX M.params (fun q i=>ig _ (n+1000) _ _ q (par.map iE,(at_:Int),s,i,M.r)) (fun f=>aO f.name s) (fun j=>some (.p (Hu (M.params[j]?.map fun f=>⟨f.kind,j,false⟩)),[])) (some (.p (Hu (Iy M par at_ s)),[])) (fun q i hi=>?_) (fun q=>?_) (by omega)).trans ?_
  ·rw[po];simp only[fg,show M.r.Params=M.params.map Pa.e from rfl,lβ,cT (show((i:Int)<(M.params.length:Int)) by omega),aP,aE,aH,aG hi,be,ZH,wS (show i<cb by unfold cb;omega),show ∀m:Pa,m.r.Name=m.name from fun _=>rfl,show ∀m:Pa,m.r.Kind=m.kind from fun _=>rfl,lγ hi,Option.map_some,Hu];exact de _ _ _
  ·rw[po];simp only[fg,show M.r.Params=M.params.map Pa.e from rfl,lβ,bY,aS];refine(g3 _ _ (some (.p (Hu none),[])) (fun _=>rfl)).trans ?_;rw[List.drop_zero];unfold Iy;cases hr:FF par at_ s M.nodes 0 M.params.length with
   |none=>rfl
   |some v=>
    have:v.field=false:=by
     clear g3;revert hr;generalize 0=i0;generalize M.params.length=s0;generalize M.nodes=l0;intro hr;induction l0 generalizing i0 s0 with
     |nil=>simp[FF]at hr
     |cons x r ih=>
      simp only[FF]at hr;split at hr
      ·split at hr
       ·split at hr
        ·simp only[lα]at hr;rw[←hr]
        ·exact ih _ _ hr
       ·exact ih _ _ hr
      ·cases hr
    simp only[Hu,this]
  ·cases M.params.findIdx? fun f=>aO f.name s<;>rfl
 ·cases a.fields.findIdx? fun f=>aO f.name s<;>rfl
end
end Go.Ab
end
section
namespace Go.Ab
open Go
set_option maxRecDepth 100000
noncomputable section
structure RS where
 p:List Ac
 a:Ac
 m:Me
 par:List Int
 ks:List Int
def RS.k (c:RS):ww:=⟨c.p.map Ac.e,c.a.name,c.a.fields.map Fe.e,c.a.methods.map Me.e,c.m.name,c.m.params.map Pa.e,c.m.result,c.m.nodes.map No.e,c.par.map iE,c.ks.length,c.ks.map iE⟩
def RS.put (c:RS)(i:Nat)(k:Int):RS:={c with ks:=c.ks.set i k}
theorem dRS (c:RS)(K:ww→R):xh c.k.hp K=K c.k:=rfl
def iC (ks:List Int)(l:List Int):List Int:=l.map fun k=>ks.getD k.toNat 0
theorem On {m:Nat}(c:RS)(l:List Int)(hk:eN c.ks.length l)(hl:l.length<1000)(k0:jd→R):∀(e q j:Nat) (acc:List Int),j+e=l.length→e<q→acc.length=j→
  L_r19kinds_1 (bv lay0.tab m) m k0 q (l.map iE,acc.length,(j:Int),c.k,acc.map iE)=k0 (l.map iE,l.length,(l.length:Int),c.k,(acc++iC c.ks (l.drop j)).map iE)
 |0,q+1,j,acc,h,_,ha=>by
  obtain rfl:j=l.length:=by omega
  rw[uD];simp only[jx,lβ,bY,aS,List.drop_length,iC,List.map_nil,mε,ha]
 |e+1,q+1,j,acc,h,hq,ha=>by
  have hj:j<l.length:=by omega
  obtain⟨g1,g2⟩:=hk l[j] (lι _);have g3:l[j].toNat<c.ks.length:=by omega
  rw[uD,lμ hj];have hb:dM (acc.length+([Da.int .i64 (c.ks.getD l[j].toNat 0)]:LD).length) 8=true:=zS (by simp;omega);have hm:acc.map iE++[Da.int .i64 (c.ks.getD l[j].toNat 0)]=(acc++[c.ks.getD l[j].toNat 0]).map iE:=by rw[List.map_append];rfl
  have ih:=On (m:=m) c l hk hl k0 e q (j+1) (acc++[c.ks.getD l[j].toNat 0]) (by omega) (by omega) (by simp;omega);simp only[jx,show c.k.ln=c.ks.length from rfl,show c.k.ks=c.ks.map iE from rfl,lβ,cT (show((j:Int)<(l.length:Int)) by omega),aP,aE,aH,aG hj,be,dI,bJ,g1,decide_true,cT g2,Nat.zero_add,ne c.ks g3,Nat.beq_refl,hb,hm,wS (show j<cb by unfold cb;omega)];refine ih.trans ?_;simp only[iC,List.map_cons,mμ,List.singleton_append]
theorem Qy {n:Nat}(c:RS)(l:List Int)(hk:eN c.ks.length l)(hl:l.length<1000):evFn lay0.tab (n+1001) 129 [.box 0 0,.p (.slice 1 (l.map iE))] c.k.hp=some (.p (.slice 1 ((iC c.ks l).map iE)),c.k.hp):=by
 apply Q9 (n+1000) c.k (l.map iE);unfold vr;refine(On (m:=n+1000) c l hk hl _ l.length (n+1000) 0 [] (by omega) (by omega) rfl).trans ?_;simp only[List.drop_zero,List.nil_append];rw[mκ (by simp[iC])]
def RR (ns:List No)(b:Int):List Int:=((eG ns b).map fun y=>y.kids).getD []
def Ym (ns:List No)(l:List Int)(i:Nat):Bool:=match l.findIdx? fun k=>aB k i with
 |some (j+1)=>(match l[j]? with|some k=>jE ns k|none=>false)
 |_=>false
def uh (ns:List No)(par:List Int)(i:Nat):Bool:=let b:=par.getD i 0
 if b<0 then false else if cK ns b=18 then Ym ns (RR ns b) i else false
structure Gy (c:RS):Prop where
 nl:c.m.nodes.length<1000
 kl:∀x∈c.m.nodes,x.kids.length<1000
 kd:∀(i:Nat) x,c.m.nodes[i]?=some x→eN i x.kids
 pl:c.par.length=c.m.nodes.length
 pr:∀b∈c.par,b<(c.m.nodes.length:Int)
 sl:c.ks.length=c.m.nodes.length
 tl:c.p.length<1000
 ml:∀a∈c.p,a.methods.length<1000
 mp:∀a∈c.p,∀m∈a.methods,m.params.length<1000
 fl:c.a.fields.length<1000
 ql:c.m.params.length<1000
theorem Gy.put {c:RS}(h:Gy c)(i:Nat)(k:Int):Gy (c.put i k):=⟨h.nl,h.kl,h.kd,h.pl,h.pr,by show(c.ks.set i k).length=c.m.nodes.length;simp[h.sl],h.tl,h.ml,h.mp,h.fl,h.ql⟩
theorem TB {n:Nat}{c:RS}(h:Gy c){i:Int}(h0:0≤i)(hi:i<(c.m.nodes.length:Int)):evFn lay0.tab (n+1000) 133 [.p (.slice 8 (c.m.nodes.map No.e)),.p (.int .i64 i)] []=some (.p (.bool (jE c.m.nodes i)),[]):=by
 obtain⟨j,rfl⟩:∃j:Nat,i=(j:Int):=⟨i.toNat,by omega⟩
 have:=h.nl;exact Hw (n:=n) c.m.nodes h.kd h.kl 1000 j (by omega) (by omega)
theorem Qx {n:Nat}(c:RS)(h:Gy c)(i:Nat)(hi:i<c.m.nodes.length):evFn lay0.tab (n+1002) 134 [.box 0 0,.p (.int .i64 i)] c.k.hp=some (.p (.bool (uh c.m.nodes c.par i)),c.k.hp):=by
 apply Q7 (n+1001) c.k i;have hip:i<c.par.length:=by rw[h.pl];exact hi
 have hpg:c.par.getD i 0=c.par[i]:=by simp[lρ,lγ hip]
 have hb:=h.pr c.par[i] (lι _);unfold vq uh;simp only[show c.k.ps=c.par.map iE from rfl,show c.k.ns=c.m.nodes.map No.e from rfl,aE,aH,aG hip,be,dI,hpg];by_cases h0:c.par[i]<0
 ·rw[cT h0,if_pos h0];rfl
 ·rw[Bq h0,if_neg h0,aS];obtain⟨b,hb2⟩:∃b:Nat,c.par[i]=(b:Int):=⟨c.par[i].toNat,by omega⟩
  rw[hb2]at hb ⊢
  have hbl:b<c.m.nodes.length:=by omega
  have hx:c.m.nodes[b]?=some c.m.nodes[b]:=lγ hbl;have hkd:=h.kd b _ hx;have hkl:=h.kl _ (lι hbl);simp only[aG hbl,be,sI,rL,pR,cK,RR,Option.map_some,Option.getD_some];have e1:=aa (UY (n:=n) c.m.nodes[b].kids i hkl);simp only[e1,ba,bz,aA,cq,aV];by_cases ho:c.m.nodes[b].op=18
  ·rw[if_pos ho,if_pos ho];unfold Ym;simp only[aV];cases hf:c.m.nodes[b].kids.findIdx? fun k=>decide (k=(i:Int))with
   |none=>rfl
   |some j=>
    have hj:=(lσ.1 hf).1;cases j with
    |zero=>rfl
    |succ j=>
     have hj2:j<c.m.nodes[b].kids.length:=by omega
     obtain⟨g1,g2⟩:=hkd c.m.nodes[b].kids[j] (lι _);have e2:=aa (TB (n:=n+1) h g1 (by omega));have hw:aj .i64 (((j+1:Nat):Int) - 1)=(j:Int):=by rw[jT (by omega) (by omega)];omega
     simp only[lI,cT (show(0:Int)<((j+1:Nat):Int) by omega),aP,hw,aE,aH,aG hj2,be,dI,e2,ba,aC,aA,lγ hj2];cases jE c.m.nodes c.m.nodes[b].kids[j]<;>rfl
  ·rw[if_neg ho,if_neg ho]
def Out (c:RS)(i:Nat)(o:Option Int)(r:R):Prop:=∃e:Int,r=some (.p (.int .i64 e),(match o with|some k=>c.put i k|none=>c).k.hp)∧(e=0↔o.isSome=true)
theorem Out.err {c:RS}{i:Nat}{e:Int}(he:e≠0):Out c i none (some (.p (.int .i64 e),c.k.hp)):=⟨e,rfl,by simp[he]⟩
def w7 (c:RS)(i:Nat)(o:Option Int):Option Int:=if uh c.m.nodes c.par i=true then none else o
theorem Nj (c:RS)(i:Nat):w7 c i none=none:=by unfold w7;split<;>rfl
theorem Out.fin {n:Nat}{c:RS}(h:Gy c){i:Nat}(hi:i<c.m.nodes.length)(k:Int):Out c i (w7 c i (some k)) (bu (bv lay0.tab (n+1002)) i c.k k):=by
 unfold bu w7;have his:i<c.ks.length:=by rw[h.sl];exact hi
 simp only[aa (Qx (n:=n) c h i hi),ba,aC,dRS];cases uh c.m.nodes c.par i with
 |true=>exact Out.err (by decide)
 |false=>
  have hp:(c.put i k).k.hp=({c.k with ks:=c.k.ks.set i (iE k)}:ww).hp:=by
   unfold RS.put RS.k;simp only[List.length_set,List.map_set]
  simp only[aS,bJ,show(0:Int)≤(i:Int) by omega,decide_true,aP,show c.k.ln=c.ks.length from rfl,cT (show((i:Int)<(c.ks.length:Int)) by omega),Nat.zero_add,Int.toNat_natCast,show c.k.ks=c.ks.map iE from rfl,ne c.ks his,be,agl,ahk];refine⟨0,?_,by simp⟩
  simp only[Bool.false_eq_true,if_false];rw[hp];rfl
def unK (s:List Nat):Int:=bif aO s [33]then 2 else 1
def To (p:List Ac)(x:No)(kk:List Int):Option Int:=match jR p x.name x.v.s with
 |none=>none
 |some m=>if kk.headD 0=3∧kk.tail=m.params.map (·.kind)then some m.result else none
def R3 (c:RS)(i:Nat)(x:No)(kk:List Int):Bool:=!nA (c.m.nodes.take i) x.name&&(!(c.a.fields.any fun f=>aO f.name x.name)&&(!(c.m.params.any fun f=>aO f.name x.name)&&(decide (nB (c.m.nodes.take i)+1+c.m.params.length≤8)&&decide (kk.headD 0=x.v.k))))
def cw (c:RS)(i:Nat)(x:No):Option Int:=
 if x.op=1 then some x.v.k else if x.op=3 then some 3 else
 if x.op=2 then(pW c.a c.m c.par i x.name).map (·.kind)else
 if x.op=4 then(if(iC c.ks x.kids).headD 0=unK x.name then some (unK x.name)else none)else
 if x.op=5 then(if rBi x.name ((iC c.ks x.kids).getD 0 0) ((iC c.ks x.kids).getD 1 0)<0 then none else some (rBi x.name ((iC c.ks x.kids).getD 0 0) ((iC c.ks x.kids).getD 1 0)))else
 if x.op=6 then(if Py x.name (iC c.ks x.kids)<0 then none else some (Py x.name (iC c.ks x.kids)))else
 if x.op=7 then To c.p x (iC c.ks x.kids)else
 if x.op=8 then(if R3 c i x (iC c.ks x.kids)=true then some 0 else none)else
 if x.op=9 then(match pW c.a c.m c.par i x.name with|some v=>if(iC c.ks x.kids).headD 0=v.kind then some 0 else none|none=>none)else
 if x.op=11 then(if(iC c.ks x.kids).headD 0=2 then some 0 else none)else
 if x.op=12 then(if(iC c.ks x.kids).headD 0=2 then some 0 else none)else
 if x.op=13 then(match iC c.ks x.kids with|[]=>if c.m.result=0 then some 0 else none|k::_=>if c.m.result≠0∧k=c.m.result then some 0 else none)else
 if x.op=15 then(if iC c.ks x.kids=[3,1]then some 0 else none)else
 if x.op=16 then(if iC c.ks x.kids=[3,1,1]then some 0 else none)else
 if x.op=17 then(if(iC c.ks x.kids).headD 0=3 then some 0 else none)else
 if x.op=18 then(if i+1=c.m.nodes.length∧c.m.result≠0∧jE c.m.nodes i=false then none else some 0)else some 0
theorem Um (c:RS)(i:Nat)(x:No)(h:x.op=1):cw c i x=some x.v.k:=by simp only[cw,h,Int.reduceEq,if_true,if_false]
theorem Uo (c:RS)(i:Nat)(x:No)(h:x.op=3):cw c i x=some 3:=by simp only[cw,h,Int.reduceEq,if_true,if_false]
theorem Un (c:RS)(i:Nat)(x:No)(h:x.op=2):cw c i x=(pW c.a c.m c.par i x.name).map (·.kind):=by simp only[cw,h,Int.reduceEq,if_true,if_false]
theorem Up (c:RS)(i:Nat)(x:No)(h:x.op=4):cw c i x=(if(iC c.ks x.kids).headD 0=unK x.name then some (unK x.name)else none):=by simp only[cw,h,Int.reduceEq,if_true,if_false]
theorem Uq (c:RS)(i:Nat)(x:No)(h:x.op=5):cw c i x=(if rBi x.name ((iC c.ks x.kids).getD 0 0) ((iC c.ks x.kids).getD 1 0)<0 then none else some (rBi x.name ((iC c.ks x.kids).getD 0 0) ((iC c.ks x.kids).getD 1 0))):=by simp only[cw,h,Int.reduceEq,if_true,if_false]
theorem Ur (c:RS)(i:Nat)(x:No)(h:x.op=6):cw c i x=(if Py x.name (iC c.ks x.kids)<0 then none else some (Py x.name (iC c.ks x.kids))):=by simp only[cw,h,Int.reduceEq,if_true,if_false]
theorem Us (c:RS)(i:Nat)(x:No)(h:x.op=7):cw c i x=To c.p x (iC c.ks x.kids):=by simp only[cw,h,Int.reduceEq,if_true,if_false]
theorem LC (c:RS)(i:Nat)(x:No)(h:x.op=8):cw c i x=(if R3 c i x (iC c.ks x.kids)=true then some 0 else none):=by simp only[cw,h,Int.reduceEq,if_true,if_false]
theorem Ut (c:RS)(i:Nat)(x:No)(h:x.op=9):cw c i x=(match pW c.a c.m c.par i x.name with|some v=>if(iC c.ks x.kids).headD 0=v.kind then some 0 else none|none=>none):=by simp only[cw,h,Int.reduceEq,if_true,if_false]
theorem Pz (c:RS)(i:Nat)(x:No)(h:x.op=11):cw c i x=(if(iC c.ks x.kids).headD 0=2 then some 0 else none):=by simp only[cw,h,Int.reduceEq,if_true,if_false]
theorem PA (c:RS)(i:Nat)(x:No)(h:x.op=12):cw c i x=(if(iC c.ks x.kids).headD 0=2 then some 0 else none):=by simp only[cw,h,Int.reduceEq,if_true,if_false]
theorem PB (c:RS)(i:Nat)(x:No)(h:x.op=13):cw c i x=(match iC c.ks x.kids with|[]=>if c.m.result=0 then some 0 else none|k::_=>if c.m.result≠0∧k=c.m.result then some 0 else none):=by simp only[cw,h,Int.reduceEq,if_true,if_false]
theorem PC (c:RS)(i:Nat)(x:No)(h:x.op=15):cw c i x=(if iC c.ks x.kids=[3,1]then some 0 else none):=by simp only[cw,h,Int.reduceEq,if_true,if_false]
theorem PD (c:RS)(i:Nat)(x:No)(h:x.op=16):cw c i x=(if iC c.ks x.kids=[3,1,1]then some 0 else none):=by simp only[cw,h,Int.reduceEq,if_true,if_false]
theorem PE (c:RS)(i:Nat)(x:No)(h:x.op=17):cw c i x=(if(iC c.ks x.kids).headD 0=3 then some 0 else none):=by simp only[cw,h,Int.reduceEq,if_true,if_false]
theorem PF (c:RS)(i:Nat)(x:No)(h:x.op=18):cw c i x=(if i+1=c.m.nodes.length∧c.m.result≠0∧jE c.m.nodes i=false then none else some 0):=by simp only[cw,h,Int.reduceEq,if_true,if_false]
theorem aeK {ns:List No}{x:No}(h:cm ns x=true):(x.op=4∨x.op=8∨x.op=9∨x.op=17→x.kids.length=1)∧(x.op=5∨x.op=15→x.kids.length=2)∧(x.op=16→x.kids.length=3)∧(x.op=7∨x.op=11∨x.op=12→1≤x.kids.length)∧(x.op=13→x.kids.length≤1):=by
 refine⟨fun ho=>?_,fun ho=>?_,fun ho=>?_,fun ho=>?_,fun ho=>?_⟩
 ·rcases ho with o|o|o|o<;>(unfold cm at h;rw[o]at h;simp only[aV,ep,Og,bJ,lδ,lη,Int.reduceEq,decide_false,decide_true,cond_true,cond_false]at h;omega)
 ·rcases ho with o|o<;>(unfold cm at h;rw[o]at h;simp only[aV,ep,Og,bJ,lδ,lη,Int.reduceEq,decide_false,decide_true,cond_true,cond_false]at h;omega)
 ·unfold cm at h;rw[ho]at h;simp only[aV,ep,Og,bJ,lδ,lη,Int.reduceEq,decide_false,decide_true,cond_true,cond_false]at h;omega
 ·rcases ho with o|o|o<;>(unfold cm at h;rw[o]at h;simp only[aV,ep,Og,bJ,lδ,lη,Int.reduceEq,decide_false,decide_true,cond_true,cond_false]at h;omega)
 ·unfold cm at h;rw[ho]at h;simp only[aV,ep,Og,bJ,lδ,lη,Int.reduceEq,decide_false,decide_true,cond_true,cond_false]at h;omega
theorem ZJ (o:Option Vr)(K:bO→R):bP (Hu o) K=K ⟨(o.map (·.kind)).getD 0,(o.map (·.slot)).getD 0,(o.map (·.field)).getD false,o.isSome⟩:=by cases o<;>rfl
section
variable (c:RS)
theorem ahD:c.k.ts=c.p.map Ac.e:=rfl
theorem Zx:c.k.tn=c.a.name:=rfl
theorem Zv:c.k.tf=c.a.fields.map Fe.e:=rfl
theorem Zw:c.k.tm=c.a.methods.map Me.e:=rfl
theorem Zt:c.k.mn=c.m.name:=rfl
theorem Zu:c.k.mp=c.m.params.map Pa.e:=rfl
theorem NH:c.k.mr=c.m.result:=rfl
theorem Ts:c.k.ns=c.m.nodes.map No.e:=rfl
theorem aeQ:c.k.ps=c.par.map iE:=rfl
end
theorem len1 {α:Type}{l:List α}(h:l.length=1):∃a,l=[a]:=by
 match l,h with
 |[a],_=>exact⟨a,rfl⟩
theorem ah1 {α:Type}{l:List α}(h:l.length=2):∃a b,l=[a,b]:=by
 match l,h with
 |[a,b],_=>exact⟨a,b,rfl⟩
theorem aiT {α:Type}{l:List α}(h:l.length=3):∃a b c,l=[a,b,c]:=by
 match l,h with
 |[a,b,c],_=>exact⟨a,b,c,rfl⟩
theorem agY {α:Type}{l:List α}(h:1≤l.length):∃a r,l=a::r:=by
 match l,h with
 |a::r,_=>exact⟨a,r,rfl⟩
theorem HH {m:Nat}(i:Int)(l:List Int)(res:Int)(u:ww)(M:Me)(hl:l.length=M.params.length+1)(hp:M.params.length<1000)(k0:iG→R)(W:Bool→R)(hk:∀b j,k0 (i,l.map iE,res,b,j,u,M.r)=W b):∀(e q j:Nat),j+e=M.params.length→e<q→
  L_r19node_1 (bv lay0.tab m) m k0 q (i,l.map iE,res,false,(j:Int),u,M.r)=W (!decide (l.drop (j+1)=(M.params.drop j).map (·.kind)))
 |0,q+1,j,h,_=>by
  obtain rfl:j=M.params.length:=by omega
  rw[lW];have:l.drop (M.params.length+1)=[]:=by rw[←hl,List.drop_length]
  simp only[fS,show M.r.Params=M.params.map Pa.e from rfl,lβ,bY,aS,List.drop_length,this,List.map_nil,decide_true,Bool.not_true,hk]
 |e+1,q+1,j,h,hq=>by
  have hj:j<M.params.length:=by omega
  have hjl:j+1<l.length:=by omega
  rw[lW,lμ hj,lμ hjl];have ih:=HH (m:=m) i l res u M hl hp k0 W hk e q (j+1) (by omega) (by omega);have hstop:∀j:Int,L_r19node_1 (bv lay0.tab m) m k0 q (i,l.map iE,res,true,j,u,M.r)=W true:=by
   intro j;match q,hq with
   |q+1,_=>
    rw[lW];simp only[fS,aP,hk];cases aU j (M.r.Params.length:Int)<;>rfl
  simp only[fS,show M.r.Params=M.params.map Pa.e from rfl,lβ,cT (show((j:Int)<(M.params.length:Int)) by omega),aP,aS,wS (show j<cb by unfold cb;omega),aE,aH,aG hjl,aG hj,be,dI,ZH,show ∀m:Pa,m.r.Kind=m.kind from fun _=>rfl,ih,hstop,List.map_cons,lν,cq,aV];by_cases he:l[j+1]=M.params[j].kind
  ·rw[if_pos he];simp only[he,true_and]
  ·rw[if_neg he];simp only[he,false_and,decide_false,Bool.not_false]
theorem xz {α:Type}(f:α→List Nat)(s:List Nat):(fun a=>aO (f a) s)=fun a=>decide (f a=s):=by funext a;rw[dB]
theorem UX {n:Nat}(c:RS)(h:Gy c)(i:Nat)(x:No)(hx:c.m.nodes[i]?=some x)(hv:cm c.m.nodes x=true):Out c i (w7 c i (cw c i x)) (evFn lay0.tab (n+1004) 95 [.box 0 0,.p (.int .i64 i)] c.k.hp):=by
 have hi:i<c.m.nodes.length:=by
  rcases lπ i c.m.nodes.length with h1|h1
  ·exact h1
  ·rw[lζ h1]at hx;cases hx
 have hxi:c.m.nodes[i]=x:=by rw[lγ hi]at hx;exact Option.some.inj hx
 have hkd:=h.kd i x hx;have hkl:=h.kl x (mα hx);obtain⟨a1,a2,a3,a4,a5⟩:=aeK hv;have hkk:(iC c.ks x.kids).length=x.kids.length:=by simp[iC]
 suffices hs:Out c i (w7 c i (cw c i x)) (tJ (bv lay0.tab (n+1003)) (n+1003) c.k i) by
  obtain⟨e,h1,h2⟩:=hs;exact⟨e,VA (n+1003) c.k i _ h1,h2⟩
 have e1:=aa (Qy (n:=n+2) c x.kids (fun k hk=>by obtain⟨g1,g2⟩:=hkd k hk;exact⟨g1,by have:=h.sl;omega⟩) hkl);have fin:=fun k=>Out.fin (n:=n+1) h hi k
 have err:∀e:Int,e≠0→Out c i (w7 c i none) (some (.p (.int .i64 e),c.k.hp)):=fun e he=>by rw[Nj];exact Out.err he
 unfold tJ;simp only[show c.k.ns=c.m.nodes.map No.e from rfl,aE,aH,aG hi,hxi,be,sI,rL,Cc,Gk,Il,pR,e1,ba,mW,dRS];have eT:∀{k:Int},x.op=k→aB x.op k=true:=fun h=>by rw[aV];exact mδ h
 have eF:∀{k:Int},¬x.op=k→aB x.op k=false:=fun h=>by rw[aV];exact lω h
 by_cases o1:x.op=1
 ·rw[eT o1,aP];have hR:=Um c i x o1;rw[hR];exact fin _
 rw[eF o1,aS];by_cases o3:x.op=3
 ·rw[eT o3,aP];have hR:=Uo c i x o3;rw[hR];exact fin _
 rw[eF o3,aS];by_cases o2:x.op=2
 ·rw[eT o2,aP];have hR:=Un c i x o2;rw[hR];have e2:=aa (oH (n:=n+2) c.a c.m c.par i x.name h.fl h.ql h.pl h.nl);simp only[Ac.e,af.e,Ac.r,Me.e,ah.e,Me.r]at e2;simp only[Zx,Zv,Zw,Zt,Zu,NH,Ts,aeQ,e2,ba,aA,ZJ];cases pW c.a c.m c.par i x.name with
  |none=>exact err 14 (by decide)
  |some v=>exact fin _
 rw[eF o2,aS];by_cases o4:x.op=4
 ·rw[eT o4,aP];have hR:=Up c i x o4;rw[hR];obtain⟨k,hk⟩:=len1 (hkk.trans (a1 (.inl o4)));simp only[hk,aE,aH,cO,be,dI,aV,cq,List.headD_cons,unK];cases aO x.name [33]
  ·simp only[aS,cond_false];by_cases hc:k=1
   ·rw[if_pos hc,if_pos hc];exact fin _
   ·rw[if_neg hc,if_neg hc];exact err 15 (by decide)
  ·simp only[aP,cond_true];by_cases hc:k=2
   ·rw[if_pos hc,if_pos hc];exact fin _
   ·rw[if_neg hc,if_neg hc];exact err 15 (by decide)
 rw[eF o4,aS];by_cases o5:x.op=5
 ·rw[eT o5,aP];have hR:=Uq c i x o5;rw[hR];obtain⟨k,k',hk⟩:=ah1 (hkk.trans (a2 (.inl o5)));have e2:=aa (Ms (n:=n+1002) x.name k k');simp only[hk,aE,aH,cO,show eG [k,k'] 1=some k' from rfl,be,dI,e2,ba,bz,aA,List.getD_cons_zero,List.getD_cons_succ];by_cases hc:rBi x.name k k'<0
  ·rw[cT hc,if_pos hc];exact err 15 (by decide)
  ·rw[Bq hc,if_neg hc];exact fin _
 rw[eF o5,aS];by_cases o6:x.op=6
 ·rw[eT o6,aP];have hR:=Ur c i x o6;rw[hR];have e2:=aa (IT (n:=n) x.name (iC c.ks x.kids) (by rw[hkk];exact hkl));simp only[e2,ba,bz,aA,aV,dt];by_cases hc:Py x.name (iC c.ks x.kids)<0
  ·rw[cT hc,if_pos hc,aP];split
   ·exact err 14 (by decide)
   ·exact err 15 (by decide)
  ·rw[Bq hc,if_neg hc,aS,if_neg (by omega)];exact fin _
 rw[eF o6,aS];by_cases o7:x.op=7
 ·rw[eT o7,aP];have hR:=Us c i x o7;rw[hR];obtain⟨k,r,hk⟩:=agY (l:=iC c.ks x.kids) (by rw[hkk];exact a4 (.inl o7));have e2:=aa (rN (n:=n+2) c.p x.name h.tl);simp only[ahD,e2,ba,bz,aA,To,jR,hk,List.headD_cons,List.tail_cons];rw[xz (fun a:Ac=>a.name),←hD];cases hf:c.p.findIdx? fun a=>decide (a.name=x.name)with
  |none=>exact err 14 (by decide)
  |some j=>
   have hj:=(lσ.1 hf).1;have e3:=aa (ur (n:=n+2) c.p[j] x.v.s (h.ml _ (lι _)));simp only[Ac.e,af.e,Ac.r]at e3;simp only[lI,Bq (show ¬(j:Int)<0 by omega),aS,aE,aH,aG hj,be,HQ,Ac.r,af.e,e3,ba,bz,aA,lγ hj];rw[xz (fun a:Me=>a.name),←hD];cases hg:c.p[j].methods.findIdx? fun a=>decide (a.name=x.v.s)with
   |none=>exact err 14 (by decide)
   |some w=>
    have hw:=(lσ.1 hg).1;simp only[Bq (show ¬(w:Int)<0 by omega),aS,aG hw,be,NK,lγ hw,cO,dI,aV,cq,sz];have hmp:=h.mp _ (lι hj) _ (lι hw);have hkl2:(k::r).length<1000:=by rw[←hk,hkk];exact hkl
    generalize hM:c.p[j].methods[w]=M at hmp ⊢
    have stop:∀(k0:iG→R) (W:R),(∀j,k0 ((i:Int),(k::r).map iE,M.r.Result,true,j,c.k,M.r)=W)→L_r19node_1 (bv lay0.tab (n+1003)) (n+1003) k0 (n+1003) ((i:Int),(k::r).map iE,M.r.Result,true,0,c.k,M.r)=W:=fun k0 W hk=>by
     rw[lW];simp only[fS,aP,hk];cases aU 0 (M.r.Params.length:Int)<;>rfl
    by_cases h3:k=3
    ·rw[if_pos h3];have hw2:aj .i64 ((((k::r).map iE).length:Int) - 1)=(r.length:Int):=by
      rw[lβ,List.length_cons,jT (by simp at hkl2;omega) (by simp at hkl2;omega)];omega
     rw[hw2,show(M.r.Params.length:Int)=(M.params.length:Int)from congrArg Int.ofNat (lβ ..)];by_cases hl:(r.length:Int)=(M.params.length:Int)
     ·rw[if_pos hl];have ha:=HH (m:=n+1003) (i:Int) (k::r) M.r.Result c.k M (by simp;omega) hmp (fun(i110,l111,i112,b113,i114,u115,u116)=>iL b113 (some (.p (.int .i64 15),u115.hp)) (bu (bv lay0.tab (n+1003)) i110 u115 i112)) (fun b=>iL b (some (.p (.int .i64 15),c.k.hp)) (bu (bv lay0.tab (n+1003)) (i:Int) c.k M.r.Result)) (fun _ _=>rfl) M.params.length (n+1003) 0 (by omega) (by omega)
      simp only[Nat.zero_add,List.drop_succ_cons,List.drop_zero]at ha;refine Eq.mpr (congrArg (Out c i _) ha) ?_;by_cases hr:r=M.params.map (·.kind)
      ·rw[if_pos ⟨h3,hr⟩,mδ hr];exact fin _
      ·rw[if_neg (fun g=>hr g.2),lω hr];exact err 15 (by decide)
     ·rw[if_neg hl,if_neg (fun g=>hl (by rw[g.2];simp))];refine Eq.mpr (congrArg (Out c i _) (stop _ (some (.p (.int .i64 15),c.k.hp)) fun _=>rfl)) ?_
      exact err 15 (by decide)
    ·rw[if_neg h3,if_neg (fun g=>h3 g.1)];refine Eq.mpr (congrArg (Out c i _) (stop _ (some (.p (.int .i64 15),c.k.hp)) fun _=>rfl)) ?_
     exact err 15 (by decide)
 rw[eF o7,aS];by_cases o8:x.op=8
 ·rw[eT o8,aP];have hR:=LC c i x o8;rw[hR];obtain⟨k,hk⟩:=len1 (hkk.trans (a1 (.inr (.inl o8))));have e2:=aa (UW (n:=n+2) c.m.nodes i x.name (by omega) h.nl);have e3:=aa (Dg (n:=n+2) c.a x.name h.fl);have e4:=aa (Dh (n:=n+2) c.m c.m.params.length x.name (Nat.le_refl _) h.ql);simp only[Ac.e,af.e,Ac.r,Me.e,ah.e,Me.r]at e3 e4;rw[List.take_length]at e4;have hln:nB (c.m.nodes.take i)≤i:=by
   unfold nB;have:=List.length_filter_le (fun x:No=>decide (x.op=8)) (c.m.nodes.take i);simp at this ⊢
   omega
  have hnl:=h.nl;have hql:=h.ql;have hw:aj .i64 (aj .i64 ((nB (c.m.nodes.take i):Int)+1)+(c.m.params.length:Int))=((nB (c.m.nodes.take i)+1+c.m.params.length:Nat):Int):=by
   rw[wS (by unfold cb;omega),jT (by omega) (by omega)];omega
  simp only[Zx,Zv,Zw,Zt,Zu,NH,Ts,lβ,e2,e3,e4,hw,bt,cg,ba,bz,aC,aA,hk,aE,aH,cO,be,dI,aV,cq,R3,List.headD_cons];cases nA (c.m.nodes.take i) x.name
  ·cases c.a.fields.any fun f=>aO f.name x.name
   ·cases c.m.params.any fun f=>aO f.name x.name
    ·by_cases h9:nB (c.m.nodes.take i)+1+c.m.params.length≤8
     ·rw[Bq (by omega)];by_cases hc:k=x.v.k
      ·simp only[aS,h9,hc,decide_true,Bool.not_false,Bool.and_self,if_true];exact fin _
      ·simp only[aS,h9,hc,decide_true,decide_false,Bool.not_false,Bool.and_false,Bool.false_eq_true,if_false];exact err 15 (by decide)
     ·rw[cT (by omega)];simp only[aS,aP,h9,decide_false,Bool.not_false,Bool.false_and,Bool.and_false,Bool.false_eq_true,if_false];exact err 5 (by decide)
    ·simp only[aS,aP,Bool.not_true,Bool.not_false,Bool.false_and,Bool.and_false,Bool.false_eq_true,if_false];exact err 7 (by decide)
   ·simp only[aS,aP,Bool.not_true,Bool.not_false,Bool.false_and,Bool.and_false,Bool.false_eq_true,if_false];exact err 7 (by decide)
  ·simp only[aS,aP,Bool.not_true,Bool.not_false,Bool.false_and,Bool.and_false,Bool.false_eq_true,if_false];exact err 7 (by decide)
 rw[eF o8,aS];by_cases o9:x.op=9
 ·rw[eT o9,aP];have hR:=Ut c i x o9;rw[hR];obtain⟨k,hk⟩:=len1 (hkk.trans (a1 (.inr (.inr (.inl o9)))));have e2:=aa (oH (n:=n+2) c.a c.m c.par i x.name h.fl h.ql h.pl h.nl);simp only[Ac.e,af.e,Ac.r,Me.e,ah.e,Me.r]at e2;simp only[Zx,Zv,Zw,Zt,Zu,NH,Ts,aeQ,e2,ba,aA,ZJ,hk,aE,aH,cO,be,dI,aV,cq,List.headD_cons];cases pW c.a c.m c.par i x.name with
  |none=>exact err 14 (by decide)
  |some v=>
   simp only[Option.isSome_some,aP,Option.map_some,Option.getD_some];by_cases hc:k=v.kind
   ·rw[if_pos hc,if_pos hc];exact fin _
   ·rw[if_neg hc,if_neg hc];exact err 15 (by decide)
 rw[eF o9,aS];by_cases o11:x.op=11
 ·rw[eT o11,aP];have hR:=Pz c i x o11;rw[hR];obtain⟨k,r,hk⟩:=agY (l:=iC c.ks x.kids) (by rw[hkk];exact a4 (.inr (.inl o11)));simp only[hk,aE,aH,cO,be,dI,aV,cq,List.headD_cons];by_cases hc:k=2
  ·rw[if_pos hc,if_pos hc];exact fin _
  ·rw[if_neg hc,if_neg hc];exact err 15 (by decide)
 rw[eF o11,aS];by_cases o12:x.op=12
 ·rw[eT o12,aP];have hR:=PA c i x o12;rw[hR];obtain⟨k,r,hk⟩:=agY (l:=iC c.ks x.kids) (by rw[hkk];exact a4 (.inr (.inr o12)));simp only[hk,aE,aH,cO,be,dI,aV,cq,List.headD_cons];by_cases hc:k=2
  ·rw[if_pos hc,if_pos hc];exact fin _
  ·rw[if_neg hc,if_neg hc];exact err 15 (by decide)
 rw[eF o12,aS];by_cases o13:x.op=13
 ·rw[eT o13,aP];have hR:=PB c i x o13;rw[hR];simp only[NH,sw,lβ,aV,cq,dt];match hk:iC c.ks x.kids,hkk with
  |[],_=>
   simp only[List.length_nil,Int.cast_ofNat_Int,Int.reduceEq,if_false];by_cases hc:c.m.result=0
   ·rw[if_pos hc,if_pos hc];exact fin _
   ·rw[if_neg hc,if_neg hc];exact err 15 (by decide)
  |[k],_=>
   simp only[List.length_cons,List.length_nil,Nat.zero_add,Int.cast_ofNat_Int,if_true,aE,aH,cO,be,dI];by_cases hc:c.m.result=0
   ·rw[if_pos hc,if_neg (fun g=>g.1 hc)];exact err 15 (by decide)
   ·rw[if_neg hc];by_cases hc2:k=c.m.result
    ·rw[if_pos hc2,if_pos ⟨hc,hc2⟩];exact fin _
    ·rw[if_neg hc2,if_neg (fun g=>hc2 g.2)];exact err 15 (by decide)
  |_::_::_,hkk=>
   have:=a5 o13;simp at hkk;omega
 rw[eF o13,aS];by_cases o15:x.op=15
 ·rw[eT o15,aP];have hR:=PC c i x o15;rw[hR];obtain⟨k,k',hk⟩:=ah1 (hkk.trans (a2 (.inr o15)));simp only[hk,aE,aH,cO,show eG [k,k'] 1=some k' from rfl,be,dI,aV,cq,lν,and_true];by_cases hc:k=3
  ·rw[if_pos hc];by_cases hc2:k'=1
   ·rw[if_pos hc2,if_pos ⟨hc,hc2⟩];exact fin _
   ·rw[if_neg hc2,if_neg (fun g=>hc2 g.2)];exact err 15 (by decide)
  ·rw[if_neg hc,if_neg (fun g=>hc g.1)];exact err 15 (by decide)
 rw[eF o15,aS];by_cases o16:x.op=16
 ·rw[eT o16,aP];have hR:=PD c i x o16;rw[hR];obtain⟨k,k',k2,hk⟩:=aiT (hkk.trans (a3 o16));simp only[hk,aE,aH,cO,show eG [k,k',k2] 1=some k' from rfl,show eG [k,k',k2] 2=some k2 from rfl,be,dI,aV,cq,lν,and_true];by_cases hc:k=3
  ·rw[if_pos hc];by_cases hc2:k'=1
   ·rw[if_pos hc2];by_cases hc3:k2=1
    ·rw[if_pos hc3,if_pos ⟨hc,hc2,hc3⟩];exact fin _
    ·rw[if_neg hc3,if_neg (fun g=>hc3 g.2.2)];exact err 15 (by decide)
   ·rw[if_neg hc2,if_neg (fun g=>hc2 g.2.1)];exact err 15 (by decide)
  ·rw[if_neg hc,if_neg (fun g=>hc g.1)];exact err 15 (by decide)
 rw[eF o16,aS];by_cases o17:x.op=17
 ·rw[eT o17,aP];have hR:=PE c i x o17;rw[hR];obtain⟨k,hk⟩:=len1 (hkk.trans (a1 (.inr (.inr (.inr o17)))));simp only[hk,aE,aH,cO,be,dI,aV,cq,List.headD_cons];by_cases hc:k=3
  ·rw[if_pos hc,if_pos hc];exact fin _
  ·rw[if_neg hc,if_neg hc];exact err 15 (by decide)
 rw[eF o17,aS];by_cases o18:x.op=18
 ·rw[eT o18,aP];have hR:=PF c i x o18;rw[hR];have e2:=aa (TB (n:=n+3) h (i:=(i:Int)) (by omega) (by omega));have hnl:=h.nl;have hw:aj .i64 (((c.m.nodes.length:Nat):Int) - 1)=(c.m.nodes.length:Int) - 1:=jT (by omega) (by omega);simp only[Ts,NH,lβ,hw,e2,ba,aC,aA,aV,cq,dt];by_cases hc:i+1=c.m.nodes.length
  ·rw[if_pos (show(i:Int)=(c.m.nodes.length:Int) - 1 by omega)];by_cases hr:c.m.result=0
   ·rw[if_pos hr,if_neg (fun g=>g.2.1 hr)];exact fin _
   ·rw[if_neg hr];cases he:jE c.m.nodes (i:Int)with
    |true=>simp only[aP,Bool.true_eq_false,and_false,if_false];exact fin _
    |false=>rw[if_pos ⟨hc,hr,rfl⟩];exact err 15 (by decide)
  ·rw[if_neg (show ¬(i:Int)=(c.m.nodes.length:Int) - 1 by omega),if_neg (fun g=>hc g.1)];exact fin _
 rw[eF o18,aS];have hR:cw c i x=some 0:=by simp only[cw,o1,o2,o3,o4,o5,o6,o7,o8,o9,o11,o12,o13,o15,o16,o17,o18,if_false]
 rw[hR];exact fin _
end
end Go.Ab
end
section
namespace Go.Ab
open Go
set_option maxRecDepth 100000
noncomputable section
def uP (c:RS)(i:Nat):Option RS:=match c.m.nodes[i]? with|none=>none|some x=>(w7 c i (cw c i x)).map (c.put i)
def gB:Nat→Nat→RS→Option RS
 |0,_,c=>some c
 |n+1,i,c=>match uP c i with|none=>none|some c'=>gB n (i+1) c'
def RS.ini (p:List Ac)(a:Ac)(m:Me):RS:=⟨p,a,m,qU m.nodes,List.replicate m.nodes.length 0⟩
def yl (a:Ac)(m:Me):Bool:=(List.range m.params.length).all fun i=>match m.params[i]? with
 |some x=>!((a.fields.any fun f=>aO f.name x.name)||((m.params.take i).any fun f=>aO f.name x.name))
 |none=>true
def qS (p:List Ac)(a:Ac)(k:Nat):Option (List Int):=match a.methods[k]? with
 |none=>none
 |some m=>if((a.methods.take k).any fun f=>aO f.name m.name)=true then none else if yl a m=true then(gB m.nodes.length 0 (RS.ini p a m)).map (·.ks)else none
def uJ (a:Ac):Bool:=(List.range a.fields.length).all fun i=>match a.fields[i]? with
 |some x=>!((a.fields.take i).any fun f=>aO f.name x.name)
 |none=>true
def sC (f:Nat→Bool):Nat→Nat→Bool
 |0,_=>true
 |e+1,j=>f j&&sC f e (j+1)
def SR (p:List Ac)(t:Nat):Bool:=match p[t]? with
 |none=>true
 |some a=>decide (p.findIdx? (fun b=>aO b.name a.name)=some t)&&(uJ a&&sC (fun k=>(qS p a k).isSome) a.methods.length 0)
def oS (p:List Ac):Bool:=cN p&&sC (SR p) p.length 0
theorem P2 {N:Nat}{i:Int}(hi:i<(N:Int)):∀(l out:List Int),(∀b∈out,b<(N:Int))→∀b∈FX i l out,b<(N:Int)
 |[],out,h=>h
 |k::r,out,h=>P2 hi r _ fun b hb=>by
  rcases List.mem_or_eq_of_mem_set hb with hb|rfl
  ·exact h b hb
  ·exact hi
theorem Pr {N:Nat}:∀(l:List No) (i:Nat) (out:List Int),i+l.length≤N→(∀b∈out,b<(N:Int))→∀b∈AJ l i out,b<(N:Int)
 |[],_,_,_,h=>h
 |x::r,i,out,hl,h=>Pr r (i+1) _ (by simp at hl;omega) (P2 (by simp at hl;omega) _ _ h)
theorem HL {ns:List No}(h:iM ns=true):eJ ns 0 []=true:=by
 unfold iM at h;rw[lδ]at h;exact h.1
theorem HK {ns:List No}(h:iM ns=true):∀x∈ns,cm ns x=true:=by
 unfold iM at h;simp only[lδ,mη]at h;exact fun x hx=>(h.2.2.1 x hx).1
theorem CJ {ns:List No}(h:iM ns=true):∀(i:Nat) x,ns[i]?=some x→eN i x.kids:=fun i x hx=>by
 have:=C1 ns 0 [] (fun k h=>by cases h) (HL h) i x hx;rw[Nat.zero_add]at this;exact this
theorem q8 {p:List Ac}(hv:cN p=true){a:Ac}(ha:a∈p){m:Me}(hm:m∈a.methods):iM m.nodes=true∧uN m=true:=by
 unfold cN at hv;rw[lδ]at hv;obtain⟨t,ht⟩:=Option.isSome_iff_exists.1 hv.2;exact(SS p 0 t ht a ha).2 m hm
theorem Kj {p:List Ac}(hp:tU p)(hv:cN p=true){a:Ac}(ha:a∈p){m:Me}(hm:m∈a.methods):Gy (RS.ini p a m):=by
 have hb:=(q8 hv ha hm).1;have hz:=(hp.ac a ha).mm m hm;refine⟨hz.ns,fun x hx=>(hz.nx x hx).ks,CJ hb,?_,?_,?_,hp.ty,fun a ha=>(hp.ac a ha).me,fun a ha m hm=>((hp.ac a ha).mm m hm).ps,(hp.ac a ha).fl,hz.ps⟩
 ·show(qU m.nodes).length=m.nodes.length;unfold qU;rw[Fy];simp
 ·show ∀b∈qU m.nodes,b<(m.nodes.length:Int);exact Pr m.nodes 0 _ (by omega) fun b hb=>by rw[List.eq_of_mem_replicate hb];omega
 ·show(List.replicate m.nodes.length (0:Int)).length=_;simp[RS.ini]
theorem IG:∀(n i:Nat) (c c':RS),gB n i c=some c'→c'.m=c.m∧c'.p=c.p∧c'.a=c.a∧c'.par=c.par
 |0,_,c,c',h=>by simp only[gB,lα]at h;subst h;exact⟨rfl,rfl,rfl,rfl⟩
 |n+1,i,c,c',h=>by
  simp only[gB]at h;split at h
  ·cases h
  ·rename_i c1 h1;obtain⟨g1,g2,g3,g4⟩:=IG n (i+1) c1 c' h;unfold uP at h1;split at h1
   ·cases h1
   ·rw[mρ]at h1;obtain⟨k,_,rfl⟩:=h1;exact⟨g1,g2,g3,g4⟩
def MetOut (o:Option (List Int))(r:R):Prop:=∃(pl:aK) (e:Int) (l:List Int),r=some (.tup [.p pl.e,.p (.int .i64 e),.p (.slice 1 (l.map iE))],[])∧(match o with|some ks=>e=0∧l=ks|none=>e≠0)
theorem OV {n:Nat}(M:Me)(hb:∀x∈M.nodes,cm M.nodes x=true)(t k:Int)(k0:Int×aK×ah×ww→R)(k1:gK→R)(hk0:∀e pl u,e≠0→MetOut none (k0 (e,pl,M.r,u)))(hk1:∀i (c:RS),c.ks.length=M.nodes.length→MetOut (some c.ks) (k1 (t,k,i,M.r,c.k))):∀(e q i:Nat) (c:RS),c.m=M→Gy c→i+e=M.nodes.length→e<q→
  MetOut ((gB e i c).map (·.ks)) (gL (bv lay0.tab (n+1004)) (n+1004) k0 k1 q (t,k,(i:Int),M.r,c.k))
 |0,q+1,i,c,hm,h,hi,_=>by
  obtain rfl:i=M.nodes.length:=by omega
  rw[sq];simp only[gU,show M.r.Nodes=M.nodes.map No.e from rfl,lβ,bY,aS,gB,Option.map_some];exact hk1 _ c (by rw[h.sl,hm])
 |e+1,q+1,i,c,hm,h,hi,hq=>by
  have hil:i<M.nodes.length:=by omega
  have hx:c.m.nodes[i]?=some M.nodes[i]:=by rw[hm];exact lγ hil
  obtain⟨er,h1,h2⟩:=UX (n:=n) c h i _ hx (by rw[hm];exact hb _ (lι _));rw[sq];simp only[gU,show M.r.Nodes=M.nodes.map No.e from rfl,lβ,cT (show((i:Int)<(M.nodes.length:Int)) by omega),aP,aa h1,ba,bz,gB,uP,hx];cases ho:w7 c i (cw c i M.nodes[i])with
  |none=>
   rw[ho]at h2;have he:er≠0:=fun g=>by have:=h2.1 g;simp at this
   simp only[dRS,aV,he,decide_false,Bool.not_false,aP,Option.map_none];exact hk0 _ _ _ he
  |some kd=>
   rw[ho]at h2;have he:er=0:=h2.2 rfl;simp only[dRS,aV,he,decide_true,Bool.not_true,aS,Option.map_some,wS (show i<cb by unfold cb;have:=h.nl;rw[hm]at this;omega)];exact OV M hb t k k0 k1 hk0 hk1 e q (i+1) (c.put i kd) hm (h.put i kd) (by omega) (by omega)
theorem aiU {m:Nat}(p:List Ac)(t k:Nat)(ht:t<p.length)(hk:k≤p[t].methods.length)(hz:p[t].methods.length<1000)(M:Me)(k0:ab×Int×Int×ah→R)(k1:gI→R){q:Nat}(hq:1000≤q):
  L_r19method_1 (bv lay0.tab m) m k0 k1 q ((t:Int),(k:Int),0,⟨p.map Ac.e⟩,M.r)=if((p[t].methods.take k).any fun f=>aO f.name M.name)=true then k0 (⟨p.map Ac.e⟩,t,k,M.r)else k1 (t,k,k,⟨p.map Ac.e⟩,M.r):=by
 have htk:(p[t].methods.take k).length=k:=by simp;omega
 refine(aX (p[t].methods.take k) (fun q i=>L_r19method_1 _ m _ _ q ((t:Int),(k:Int),i,⟨p.map Ac.e⟩,M.r)) (fun f=>aO f.name M.name) (fun i=>k0 (⟨p.map Ac.e⟩,t,k,M.r)) (k1 (t,k,k,⟨p.map Ac.e⟩,M.r)) (fun q i hi=>?_) (fun q=>?_) (by omega)).trans ?_
 ·rw[sj];have hi2:i<p[t].methods.length:=by omega
  simp only[gS,cT (show((i:Int)<(k:Int)) by omega),aP,aE,aH,aG ht,be,HQ,show p[t].r.Methods=p[t].methods.map Me.e from rfl,aG hi2,NK,wS (show i<cb by unfold cb;omega),show ∀m:Me,m.r.Name=m.name from fun _=>rfl,qη];exact de _ _ _
 ·rw[htk,sj];simp only[gS,bY,aS]
 ·rw[←List.findIdx?_isSome];cases(p[t].methods.take k).findIdx? fun f=>aO f.name M.name<;>rfl
theorem aiV {n:Nat}(p:List Ac)(hp:tU p)(t:Nat)(k:Int)(ht:t<p.length)(M:Me)(hM:M.params.length<1000)(k0:ab×Int×Int×ah→R)(k1:gJ→R):
  L_r19method_2 (bv lay0.tab (n+1004)) (n+1004) k0 k1 (n+1004) ((t:Int),k,0,⟨p.map Ac.e⟩,M.r)=if yl p[t] M=true then k1 (t,k,M.params.length,⟨p.map Ac.e⟩,M.r)else k0 (⟨p.map Ac.e⟩,t,k,M.r):=by
 have hz:=hp.ac p[t] (lι _);refine(aX (List.range M.params.length) (fun q i=>L_r19method_2 _ (n+1004) _ _ q ((t:Int),k,i,⟨p.map Ac.e⟩,M.r)) (fun i=>!(match M.params[i]? with
 |some x=>!((p[t].fields.any fun f=>aO f.name x.name)||((M.params.take i).any fun f=>aO f.name x.name))
 |none=>true)) (fun i=>k0 (⟨p.map Ac.e⟩,t,k,M.r)) (k1 (t,k,M.params.length,⟨p.map Ac.e⟩,M.r)) (fun q i hi=>?_) (fun q=>?_) (by simp;omega)).trans ?_
 ·rw[so];have hi2:i<M.params.length:=by simpa using hi
  have e1:=aa (Dg (n:=n+3) p[t] M.params[i].name hz.fl);have e2:=aa (Dh (n:=n+3) M i M.params[i].name (by omega) hM);simp only[Ac.e,Me.e]at e1 e2;simp only[gT,show M.r.Params=M.params.map Pa.e from rfl,lβ,cT (show((i:Int)<(M.params.length:Int)) by omega),aP,aE,aH,aG ht,be,HQ,aG hi2,ZH,e1,e2,ba,aC,aA,wS (show i<cb by unfold cb;omega),show ∀m:Pa,m.r.Name=m.name from fun _=>rfl,List.getElem_range,lγ hi2];cases(p[t].fields.any fun f=>aO f.name M.params[i].name)<;>cases((M.params.take i).any fun f=>aO f.name M.params[i].name)<;>rfl
 ·rw[List.length_range,so];simp only[gT,show M.r.Params=M.params.map Pa.e from rfl,lβ,bY,aS]
 ·unfold yl;rw[eQ];split
  ·rename_i h;rw[h];rfl
  ·rename_i h;rw[h];rfl
theorem AV {n:Nat}(p:List Ac)(hp:tU p)(hv:cN p=true)(t k:Nat)(ht:t<p.length)(hk:k<p[t].methods.length):MetOut (qS p p[t] k) (evFn lay0.tab (n+1005) 57 [.p (.agg [.slice 3 (p.map Ac.e)]),.p (.int .i64 t),.p (.int .i64 k)] []):=by
 suffices hs:MetOut (qS p p[t] k) (nF (bv lay0.tab (n+1004)) (n+1004) ⟨p.map Ac.e⟩ t k) by
  obtain⟨pl,e,l,h1,h2⟩:=hs;exact⟨pl,e,l,M5 (n+1004) ⟨p.map Ac.e⟩ t k _ h1,h2⟩
 have ha:p[t]∈p:=lι _;have hz:=hp.ac _ ha;have hm:p[t].methods[k]∈p[t].methods:=lι _;have hzm:=hz.mm _ hm;have hin:=Kj hp hv ha hm;have hbo:=(q8 hv ha hm).1;have hkd:∀x∈p[t].methods[k].nodes,eN p[t].methods[k].nodes.length x.kids:=fun x hx=>by
  obtain⟨i,hi,rfl⟩:=qα hx;intro y hy;obtain⟨g1,g2⟩:=CJ hbo i _ (lγ hi) y hy;exact⟨g1,by omega⟩
 have e1:=aa (wx (n:=n+2) p[t].methods[k].nodes hzm.ns hkd (fun x hx=>(hzm.nx x hx).ks));have hns:=hzm.ns;unfold nF qS;simp only[aE,aH,aG ht,be,HQ,show p[t].r.Methods=p[t].methods.map Me.e from rfl,aG hk,NK,lγ hk,aiU p t k ht (by omega) hz.me _ _ _ (show 1000≤n+1004 by omega),aiV p hp t _ ht _ hzm.ps];have hdup:∀(i:Int),MetOut none (some (.tup [.p (.agg [.int .i64 t,.int .i64 k,.int .i64 i]),.p (.int .i64 7),.p (.slice 1 [])],[])):=fun i=>⟨⟨t,k,i⟩,7,[],rfl,by decide⟩
 split
 ·exact hdup _
 ·split
  ·simp only[aE,aH,aG ht,be,HQ,show p[t].methods[k].r.Nodes=p[t].methods[k].nodes.map No.e from rfl,e1,ba,mW,aA,lβ,bJ,show(0:Int)≤(p[t].methods[k].nodes.length:Int) by omega,Int.le_refl,decide_true,Bool.true_and,Int.toNat_natCast,show Nat.ble (p[t].methods[k].nodes.length*8) 281474976710656=true by rw[Nat.ble_eq];omega,show(p[t].methods[k].nodes.length:Int)≤9223372036854775807 by omega,aP];have g:=OV (n:=n) p[t].methods[k] (HK hbo) (t:Int) (k:Int) (fun(i67,u68,u69,u70)=>some ((.tup [(.p u68.e),(.p (.int .i64 i67)),(.p (.slice 1 []))]),[])) (fun(i71,i72,i73,u74,u75)=>some ((.tup [(.p (.agg [(.int .i64 0),(.int .i64 0),(.int .i64 0)])),(.p (.int .i64 0)),(.p (.slice 1 (List.take u75.ln (List.drop 0 u75.ks))))]),[])) (fun e pl u he=>⟨pl,e,[],rfl,he⟩) (fun i c hl=>⟨⟨0,0,0⟩,0,c.ks,by
    show some (D.tup [_,_,.p (.slice 1 (List.take c.ks.length (List.drop 0 (c.ks.map iE))))],[])=_;rw[List.drop_zero,mκ (by simp)];rfl,rfl,rfl⟩) p[t].methods[k].nodes.length (n+1004) 0 (RS.ini p p[t] p[t].methods[k]) rfl hin (by omega) (by omega)
   have hck:(ww.mk (p.map Ac.e) p[t].r.Name p[t].r.Fields p[t].r.Methods p[t].methods[k].r.Name p[t].methods[k].r.Params p[t].methods[k].r.Result (p[t].methods[k].nodes.map No.e) ((qU p[t].methods[k].nodes).map iE) p[t].methods[k].nodes.length (List.replicate p[t].methods[k].nodes.length (Da.int .i64 0)))=(RS.ini p p[t] p[t].methods[k]).k:=by
    unfold RS.ini RS.k;simp only[List.length_replicate,List.map_replicate];rfl
   refine Eq.mpr (congrArg (MetOut _) (congrArg (fun u=>gL (bv lay0.tab (n+1004)) (n+1004) _ _ (n+1004) ((t:Int),(k:Int),0,p[t].methods[k].r,u)) hck)) ?_;exact g
  ·exact hdup _
theorem aix {m:Nat}(a:Ac)(hz:a.fields.length<1000)(t:Int)(i:Nat)(hi:i<a.fields.length)(P:ab)(k0:jb→R)(k1:ab×Int×af→R){q:Nat}(hq:1000≤q):
  L_r19Check_3 (bv lay0.tab m) m k0 k1 q (t,(i:Int),0,P,a.r)=if((a.fields.take i).any fun f=>aO f.name a.fields[i].name)=true then k1 (P,t,a.r)else k0 (t,i,i,P,a.r):=by
 have htk:(a.fields.take i).length=i:=by simp;omega
 refine(aX (a.fields.take i) (fun q j=>L_r19Check_3 _ m _ _ q (t,(i:Int),j,P,a.r)) (fun f=>aO f.name a.fields[i].name) (fun _=>k1 (P,t,a.r)) (k0 (t,i,i,P,a.r)) (fun q j hj=>?_) (fun q=>?_) (by omega)).trans ?_
 ·rw[uA];have hj2:j<a.fields.length:=by omega
  simp only[ju,cT (show((j:Int)<(i:Int)) by omega),aP,aE,aH,be,show a.r.Fields=a.fields.map Fe.e from rfl,aG hj2,aG hi,dFe,wS (show j<cb by unfold cb;omega),show ∀m:Fe,m.r.Name=m.name from fun _=>rfl,qη];exact de _ _ _
 ·rw[htk,uA];simp only[ju,bY,aS]
 ·rw[←List.findIdx?_isSome];cases(a.fields.take i).findIdx? fun f=>aO f.name a.fields[i].name<;>rfl
theorem aiw {m:Nat}(hm:1000≤m)(a:Ac)(hz:a.fields.length<1000)(t:Int)(P:ab)(k0:ja→R)(k1:ab×Int×af→R){q:Nat}(hq:1000≤q):
  L_r19Check_2 (bv lay0.tab m) m k0 k1 q (t,0,P,a.r)=if uJ a=true then k0 (t,a.fields.length,P,a.r)else k1 (P,t,a.r):=by
 refine(aX (List.range a.fields.length) (fun q i=>L_r19Check_2 _ m _ _ q (t,i,P,a.r)) (fun i=>!(match a.fields[i]? with
 |some x=>!((a.fields.take i).any fun f=>aO f.name x.name)
 |none=>true)) (fun i=>k1 (P,t,a.r)) (k0 (t,a.fields.length,P,a.r)) (fun q i hi=>?_) (fun q=>?_) (by simp;omega)).trans ?_
 ·rw[uz];have hi2:i<a.fields.length:=by simpa using hi
  simp only[jt,show a.r.Fields=a.fields.map Fe.e from rfl,lβ,cT (show((i:Int)<(a.fields.length:Int)) by omega),aP,aix a hz t i hi2 P _ _ hm,wS (show i<cb by unfold cb;omega),List.getElem_range,lγ hi2];cases((a.fields.take i).any fun f=>aO f.name a.fields[i].name)<;>rfl
 ·rw[List.length_range,uz];simp only[jt,show a.r.Fields=a.fields.map Fe.e from rfl,lβ,bY,aS]
 ·unfold uJ;rw[eQ];split
  ·rename_i h;rw[h];rfl
  ·rename_i h;rw[h];rfl
theorem agn (u:aK)(K:aK→R):cf u.e K=K u:=rfl
theorem ahC {n:Nat}(p:List Ac)(hp:tU p)(hv:cN p=true)(t:Nat)(ht:t<p.length)(k0:Int×ab×aK×af×aK→R)(k1:jc→R):∀(e q j:Nat),j+e=p[t].methods.length→e<q→
  (sC (fun k=>(qS p p[t] k).isSome) e j=true∧ji (bv lay0.tab (n+1005)) (n+1005) k0 k1 q ((t:Int),(j:Int),⟨p.map Ac.e⟩,p[t].r)=k1 (t,p[t].methods.length,⟨p.map Ac.e⟩,p[t].r))∨
  (sC (fun k=>(qS p p[t] k).isSome) e j=false∧∃er pl,er≠0∧ji (bv lay0.tab (n+1005)) (n+1005) k0 k1 q ((t:Int),(j:Int),⟨p.map Ac.e⟩,p[t].r)=k0 (er,⟨p.map Ac.e⟩,pl,p[t].r,pl))
 |0,q+1,j,h,_=>by
  obtain rfl:j=p[t].methods.length:=by omega
  left;refine⟨rfl,?_⟩;rw[uB];simp only[jv,show p[t].r.Methods=p[t].methods.map Me.e from rfl,lβ,bY,aS]
 |e+1,q+1,j,h,hq=>by
  have hj:j<p[t].methods.length:=by omega
  obtain⟨pl,er,l,h1,h2⟩:=AV (n:=n) p hp hv t j ht hj;rw[uB];simp only[jv,show p[t].r.Methods=p[t].methods.map Me.e from rfl,lβ,cT (show((j:Int)<(p[t].methods.length:Int)) by omega),aP,show(D.p (ab.e ⟨p.map Ac.e⟩))= .p (.agg [.slice 3 (p.map Ac.e)])from rfl,aa h1,bt,cg,ba,bz,mW,aA,agn,aV,sC,wS (show j<cb by unfold cb;have:=(hp.ac p[t] (lι _)).me;omega)];cases hm:qS p p[t] j with
  |none=>
   rw[hm]at h2;right;refine⟨rfl,er,pl,h2,?_⟩;simp only[lω (show ¬er=0 from h2),Bool.not_false,aP]
  |some ks=>
   rw[hm]at h2;simp only[mδ h2.1,Bool.not_true,aS,Option.isSome_some,Bool.true_and];exact ahC p hp hv t ht k0 k1 e q (j+1) (by omega) (by omega)
def ChkOut (b:Bool)(r:R):Prop:=∃(pl:aK) (e:Int),r=some (.tup [.p pl.e,.p (.int .i64 e)],[])∧(e=0↔b=true)
theorem ahB {n:Nat}(p:List Ac)(hp:tU p)(hv:cN p=true)(k0:ab×Int×af→R)(k1:Int×ab×aK×af×aK→R)(k2:iZ→R)(hk0:∀x,ChkOut false (k0 x))(hk1:∀e P pl a,e≠0→ChkOut false (k1 (e,P,pl,a,pl)))(hk2:∀x,ChkOut true (k2 x)):∀(e q t:Nat),t+e=p.length→e<q→
  ChkOut (sC (SR p) e t) (jh (bv lay0.tab (n+1005)) (n+1005) k0 k1 k2 q ((t:Int),⟨p.map Ac.e⟩))
 |0,q+1,t,h,_=>by
  obtain rfl:t=p.length:=by omega
  rw[uy];simp only[jr,lβ,bY,aS,sC];exact hk2 _
 |e+1,q+1,t,h,hq=>by
  have ht:t<p.length:=by omega
  have hz:=hp.ac p[t] (lι _);have e1:=aa (rN (n:=n+4) p p[t].name hp.ty);have hmz:=hz.me;rw[uy];simp only[jr,lβ,cT (show((t:Int)<(p.length:Int)) by omega),aP,aE,aH,aG ht,be,HQ,show p[t].r.Name=p[t].name from rfl,show(D.p (ab.e ⟨p.map Ac.e⟩))= .p (.agg [.slice 3 (p.map Ac.e)])from rfl,e1,ba,bz,aA,sC,SR,lγ ht,aiw (show 1000≤n+1005 by omega) p[t] hz.fl _ _ _ _ (show 1000≤n+1005 by omega),wS (show t<cb by unfold cb;have:=hp.ty;omega)];have key:aB (lI (p.findIdx? fun b=>aO b.name p[t].name)) (t:Int)=decide (p.findIdx? (fun b=>aO b.name p[t].name)=some t):=by
   rw[aV];cases p.findIdx? fun b=>aO b.name p[t].name with
   |none=>simp[lI]
   |some j=>
    simp only[lI,lα];exact decide_eq_decide.2 ⟨by omega,by omega⟩
  rw[key];cases decide (p.findIdx? (fun b=>aO b.name p[t].name)=some t)with
  |false=>exact hk0 _
  |true=>
   simp only[Bool.not_true,aS,Bool.true_and];cases uJ p[t]with
   |false=>exact hk0 _
   |true=>
    simp only[if_true,Bool.true_and];rcases ahC (n:=n) p hp hv t ht (fun(i57,u58,u59,u60,u61)=>k1 (i57,u58,u59,u60,u61)) (fun(i62,i63,u64,u65)=>jh (bv lay0.tab (n+1005)) (n+1005) k0 k1 k2 q (aj .i64 (i62+1),u64)) p[t].methods.length (n+1005) 0 (by omega) (by omega)with⟨g1,g2⟩|⟨g1,er,pl,g2,g3⟩
    ·rw[g1,Bool.true_and];refine Eq.mpr (congrArg (ChkOut _) g2) ?_;simp only[wS (show t<cb by unfold cb;have:=hp.ty;omega)];exact ahB p hp hv k0 k1 k2 hk0 hk1 hk2 e q (t+1) (by omega) (by omega)
    ·rw[g1,Bool.false_and];exact Eq.mpr (congrArg (ChkOut _) g3) (hk1 _ _ _ _ g2)
theorem QV.mono {n m:Nat}{a:Ac}(h:QV n a)(hn:n≤m):QV m a where
 nm:=by have:=h.nm;omega
 ff f hf:=by have:=h.ff f hf;omega
 mm x hx:=⟨by have:=(h.mm x hx).1;omega,fun p hp=>by have:=(h.mm x hx).2.1 p hp;omega,fun y hy=>⟨by have:=((h.mm x hx).2.2 y hy).nm;omega,by have:=((h.mm x hx).2.2 y hy).vs;omega⟩⟩
theorem Qw {n:Nat}(p:List Ac)(hp:tU p)(hs:∀a∈p,QV n a)(hb:n≤200000000000000000000):ChkOut (oS p) (evFn lay0.tab (n+3006) 78 [pD p] []):=by
 suffices hS:ChkOut (oS p) (qi (bv lay0.tab (n+3005)) (n+3005) ⟨p.map Ac.e⟩) by
  obtain⟨pl,e,h1,h2⟩:=hS;exact⟨pl,e,Q6 (n+3005) ⟨p.map Ac.e⟩ _ h1,h2⟩
 have e1:=aa (Qt (n:=n+1) p (fun a ha=>hp.ac a ha) hp.ty (fun a ha=>(hs a ha).mono (by omega)) (by omega));unfold qi oS;rw[show(D.p (ab.e ⟨p.map Ac.e⟩))= .p (.agg [.slice 3 (p.map Ac.e)])from rfl,e1];simp only[ba,aC,aA];cases hv:cN p with
 |false=>exact⟨⟨0,0,0⟩,1,rfl,by simp⟩
 |true=>
  simp only[aP,Bool.true_and];have hpt:=hp.ty;exact ahB (n:=n+2000) p hp hv _ _ _ (fun x=>⟨⟨x.2.1,-1,-1⟩,7,rfl,by decide⟩) (fun e P pl a he=>⟨pl,e,rfl,by simp[he]⟩) (fun x=>⟨⟨0,0,0⟩,0,rfl,by decide⟩) p.length (n+3005) 0 (by omega) (by omega)
end
end Go.Ab
end
